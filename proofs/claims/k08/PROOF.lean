import PyProof.Rows.All
import Wide.All
import OpenK.AllK
import Wide.FinOn
import KE.KStateDown
import KE.KExcIs
import Lean
import HandS.ForMost
import HandS.Exc
import HandS.ExcOwn
import HandS.ExcInit
import HandS.ExcCtx
import HandS.ExcIs
import HandS.ExcField
import HandS.TryMany
import HandS.HotCalls
import HandS.ExcInitHot
import HandS.IsInst
import HandS.Wide
import HandS.WideBits
import HandS.Defaults
import HandS.Codes
import HandS.WordsExc
import HandS.EndBits
import HandS.Head0
import HandS.Head1
import HandS.Head2
import HandS.HeadEnd
import HandS.HeadHook1
import HandS.HeadHook2
import HandS.HeadHook3
import HandS.HeadHook4
import HandS.Evl
import PySem.Challenge.RW_formkin_k08_books_written
import HandS.HeadWalk
import HandS.EndTab
import HandS.Replace
import HandS.Conv
import HandS.RevTup
import HandS.Rev
import HandS.Iter
import HandS.MapObj
import HandS.RaiseMore
import KE.SortKeyHeap
import HandS.Style
import HandS.Keys
import HandS.SortRule
set_option Elab.async false
set_option linter.all false
set_option maxRecDepth 100000
set_option maxHeartbeats 4000000
namespace Z
open PySem PySem.Spec PyProof.Rows L2
abbrev St := L2.St
/-! ### a piece of the text, walked from a state to a wish -/
structure wE (X : Cx) (e : Expr) (σ : St) (H : Hp) (Q : VK) : Prop where
  run : ∀ (pins : List (Addr × Obj)) (s : Shared), Inv X pins σ H s → wpAny (model X.prog X.w) X.A (eval e X.env) (EP X pins σ Q) X.xe s
structure wT (X : Cx) (e : Expr) (σ : St) (H : Hp) (Q : Bool → Hp → Prop) : Prop where
  run : ∀ (pins : List (Addr × Obj)) (s : Shared), Inv X pins σ H s → wpAny (model X.prog X.w) X.A (isTrue e X.env (eval e X.env)) (TP X pins σ Q) X.xe s
structure wW (X : Cx) (e : Expr) (σ : St) (H : Hp) (Q : Bool → Hp → Prop) : Prop where
  run : ∀ (whole : Sem Value) (pins : List (Addr × Obj)) (s : Shared), Inv X pins σ H s → wpAny (model X.prog X.w) X.A (isTrue e X.env whole) (TP X pins σ Q) X.xe s
structure wA (X : Cx) (es : List Expr) (σ : St) (H : Hp) (Q : List V → Hp → Prop) : Prop where
  run : ∀ (pos : Pos) (pins : List (Addr × Obj)) (s : Shared), Inv X pins σ H s → wpAny (model X.prog X.w) X.A (spliced (backTo pos (starEach es X.env))) (AP X pins σ Q) X.xe s
structure wS (X : Cx) (st : Stmt) (D : Ends) (σ : St) (H : Hp) : Prop where
  run : ∀ (pins : List (Addr × Obj)) (s : Shared), Inv X pins σ H s → wpAny (model X.prog X.w) X.A (exec st X.env) (SP X pins D) X.xe s
structure wB (X : Cx) (sts : List Stmt) (D : Ends) (σ : St) (H : Hp) : Prop where
  run : ∀ (pins : List (Addr × Obj)) (s : Shared), Inv X pins σ H s → wpAny (model X.prog X.w) X.A (execs sts X.env) (SP X pins D) X.xe s
structure wG (X : Cx) (tg : Expr) (v : V) (σ : St) (H : Hp) (Q : St → Hp → Prop) : Prop where
  run : ∀ (pins : List (Addr × Obj)) (s : Shared) (u : Value), Inv X pins σ H s → RelV v u → wpAny (model X.prog X.w) X.A (assign tg X.env u) (fun _ s' => ∃ σ' H', Inv X pins σ' H' s' ∧ Q σ' H') X.xe s
structure wGs (X : Cx) (ts : List Expr) (vs : List V) (σ : St) (H : Hp) (Q : St → Hp → Prop) : Prop where
  run : ∀ (pins : List (Addr × Obj)) (s : Shared) (us : List Value), Inv X pins σ H s → Vals vs us → wpAny (model X.prog X.w) X.A (assignInOrder ((assignEach ts X.env).map (·.2)) us) (fun _ s' => ∃ σ' H', Inv X pins σ' H' s' ∧ Q σ' H') X.xe s
/-- an operation on two values -/
structure wO (X : Cx) (f : Value → Value → Sem Value) (x y : V) (H : Hp) (Q : VK) : Prop where
  run : ∀ (pins : List (Addr × Obj)) (s : Shared) (σ : St) (v u : Value), Inv X pins σ H s → RelV x v → RelV y u → wpAny (model X.prog X.w) X.A (f v u) (EP X pins σ Q) X.xe s
/-- a call of a known value -/
structure wK (X : Cx) (f : Value) (xs : List V) (H : Hp) (Q : VK) : Prop where
  run : ∀ (pins : List (Addr × Obj)) (s : Shared) (σ : St) (us : List Value), Inv X pins σ H s → Vals xs us → wpAny (model X.prog X.w) X.A (call f us) (EP X pins σ Q) X.xe s
structure wIx (X : Cx) (x y : V) (H : Hp) (Q : VK) : Prop where
  run : ∀ (value slice : Expr) (pins : List (Addr × Obj)) (s : Shared) (σ : St) (v u : Value), Inv X pins σ H s → RelV x v → RelV y u → subscripted slice false v u = operate [v, u] (getItem v u) → wpAny (model X.prog X.w) X.A (subscriptTail value slice v u) (EP X pins σ Q) X.xe s
section
variable {X : Cx}
theorem sE {e : Expr} : PE X e (wE X e) := ⟨fun pins s σ H Q I h => h.run pins s I⟩
theorem sT {e : Expr} : PT X e (wT X e) := ⟨fun pins s σ H Q I h => h.run pins s I⟩
theorem sW {e : Expr} : PW X e (wW X e) := ⟨fun wh pins s σ H Q I h => h.run wh pins s I⟩
theorem sA {es : List Expr} : PA X es (wA X es) := ⟨fun pos pins s σ H Q I h => h.run pos pins s I⟩
theorem sS {st : Stmt} : PS X st (wS X st) := ⟨fun pins s σ H D I h => h.run pins s I⟩
theorem sB {sts : List Stmt} : PSs X sts (wB X sts) := ⟨fun pins s σ H D I h => h.run pins s I⟩
theorem sG {tg : Expr} : PG X tg (wG X tg) := ⟨fun pins s σ H v u Q I r h => h.run pins s u I r⟩
theorem sGs {ts : List Expr} : PGs X ts (wGs X ts) := ⟨fun pins s σ H vs us Q I r h => h.run pins s us I r⟩
theorem sO {f : Value → Value → Sem Value} : OpR X f (wO X f) := fun pins s σ H x y v u Q I rx ry h => h.run pins s σ v u I rx ry
theorem sK {f : Value} : CallR X f (wK X f) := fun pins s σ H xs us Q I r h => h.run pins s σ us I r
variable {σ : St} {H : Hp} {e a b c : Expr} {es : List Expr} {st : Stmt} {sts : List Stmt} {pos pos' p p1 p2 : Pos} {Q : VK} {D : Ends}
theorem ofE {t : TE} (h : PE X e t) (q : t σ H Q) : wE X e σ H Q := ⟨fun pins s I => h.run pins s σ H Q I q⟩
theorem ofT {t : TT} {Q : Bool → Hp → Prop} (h : PT X e t) (q : t σ H Q) : wT X e σ H Q := ⟨fun pins s I => h.run pins s σ H Q I q⟩
theorem ofW {t : TT} {Q : Bool → Hp → Prop} (h : PW X e t) (q : t σ H Q) : wW X e σ H Q := ⟨fun wh pins s I => h.run wh pins s σ H Q I q⟩
theorem ofA {t : TA} {Q : List V → Hp → Prop} (h : PA X es t) (q : t σ H Q) : wA X es σ H Q := ⟨fun pos pins s I => h.run pos pins s σ H Q I q⟩
theorem ofS {t : TS} (h : PS X st t) (q : t D σ H) : wS X st D σ H := ⟨fun pins s I => h.run pins s σ H D I q⟩
theorem ofB {t : TS} (h : PSs X sts t) (q : t D σ H) : wB X sts D σ H := ⟨fun pins s I => h.run pins s σ H D I q⟩
theorem ofG {tg : Expr} {t : TG} {v : V} {Q : St → Hp → Prop} (h : PG X tg t) (q : t v σ H Q) : wG X tg v σ H Q := ⟨fun pins s u I r => h.run pins s σ H v u Q I r q⟩
theorem ofO {f : Value → Value → Sem Value} {r : R2} {x y : V} (h : OpR X f r) (q : r x y H Q) : wO X f x y H Q := ⟨fun pins s σ v u I rx ry => h pins s σ H x y v u Q I rx ry q⟩
theorem ofK {f : Value} {r : List V → Hp → VK → Prop} {xs : List V} (h : CallR X f r) (q : r xs H Q) : wK X f xs H Q := ⟨fun pins s σ us I rr => h pins s σ H xs us Q I rr q⟩
theorem ofIx {r : R2} {x y : V} (h : IxR X r) (q : r x y H Q) : wIx X x y H Q := ⟨fun va sl pins s σ v u I rx ry z => h va sl pins s σ H x y v u Q I rx ry q z⟩
theorem sIx : IxR X (wIx X) := fun va sl pins s σ H x y v u Q I rx ry h z => h.run va sl pins s σ v u I rx ry z
/-! ### weaker wishes -/
theorem wE.imp {Q' : VK} (h : wE X e σ H Q) (q : ∀ v H', Q v H' → Q' v H') : wE X e σ H Q' := ⟨fun pins s I => thn (h.run pins s I) fun u s' ⟨v, H', J, r, x⟩ => ⟨v, H', J, r, q v H' x⟩⟩
theorem wT.imp {Q Q' : Bool → Hp → Prop} (h : wT X e σ H Q) (q : ∀ v H', Q v H' → Q' v H') : wT X e σ H Q' := ⟨fun pins s I => thn (h.run pins s I) fun u s' ⟨H', J, x⟩ => ⟨H', J, q u H' x⟩⟩
theorem wS.imp {D D' : Ends} (h : wS X st D σ H) (n : ∀ σ H, D.nx σ H → D'.nx σ H) (r : ∀ v H, D.rt v H → D'.rt v H) (k : ∀ σ H, D.bk σ H → D'.bk σ H) (c : ∀ σ H, D.ct σ H → D'.ct σ H) : wS X st D' σ H := by
  refine ⟨fun pins s I => thn (h.run pins s I) fun f s' q => ?_⟩
  cases f with
  | next => obtain ⟨σ', H', J, x⟩ := q; exact ⟨σ', H', J, n _ _ x⟩
  | brk => obtain ⟨σ', H', J, x⟩ := q; exact ⟨σ', H', J, k _ _ x⟩
  | cont => obtain ⟨σ', H', J, x⟩ := q; exact ⟨σ', H', J, c _ _ x⟩
  | ret u => obtain ⟨v, σ', H', J, rv, x⟩ := q; exact ⟨v, σ', H', J, rv, r _ _ x⟩
/-! ### names, constants -/
theorem zv (i : Nat) {x : Str} {v : V} (h : Q v H) (hs : σ[i]? = some (some v) := by rfl) (hN : X.N[i]? = some x := by rfl) (hv : Vis X.env.scope x := by first | exact Or.inl rfl | exact Or.inr (Or.inl rfl) | exact Or.inr (Or.inr rfl)) (hd : (x == ("__debug__" : Str)) = false := by decide)
    (hcd : (x == ("__classdict__" : Str)) = false := by decide) : wE X (.Name x pos) σ H Q := ofE (pe_var hN hv hd hcd) ⟨v, hs, h⟩
def slotOf (N : List Str) (x : Str) : Nat := N.findIdx (fun y => decide (y = x))
theorem zn {x : Str} {v : V} (hN : X.N[slotOf X.N x]? = some x) (hv : Vis X.env.scope x) (hs : σ[slotOf X.N x]? = some (some v)) (h : Q v H) (hd : (x == ("__debug__" : Str)) = false := by decide)
    (hcd : (x == ("__classdict__" : Str)) = false := by decide) : wE X (.Name x pos) σ H Q := ofE (pe_var hN hv hd hcd) ⟨v, hs, h⟩
theorem zint {i j} (h : Q (.int i) H) : wE X (.Constant (.int i) j pos) σ H Q := ofE pe_int h
theorem zbl {i j} (h : Q (.bl i) H) : wE X (.Constant (.bool i) j pos) σ H Q := ofE pe_bl h
theorem zstr {i j} (h : Q (.str i) H) : wE X (.Constant (.str i) j pos) σ H Q := ofE pe_str h
theorem znon {j} (h : Q .non H) : wE X (.Constant .none j pos) σ H Q := ofE pe_non h
/-- a constant of the module -/
theorem zglob {x : Str} {v : V} (hm : ∃ u, X.mg x = some u ∧ RelV v u) (hg : Gl X x) (h : Q v H) (hd : (x == ("__debug__" : Str)) = false := by decide) : wE X (.Name x pos) σ H Q := by
  obtain ⟨u, e, r⟩ := hm
  exact ofE (pe_glob hg e r hd) h
/-- a built-in's name as a value -/
theorem zblt {x : Str} {v : V} {u : Value} (hm : X.mg x = none) (hv : bootBuiltins x = some u) (r : RelV v u) (hg : Gl X x) (h : Q v H) (hn : x ≠ "__name__" := by decide) (hd : (x == ("__debug__" : Str)) = false := by decide) : wE X (.Name x pos) σ H Q := ofE (pe_bltn hg hm hv r hn hd) h
/-! ### operators -/
theorem zbin {op : Operator} (h : wE X a σ H fun x H1 => wE X b σ H1 fun y H2 => wO X (binaryOp op) x y H2 Q) : wE X (.BinOp a op b pos) σ H Q := ofE (pe_op sO sE sE) h
theorem zcmp {op : CmpOp} (hm : behindInMarks op b = false) (h : wE X a σ H fun x H1 => wE X b σ H1 fun y H2 => wO X (compareOp op) x y H2 Q) : wE X (.Compare a [op] [b] pos) σ H Q := ofE (pe_cmpR sO sE sE hm) h
theorem zcmpT {op : CmpOp} {Q : Bool → Hp → Prop} (hm : behindInMarks op b = false) (h : wE X a σ H fun x H1 => wE X b σ H1 fun y H2 => wO X (compareOp op) x y H2 fun z H3 => ∃ k, z = .bl k ∧ Q k H3) : wT X (.Compare a [op] [b] pos) σ H Q := ofT (pt_cmpR sO sE sE hm) h
theorem oadd {i j : Int} (h : Q (.int (i + j)) H) : wO X (binaryOp .Add) (.int i) (.int j) H Q := ofO op_add ⟨i, j, rfl, rfl, h⟩
theorem osub {i j : Int} (h : Q (.int (i - j)) H) : wO X (binaryOp .Sub) (.int i) (.int j) H Q := ofO op_sub ⟨i, j, rfl, rfl, h⟩
theorem omul {i j : Int} (c : IntMulOk i j) (h : Q (.int (i * j)) H) : wO X (binaryOp .Mult) (.int i) (.int j) H Q := by
  refine ⟨fun pins s σ v u I rx ry => ?_⟩
  obtain ⟨t, rfl⟩ := rx
  obtain ⟨t', rfl⟩ := ry
  exact mul_int ⟨.int _, H, I.tok _, ⟨_, rfl⟩, h⟩ c
theorem omod {i j : Int} (c : 0 < j) (h : Q (.int (i % j)) H) : wO X (binaryOp .Mod) (.int i) (.int j) H Q := ofO op_mod ⟨i, j, rfl, rfl, c, h⟩
theorem ofdiv {i j : Int} (c : CDivW i j) (h : Q (.int (i / j)) H) : wO X (binaryOp .FloorDiv) (.int i) (.int j) H Q := ofO op_fdivW ⟨i, j, rfl, rfl, c, h⟩
theorem oand {i j : Int} (h : Q (.int (Builtin.bitAnd i j)) H) : wO X (binaryOp .BitAnd) (.int i) (.int j) H Q := ofO op_and ⟨i, j, rfl, rfl, h⟩
theorem oor {i j : Int} (h : Q (.int (Builtin.bitOr i j)) H) : wO X (binaryOp .BitOr) (.int i) (.int j) H Q := ofO op_or ⟨i, j, rfl, rfl, h⟩
theorem oxor {i j : Int} (h : Q (.int (Builtin.bitXor i j)) H) : wO X (binaryOp .BitXor) (.int i) (.int j) H Q := ofO op_xor ⟨i, j, rfl, rfl, h⟩
theorem oshl {i j : Int} (c : CShl i j) (h : Q (.int (i * 2 ^ j.toNat)) H) : wO X (binaryOp .LShift) (.int i) (.int j) H Q := ofO op_shlW ⟨i, j, rfl, rfl, c, h⟩
theorem oshr {i j : Int} (c : 0 ≤ j) (h : Q (.int (i / 2 ^ j.toNat)) H) : wO X (binaryOp .RShift) (.int i) (.int j) H Q := ofO op_shr ⟨i, j, rfl, rfl, c, h⟩
theorem opow {i j : Int} (c0 : 0 ≤ j) (c : (Builtin.Int.intBits i : Int) * j ≤ 2 ^ 27) (h : Q (.int (i ^ j.toNat)) H) : wO X (binaryOp .Pow) (.int i) (.int j) H Q := by
  refine ⟨fun pins s σ v u I rx ry => ?_⟩
  obtain ⟨t, rfl⟩ := rx
  obtain ⟨t', rfl⟩ := ry
  exact pow_int c0 c ⟨.int _, H, I.tok _, ⟨_, rfl⟩, h⟩
theorem oadds {i j : Str} (c : i.length + j.length ≤ sizeLine) (h : Q (.str (i ++ j)) H) : wO X (binaryOp .Add) (.str i) (.str j) H Q := ofO op_add_str ⟨i, j, rfl, rfl, c, h⟩
theorem olt {i j : Int} (h : Q (.bl (decide (i < j))) H) : wO X (compareOp .Lt) (.int i) (.int j) H Q := ofO op_lt ⟨i, j, rfl, rfl, h⟩
theorem ole {i j : Int} (h : Q (.bl (decide (i ≤ j))) H) : wO X (compareOp .LtE) (.int i) (.int j) H Q := ofO op_le ⟨i, j, rfl, rfl, h⟩
theorem ogt {i j : Int} (h : Q (.bl (decide (j < i))) H) : wO X (compareOp .Gt) (.int i) (.int j) H Q := ofO op_gt ⟨i, j, rfl, rfl, h⟩
theorem oge {i j : Int} (h : Q (.bl (decide (j ≤ i))) H) : wO X (compareOp .GtE) (.int i) (.int j) H Q := ofO op_ge ⟨i, j, rfl, rfl, h⟩
theorem oeq {x y : V} (s : scal x y = true) (h : Q (.bl (decide (x = y))) H) : wO X (compareOp .Eq) x y H Q := ofO op_eq ⟨s, h⟩
theorem one {x y : V} (s : scal x y = true) (h : Q (.bl (!decide (x = y))) H) : wO X (compareOp .NotEq) x y H Q := ofO op_ne ⟨s, h⟩
theorem oeqi {i j : Int} (h : Q (.bl (decide (i = j))) H) : wO X (compareOp .Eq) (.int i) (.int j) H Q := oeq rfl (by simp only [V.int.injEq]; exact h)
theorem onei {i j : Int} (h : Q (.bl (!decide (i = j))) H) : wO X (compareOp .NotEq) (.int i) (.int j) H Q := one rfl (by simp only [V.int.injEq]; exact h)
theorem oeqD {k : Nat} {x y : V} {d e : PyData} (hr : Room k X.A) (hx : Dp X.K H x d) (hy : Dp X.K H y e) (s1 : SeqAt.shaped d = true) (s2 : SeqAt.shaped e = true) (h : Q (.bl (PyData.eqv d e)) H) : wO X (compareOp .Eq) x y H Q := ofO (op_eqD hr.units) ⟨d, e, hx, hy, s1, s2, h⟩
theorem oneD {k : Nat} {x y : V} {d e : PyData} (hr : Room k X.A) (hx : Dp X.K H x d) (hy : Dp X.K H y e) (s1 : SeqAt.shaped d = true) (s2 : SeqAt.shaped e = true) (h : Q (.bl (!PyData.eqv d e)) H) : wO X (compareOp .NotEq) x y H Q := ofO (op_neD hr.units) ⟨d, e, hx, hy, s1, s2, h⟩
theorem ois {x : V} (h : Q (.bl (decide (x = .non))) H) : wO X (compareOp .Is) x .non H Q := ofO op_isN ⟨rfl, h⟩
theorem onot {x : V} (h : Q (.bl (!decide (x = .non))) H) : wO X (compareOp .IsNot) x .non H Q := ofO op_notN ⟨rfl, h⟩
theorem ocat {l m : Addr} {xs zs : List V} (hl : H l = some (.lst xs)) (hm : H m = some (.lst zs)) (c : xs.length + zs.length ≤ sizeLine) (h : ∀ p, H p = none → Q (.ref p) (upd H p (.lst (xs ++ zs)))) : wO X (binaryOp .Add) (.ref l) (.ref m) H Q := ofO op_cat ⟨l, m, xs, zs, rfl, rfl, hl, hm, c, h⟩
end
end Z

set_option maxRecDepth 100000
set_option maxHeartbeats 4000000
namespace Z
open PySem PySem.Spec PyProof.Rows L2
open Evl (Ex)
section
variable {X : Cx} {σ : St} {H : Hp} {e a b c o : Expr} {es : List Expr} {st : Stmt} {sts : List Stmt} {pos pos' p p1 p2 apos : Pos} {Q : VK} {D : Ends} {W : WX}
/-! ### argument lists, displays -/
theorem anil {Q : List V → Hp → Prop} (h : Q [] H) : wA X [] σ H Q := ofA pa_nil h
theorem acons {Q : List V → Hp → Prop} (h : wE X e σ H fun x H1 => wA X es σ H1 fun xs H2 => Q (x :: xs) H2) (hs : starEach (e :: es) X.env = (false, eval e X.env) :: starEach es X.env := by rfl) : wA X (e :: es) σ H Q := ofA (pa_cons sE sA hs) h
theorem zlst (h : wA X es σ H fun vs H1 => vs.length ≤ sizeLine ∧ ∀ p H2, H1 p = none → Ex H1 H2 → H2 p = some (.lst vs) → Q (.ref p) H2) : wE X (.List es pos) σ H Q :=
  ofE (pe_lst sA) ⟨fun pos pins s I => thn (h.run pos pins s I) fun us s' ⟨vs, H1, J, r, l, q⟩ => ⟨vs, H1, J, r, l, fun p hp => q p _ hp (Ex.new hp) upd_same⟩⟩
theorem ztup {k} (h : wA X es σ H fun vs H1 => vs.length ≤ sizeLine ∧ ∀ p H2, H1 p = none → Ex H1 H2 → H2 p = some (.tup vs) → Q (.ref p) H2) : wE X (.Tuple es k pos) σ H Q :=
  ofE (pe_tup sA) ⟨fun pos pins s I => thn (h.run pos pins s I) fun us s' ⟨vs, H1, J, r, l, q⟩ => ⟨vs, H1, J, r, l, fun p hp => q p _ hp (Ex.new hp) upd_same⟩⟩
theorem ocatE {l m : Addr} {xs zs : List V} (hl : H l = some (.lst xs)) (hm : H m = some (.lst zs)) (c : xs.length + zs.length ≤ sizeLine) (h : ∀ p H2, H p = none → Ex H H2 → H2 p = some (.lst (xs ++ zs)) → Q (.ref p) H2) : wO X (binaryOp .Add) (.ref l) (.ref m) H Q :=
  ocat hl hm c fun p hp => h p _ hp (Ex.new hp) upd_same
/-! ### tests -/
theorem zand {Q : Bool → Hp → Prop} (h : wT X a σ H fun k H1 => if k = true then wW X (.BoolOp .And (b :: es) pos) σ H1 Q else Q false H1) : wW X (.BoolOp .And (a :: b :: es) pos) σ H Q := ofW (pw_and sT sW) h
theorem zand1 {Q : Bool → Hp → Prop} (h : wT X a σ H Q) : wW X (.BoolOp .And [a] pos) σ H Q := ofW (pw_and1 sT) h
theorem zor {Q : Bool → Hp → Prop} (h : wT X a σ H fun k H1 => if k = true then Q true H1 else wW X (.BoolOp .Or (b :: es) pos) σ H1 Q) : wW X (.BoolOp .Or (a :: b :: es) pos) σ H Q := ofW (pw_or sT sW) h
theorem zor1 {Q : Bool → Hp → Prop} (h : wT X a σ H Q) : wW X (.BoolOp .Or [a] pos) σ H Q := ofW (pw_or1 sT) h
theorem zW {Q : Bool → Hp → Prop} {op} (h : wW X (.BoolOp op es pos) σ H Q) : wT X (.BoolOp op es pos) σ H Q := ⟨fun pins s I => h.run _ pins s I⟩
theorem znotT {Q : Bool → Hp → Prop} (h : wT X a σ H fun k H1 => Q (!k) H1) : wT X (.UnaryOp .Not a pos) σ H Q := ofT (pt_not sT) h
theorem zval {Q : Bool → Hp → Prop} (h : wE X e σ H fun x H1 => ∃ k, x = .bl k ∧ Q k H1) (he : ∀ whole, isTrue e X.env whole = (do let v ← whole; standAt e.pos; holding [v] (truthy v)) := by intro _; rfl) : wT X e σ H Q := ofT (pt_val sE he) h
theorem ztru {Q : Bool → Hp → Prop} (h : wE X e σ H fun x H1 => ∃ k, TruV X.K x H1 k ∧ Q k H1) (he : ∀ whole, isTrue e X.env whole = (do let v ← whole; standAt e.pos; holding [v] (truthy v)) := by intro _; rfl) : wT X e σ H Q := ofT (pt_truth sE he) h
theorem zif (h : wT X c σ H fun k H1 => if k = true then wE X a σ H1 Q else wE X b σ H1 Q) : wE X (.IfExp c a b pos) σ H Q := ofE (pe_ifExp sT sE sE) h
/-- as values: and, or of truths, not -/
theorem zandV (h : wE X a σ H fun x H1 => ∃ k, x = .bl k ∧ if k = true then wE X (.BoolOp .And (b :: es) pos) σ H1 Q else Q (.bl false) H1) : wE X (.BoolOp .And (a :: b :: es) pos) σ H Q := ofE (pe_and sE sE) h
theorem zorV (h : wE X a σ H fun x H1 => ∃ k, x = .bl k ∧ if k = true then Q (.bl true) H1 else wE X (.BoolOp .Or (b :: es) pos) σ H1 Q) : wE X (.BoolOp .Or (a :: b :: es) pos) σ H Q := ofE (pe_or sE sE) h
theorem zoneV {op} (h : wE X a σ H Q) : wE X (.BoolOp op [a] pos) σ H Q := ofE (pe_one sE) h
theorem znotV (h : wE X a σ H fun x H1 => ∃ k, x = .bl k ∧ Q (.bl (!k)) H1) : wE X (.UnaryOp .Not a pos) σ H Q := ofE (pe_not sE) h
/-! ### statements -/
theorem bnil (h : D.nx σ H) : wB X [] D σ H := ofB pss_nil h
theorem bcons (h : wS X st { D with nx := fun σ' H' => wB X sts D σ' H' } σ H) : wB X (st :: sts) D σ H := ofB (pss_cons sS sB) h
theorem bone (h : wS X st D σ H) : wB X [st] D σ H := ofB (pss_one sS) h
theorem sset {x : Str} (i : Nat) (hN : X.N.Nodup) (h : wE X e σ H fun v H1 => D.nx (σ.set i (some v)) H1) (hi : X.N[i]? = some x := by rfl) (hx : Loc X.env.scope x := by first | exact Or.inl rfl | exact Or.inr rfl) (hs : swapsWith e (some (.Name x pos')) pos.line X.env = pure false := by rfl)
    (hf : X.fn x = true ∨ X.env.scope.names.lookup x = some .local := by first | exact .inl rfl | exact .inr rfl | assumption) : wS X (.Assign [.Name x pos'] e pos) D σ H := ofS (ps_set hN hi hx sE hs hf) h
theorem sret (h : wE X e σ H D.rt) : wS X (.Return (some e) pos) D σ H := ofS (ps_ret sE) h
theorem sretN (h : D.rt .non H) : wS X (.Return none pos) D σ H := ofS ps_retN h
theorem sif {x y : List Stmt} (h : wT X c σ H fun k H1 => if k = true then wB X x D σ H1 else wB X y D σ H1) : wS X (.If c x y pos) D σ H := ofS (ps_if sT sB sB) h
theorem sexp (h : wE X e σ H fun _ H1 => D.nx σ H1) (hs : swapsWith e none pos.line X.env = pure false := by rfl) : wS X (.Expr e pos) D σ H := ofS (ps_expr sE hs) h
theorem spass (h : D.nx σ H) : wS X (.Pass pos) D σ H := ofS ps_pass h
theorem sbrk (h : D.bk σ H) : wS X (.Break pos) D σ H := ofS ps_break h
theorem scont (h : D.ct σ H) : wS X (.Continue pos) D σ H := ofS ps_continue h
/-- name op= e -/
theorem saug {x : Str} {op : Operator} (i : Nat) (hN : X.N.Nodup) {v : V} (hv : σ[i]? = some (some v)) (h : wE X e σ H fun y H1 => wO X (inplaceOp op) v y H1 fun z H2 => D.nx (σ.set i (some z)) H2) (hi : X.N[i]? = some x := by rfl) (hx : Loc X.env.scope x := by first | exact Or.inl rfl | exact Or.inr rfl)
    (hf : X.fn x = true ∨ X.env.scope.names.lookup x = some .local := by first | exact .inl rfl | exact .inr rfl | assumption) : wS X (.AugAssign (.Name x pos') op e pos) D σ H := ofS (ps_aug (ti := wO X (inplaceOp op)) hN hi hx sE sO hf) ⟨v, hv, h⟩
theorem ior {i j : Int} (h : Q (.int (Builtin.bitOr i j)) H) : wO X (inplaceOp .BitOr) (.int i) (.int j) H Q := ofO iop_or ⟨i, j, rfl, rfl, h⟩
theorem ixor {i j : Int} (h : Q (.int (Builtin.bitXor i j)) H) : wO X (inplaceOp .BitXor) (.int i) (.int j) H Q := ofO iop_xor ⟨i, j, rfl, rfl, h⟩
theorem ishr {i j : Int} (c : 0 ≤ j) (h : Q (.int (i / 2 ^ j.toNat)) H) : wO X (inplaceOp .RShift) (.int i) (.int j) H Q := ofO iop_shr ⟨i, j, rfl, rfl, c, h⟩
theorem iadd {i j : Int} (h : Q (.int (i + j)) H) : wO X (inplaceOp .Add) (.int i) (.int j) H Q := ofO iop_add ⟨i, j, rfl, rfl, h⟩
/-! ### targets -/
theorem gname {x : Str} {v : V} {Q : St → Hp → Prop} (i : Nat) (hN : X.N.Nodup) (h : Q (σ.set i (some v)) H) (hi : X.N[i]? = some x := by rfl) (hx : Loc X.env.scope x := by first | exact Or.inl rfl | exact Or.inr rfl)
    (hf : X.fn x = true ∨ X.env.scope.names.lookup x = some .local := by first | exact .inl rfl | exact .inr rfl | assumption) : wG X (.Name x pos) v σ H Q := ofG (pg_name hN hi hx hf) h
theorem gsnil {Q : St → Hp → Prop} (h : Q σ H) : wGs X [] [] σ H Q := ⟨fun pins s us I r => pgs_nil.run pins s σ H [] us Q I r ⟨rfl, h⟩⟩
theorem gscons {tg : Expr} {ts : List Expr} {v : V} {vs : List V} {Q : St → Hp → Prop} (h : wG X tg v σ H fun σ' H' => wGs X ts vs σ' H' Q) (hs : (assignEach (tg :: ts) X.env).map (·.2) = assign tg X.env :: (assignEach ts X.env).map (·.2) := by rfl) : wGs X (tg :: ts) (v :: vs) σ H Q :=
  ⟨fun pins s us I r => (pgs_cons sG sGs hs).run pins s σ H (v :: vs) us Q I r ⟨v, vs, rfl, h⟩⟩
theorem gtup {ts : List Expr} {k : Nat} {p : Addr} {xs : List V} {Q : St → Hp → Prop} (hc : X.calm = true) (hp : SqT X.K H p xs) (hl : xs.length = ts.length) (h : wGs X ts xs σ H Q) (hn : (assignEach ts X.env).length = ts.length := by rfl) (hst : (assignEach ts X.env).findIdx? (·.1) = none := by rfl) : wG X (.Tuple ts k pos) (.ref p) σ H Q :=
  ofG (pg_tup hc sGs hn hst) ⟨p, xs, rfl, hp, hl, h⟩
theorem sasg {tg : Expr} (h : wE X e σ H fun v H1 => wG X tg v σ H1 D.nx) (hs : swapsWithSole [tg] e pos.line X.env = pure false := by rfl) (hw : swappedStores [tg] e X.env = pure none := by rfl)
    (h1 : (assignEach [tg] X.env).map (·.2) = [assign tg X.env] := by rfl) : wS X (.Assign [tg] e pos) D σ H := ofS (ps_asg sE sG hs hw h1) h
/-! ### calls of defs -/
/-- a def of the module: where it stands, how it binds, what it promises -/
def Gf (P : Program) (w : World) (K : PySem.W.Frag) (mg : Str → Option Value) (base : Heap) (k : Nat) (x : Str) (dvs : List V) (sp : Sp) : Prop :=
  ∃ (f : Addr) (fd : FuncData) (ps : List Str) (ds : List Value), mg x = some (.ref f) ∧ PySem.W.keepIn K (.ref f) = true ∧ Binds K fd ps ds ∧ Vals dvs ds ∧ FnOk P w K mg base (L2N.CX P w) k f fd ps sp
theorem Gf.mono {P : Program} {w : World} {K : PySem.W.Frag} {mg : Str → Option Value} {base : Heap} {k j : Nat} {x : Str} {dvs : List V} {sp : Sp} (h : Gf P w K mg base k x dvs sp) (hk : k ≤ j) : Gf P w K mg base j x dvs sp := by
  obtain ⟨f, fd, ps, ds, h1, h2, h3, h4, h5⟩ := h
  exact ⟨f, fd, ps, ds, h1, h2, h3, h4, h5.mono hk⟩
theorem run_gf {pins : List (Addr × Obj)} {s : Shared} {k : Nat} {f : Addr} {fd : FuncData} {ps : List Str} {sp : Sp} {dvs : List V} {ds us : List Value} {vs : List V} (F : FnOk X.prog X.w X.K X.mg X.base (L2N.CX X.prog X.w) k f fd ps sp) (hr : Room k X.A) (hb : Binds X.K fd ps ds) (hd : Vals dvs ds) (tk : L2N.Takes X W)
    (I : Inv X pins σ H s) (r : Vals vs us) (h : sp (vs ++ dvs) H Q fun cls d H' => W cls d σ H') : wpAny (model X.prog X.w) X.A (call (.ref f) us) (EP X pins σ Q) X.xe s := by
  have r2 : Vals (vs ++ dvs) (us ++ ds) := r.append hd
  have hl : (us ++ ds).length = ps.length := r2.length.symm.trans (F.len _ _ _ _ h)
  refine wpAny_call (codeAny_mono (F.run X.A X.stack s H ⟨us, []⟩ (us ++ ds) (vs ++ dvs) Q (fun cls d H' => W cls d σ H') hr I.env0 (hb s us I.kIn hl) r2 h) fun z s' hq => ?_)
  cases z with
  | error er => exact tk er s' (L2N.XE.of_call I (fun _ _ _ q => q) hq)
  | ok fl =>
    cases fl with
    | ret u => exact I.after hq
    | next => exact hq.elim
    | brk => exact hq.elim
    | cont => exact hq.elim
theorem zcall {x : Str} {k j : Nat} {dvs : List V} {sp : Sp} (F : Gf X.prog X.w X.K X.mg X.base k x dvs sp) (hr : Room j X.A) (hk : k ≤ j) (tk : L2N.Takes X W) (hg : Gl X x) (h : wA X (e :: es) σ H fun vs H1 => sp (vs ++ dvs) H1 Q fun cls d H' => W cls d σ H')
    (hdb : (x == ("__debug__" : Str)) = false := by decide) (he : starEach (e :: es) X.env = (false, eval e X.env) :: starEach es X.env := by rfl) (hpl : (backTo pos (starEach es X.env)).any (·.1) = false := by rfl) : wE X (.Call (.Name x p) (e :: es) [] pos) σ H Q := by
  refine ⟨fun pins s I => ?_⟩
  obtain ⟨f, fd, ps, ds, hm, kp, hb, hd, FF⟩ := F
  refine wpAny_Call_Name_kw (ld_glob I hg hm ?_ hdb)
  refine PySem.W.callWith_K (h₀ := X.base) I.ok.mod.kin kp (thn (h.run pos pins s I) fun us s1 ⟨vs, H1, I1, r, q⟩ => ⟨I1.kIn, ?_⟩) he hpl
  exact run_gf FF (hr.mono hk) hb hd tk I1 r q
theorem zcall0 {x : Str} {k j : Nat} {dvs : List V} {sp : Sp} (F : Gf X.prog X.w X.K X.mg X.base k x dvs sp) (hr : Room j X.A) (hk : k ≤ j) (tk : L2N.Takes X W) (hg : Gl X x) (h : sp dvs H Q fun cls d H' => W cls d σ H')
    (hdb : (x == ("__debug__" : Str)) = false := by decide) : wE X (.Call (.Name x p) [] [] pos) σ H Q := by
  refine ⟨fun pins s I => ?_⟩
  obtain ⟨f, fd, ps, ds, hm, kp, hb, hd, FF⟩ := F
  refine wpAny_Call_Name_kw (ld_glob I hg hm ?_ hdb)
  exact PySem.W.callWith_K0 I.kIn kp (run_gf (us := []) (vs := []) FF (hr.mono hk) hb hd tk I .nil h)
/-! ### built-ins -/
theorem zbfn {x : Str} {id : String} (hm : X.mg x = none) (hv : bootBuiltins x = some (.builtin id)) (hg : Gl X x) (h : wA X (e :: es) σ H fun vs H1 => wK X (.builtin id) vs H1 Q) (hn : x ≠ "__name__" := by decide) (hdb : (x == ("__debug__" : Str)) = false := by decide)
    (he : starEach (e :: es) X.env = (false, eval e X.env) :: starEach es X.env := by rfl) (hpl : (backTo pos (starEach es X.env)).any (·.1) = false := by rfl) : wE X (.Call (.Name x p) (e :: es) [] pos) σ H Q := ofE (pe_callB sK hg hm hv sA hn hdb he hpl) h
theorem zbty {x : Str} {T : String} (hm : X.mg x = none) (hv : bootBuiltins x = some (.type T)) (hg : Gl X x) (h : wA X (e :: es) σ H fun vs H1 => wK X (.type T) vs H1 Q) (hn : x ≠ "__name__" := by decide) (hdb : (x == ("__debug__" : Str)) = false := by decide)
    (he : starEach (e :: es) X.env = (false, eval e X.env) :: starEach es X.env := by rfl) (hpl : (backTo pos (starEach es X.env)).any (·.1) = false := by rfl) : wE X (.Call (.Name x p) (e :: es) [] pos) σ H Q := ofE (pe_callTy sK hg hm hv sA hn hdb he hpl) h
theorem klenL {p : Addr} {xs : List V} (hp : SqL X.K H p xs) (h : Q (.int xs.length) H) : wK X (.builtin "len") [.ref p] H Q := ofK call_len_seq ⟨p, xs, rfl, .inl hp, h⟩
theorem klenT {p : Addr} {xs : List V} (hp : SqT X.K H p xs) (h : Q (.int xs.length) H) : wK X (.builtin "len") [.ref p] H Q := ofK call_len_seq ⟨p, xs, rfl, .inr hp, h⟩
theorem klenS {z : Str} (c : z.length ≤ sizeLine) (h : Q (.int z.length) H) : wK X (.builtin "len") [.str z] H Q := ofK call_len_str ⟨z, rfl, c, h⟩
theorem kmax {i j : Int} (hc : X.calm = true) (h : Q (.int (max i j)) H) : wK X (.builtin "max") [.int i, .int j] H Q := ofK (call_max2 hc) ⟨i, j, rfl, by rw [show (if j > i then j else i) = max i j from by omega]; exact h⟩
theorem kmin {i j : Int} (hc : X.calm = true) (h : Q (.int (min i j)) H) : wK X (.builtin "min") [.int i, .int j] H Q := ofK (call_min2 hc) ⟨i, j, rfl, by rw [show (if j < i then j else i) = min i j from by omega]; exact h⟩
theorem klistL {p : Addr} {xs : List V} (hp : SqL X.K H p xs) (h : ∀ q H2, H q = none → Ex H H2 → H2 q = some (.lst xs) → Q (.ref q) H2) : wK X (.type "list") [.ref p] H Q := ofK call_list_of ⟨p, xs, rfl, .inl hp, fun q hq => h q _ hq (Ex.new hq) upd_same⟩
theorem klistT {p : Addr} {xs : List V} (hp : SqT X.K H p xs) (h : ∀ q H2, H q = none → Ex H H2 → H2 q = some (.lst xs) → Q (.ref q) H2) : wK X (.type "list") [.ref p] H Q := ofK call_list_of ⟨p, xs, rfl, .inr hp, fun q hq => h q _ hq (Ex.new hq) upd_same⟩
theorem ktupL {p : Addr} {xs : List V} (hp : SqL X.K H p xs) (h : ∀ q H2, H q = none → Ex H H2 → H2 q = some (.tup xs) → Q (.ref q) H2) : wK X (.type "tuple") [.ref p] H Q := ofK call_tuple_of ⟨p, xs, rfl, .inl ⟨hp, fun q hq => h q _ hq (Ex.new hq) upd_same⟩⟩
theorem kisi {x c : V} {t u : Value} {k : Bool} (hc : ClsV c u) (ty : TyX X.K H x t) (hk : PySem.W.kitOne X.K t u = some k) (h : Q (.bl k) H) : wK X (.builtin "isinstance") [x, c] H Q := ofK call_isi ⟨x, c, t, u, k, rfl, hc, ty, hk, h⟩
/-! ### items, slices, methods -/
theorem zix (h : wE X a σ H fun x H1 => wE X b σ H1 fun y H2 => wIx X x y H2 Q) (hs : PlainIx b := by intro _ _; rfl) : wE X (.Subscript a b pos) σ H Q := ofE (pe_ix sIx sE sE hs) h
theorem ixL {p : Addr} {xs : List V} {i : Int} {v : V} (hp : SqL X.K H p xs) (hi : atI xs i = some v) (h : Q v H) : wIx X (.ref p) (.int i) H Q := ofIx ix_list ⟨p, xs, i, v, rfl, rfl, hp, hi, h⟩
theorem ixT {p : Addr} {xs : List V} {i : Int} {v : V} (hp : SqT X.K H p xs) (hi : atI xs i = some v) (h : Q v H) : wIx X (.ref p) (.int i) H Q := ofIx ix_tup ⟨p, xs, i, v, rfl, rfl, hp, hi, h⟩
theorem ixS {z : Str} {i : Int} {c : Nat} (hz : z.length ≤ sizeLine) (hi : atI z.cps.toList i = some c) (h : Q (.str ⟨#[c]⟩) H) : wIx X (.str z) (.int i) H Q := ofIx ix_str ⟨z, i, c, rfl, rfl, hz, hi, h⟩
/-- l.append(e) -/
theorem zapp (h : wE X o σ H fun x H1 => ∃ l xs0, x = .ref l ∧ H1 l = some (.lst xs0) ∧ wE X e σ H1 fun y H2 => ∃ xs, H2 l = some (.lst xs) ∧ xs.length < sizeLine ∧ Q .non (upd H2 l (.lst (xs ++ [y])))) (hsa : starEach [e] X.env = (false, eval e X.env) :: starEach [] X.env := by rfl)
    (he : ∀ t : TA, PA X [e] t → PE X (.Call (.Attribute o "append" apos) [e] [] pos) (tBM X.K "list" rAppend (wE X o) t) := by intro t ht; exact pe_bm PySem.F.plainAttrs_list PySem.F.slot_list_append PySem.F.type_list_append mt_append sE ht) :
    wE X (.Call (.Attribute o "append" apos) [e] [] pos) σ H Q := by
  refine ofE (he _ (pa_cons sE pa_nil hsa)) ⟨fun pins s I => thn (h.run pins s I) fun u s1 ⟨x, H1, I1, r1, l, xs0, ex, hl, q⟩ => ⟨x, H1, I1, r1, ?_⟩⟩
  subst ex
  refine ⟨.inl ⟨rfl, xs0, SqL.of hl⟩, ⟨fun pins2 s2 J => thn (q.run pins2 s2 J) fun u2 s3 ⟨y, H2, I2, r2, xs, h2, hz, q2⟩ => ⟨y, H2, I2, r2, ?_⟩⟩⟩
  exact ⟨l, xs, y, rfl, rfl, h2, hz, q2⟩
/-! ### loops -/
variable {tg l : Expr} {body : List Stmt}
theorem lfor {wi : TI} (hp : PassesOwn (model X.prog X.w) X.A X.env X.xe) (hc : X.calm = true) (hi : PI X tg l wi) (h : tFor wi (wG X tg) (wB X body) D σ H) (hs : ∀ x, foldedSetIterable l X.env x = pure x := by intro _; rfl) : wS X (.For tg l body [] pos) D σ H := ofS (ps_for hp hc hi sG sB hs) h
/-- over a list that the body leaves as it is -/
theorem lforL {xs : List V} (hp : PassesOwn (model X.prog X.w) X.A X.env X.xe) (hc : X.calm = true) (Pv : Nat → St → Hp → Prop)
    (h : wE X l σ H fun x H1 => ∃ a, x = .ref a ∧ SqL X.K H1 a xs ∧ Pv 0 σ H1 ∧ (∀ i σ H, i ≤ xs.length → Pv i σ H → SqL X.K H a xs) ∧
      (∀ i x σ H, xs[i]? = some x → Pv i σ H → wG X tg x σ H fun σ2 H2 => wB X body { D with nx := Pv (i + 1), ct := Pv (i + 1), bk := D.nx } σ2 H2) ∧ ∀ σ H, Pv xs.length σ H → D.nx σ H)
    (hs : ∀ x, foldedSetIterable l X.env x = pure x := by intro _; rfl) : wS X (.For tg l body [] pos) D σ H :=
  lfor hp hc (pi_list sE) ⟨fun pins s I => thn (h.run pins s I) fun u s1 ⟨x, H1, I1, r, a, ex, hq, h0, hl, ht, hd⟩ => ⟨x, H1, I1, r, a, ex, ⟨xs, hq⟩, for_list Pv h0 hl ht hd⟩⟩ hs
theorem lforT {xs : List V} (hp : PassesOwn (model X.prog X.w) X.A X.env X.xe) (hc : X.calm = true) (Pv : Nat → St → Hp → Prop)
    (h : wE X l σ H fun x H1 => ∃ a, x = .ref a ∧ SqT X.K H1 a xs ∧ Pv 0 σ H1 ∧ (∀ i σ H, i ≤ xs.length → Pv i σ H → SqT X.K H a xs) ∧
      (∀ i x σ H, xs[i]? = some x → Pv i σ H → wG X tg x σ H fun σ2 H2 => wB X body { D with nx := Pv (i + 1), ct := Pv (i + 1), bk := D.nx } σ2 H2) ∧ ∀ σ H, Pv xs.length σ H → D.nx σ H)
    (hs : ∀ x, foldedSetIterable l X.env x = pure x := by intro _; rfl) : wS X (.For tg l body [] pos) D σ H :=
  lfor hp hc (pi_tup sE) ⟨fun pins s I => thn (h.run pins s I) fun u s1 ⟨x, H1, I1, r, a, ex, hq, h0, hl, ht, hd⟩ => ⟨x, H1, I1, r, a, ex, ⟨xs, hq⟩, for_tup Pv h0 hl ht hd⟩⟩ hs
theorem lfor1 {n : Int} (hm : X.mg "range" = none) (hp : PassesOwn (model X.prog X.w) X.A X.env X.xe) (hc : X.calm = true) (Pv : Nat → St → Hp → Prop) (hg : Gl X "range")
    (h : wE X a σ H fun x H1 => x = .int n ∧ n < 2 ^ 62 ∧ -(2 ^ 62) ≤ n ∧ Pv 0 σ H1 ∧ (∀ (i : Nat) σ H, (i : Int) < n → Pv i σ H → wG X tg (.int (i : Int)) σ H fun σ2 H2 => wB X body { D with nx := Pv (i + 1), ct := Pv (i + 1), bk := D.nx } σ2 H2) ∧ ∀ σ H, Pv n.toNat σ H → D.nx σ H)
    (hs : ∀ x, foldedSetIterable (.Call (.Name "range" p) [a] [] pos') X.env x = pure x := by intro _; rfl) (hsa : starEach [a] X.env = [(false, eval a X.env)] := by rfl) : wS X (.For tg (.Call (.Name "range" p) [a] [] pos') body [] pos) D σ H :=
  lfor hp hc (pi_range1 hg hm (pa_cons sE pa_nil hsa) hsa) ⟨fun pins s I => thn (h.run pins s I) fun u s1 ⟨x, H1, I1, r, ex, n1, n2, h0, ht, hd⟩ => ⟨x, H1, I1, r, n, by rw [ex], n2, n1, for_range Pv h0 (fun i σ H hi hP => by rw [Int.zero_add]; exact ht i σ H (by omega) hP) hd⟩⟩ hs
theorem lfor2 {lo n : Int} (hm : X.mg "range" = none) (hp : PassesOwn (model X.prog X.w) X.A X.env X.xe) (hc : X.calm = true) (Pv : Nat → St → Hp → Prop) (hg : Gl X "range")
    (h : wE X a σ H fun x H1 => x = .int lo ∧ wE X b σ H1 fun y H2 => y = .int n ∧ (-(2 ^ 62) ≤ lo ∧ lo < 2 ^ 62 ∧ -(2 ^ 62) ≤ n ∧ n < 2 ^ 62) ∧ Pv 0 σ H2 ∧ (∀ (i : Nat) σ H, lo + (i : Int) < n → Pv i σ H → wG X tg (.int (lo + (i : Int))) σ H fun σ2 H2 => wB X body { D with nx := Pv (i + 1), ct := Pv (i + 1), bk := D.nx } σ2 H2) ∧ ∀ σ H, Pv (n - lo).toNat σ H → D.nx σ H)
    (hs : ∀ x, foldedSetIterable (.Call (.Name "range" p) [a, b] [] pos') X.env x = pure x := by intro _; rfl) (hsa : starEach [a, b] X.env = [(false, eval a X.env), (false, eval b X.env)] := by rfl) (hsb : starEach [b] X.env = [(false, eval b X.env)] := by rfl) : wS X (.For tg (.Call (.Name "range" p) [a, b] [] pos') body [] pos) D σ H :=
  lfor hp hc (pi_range2 hg hm (pa_cons sE (pa_cons sE pa_nil hsb) (by rw [hsa, hsb])) hsa hsb) ⟨fun pins s I => thn (h.run pins s I) fun u s1 ⟨x, H1, I1, r, ex, h2⟩ => ⟨x, H1, I1, r, ⟨fun pins2 s2 J => thn (h2.run pins2 s2 J) fun u2 s3 ⟨y, H2, I2, r2, ey, hb, h0, ht, hd⟩ => ⟨y, H2, I2, r2, lo, n, by rw [ex, ey], hb, for_range Pv h0 (fun i σ H hi hP => ht i σ H (by omega) hP) hd⟩⟩⟩⟩ hs
theorem lwhile (hp : PassesOwn (model X.prog X.w) X.A X.env X.xe) (Pv : St → Hp → Prop) (μ : St → Hp → Nat) (h0 : Pv σ H)
    (h : ∀ σ H, Pv σ H → wT X c σ H fun k H1 => if k = true then wB X body { D with nx := fun σ' H' => Pv σ' H' ∧ μ σ' H' < μ σ H, ct := fun σ' H' => Pv σ' H' ∧ μ σ' H' < μ σ H, bk := D.nx } σ H1 else D.nx σ H1) : wS X (.While c body [] pos) D σ H :=
  ofS (ps_while hp sT sB) (while_by Pv μ h0 h fun σ H Q Q' q z => z.imp q)
/-! ### exceptions -/
structure wM (X : Cx) (e : Expr) (σ : St) (H : Hp) (Q : XK) : Prop where
  run : ∀ (pins : List (Addr × Obj)) (s : Shared), Inv X pins σ H s → wpAny (model X.prog X.w) X.A (eval e X.env) (L2N.MkP X pins σ Q) X.xe s
theorem sM : L2N.PMk X e (wM X e) := fun pins s σ H Q I h => h.run pins s I
theorem sraise (hc : X.calm = true) (tk : L2N.Takes X W) (h : wM X e σ H fun cls d H' => W cls d σ H') : wS X (.Raise (some e) none pos) D σ H := ofS (L2N.ps_raise hc tk sM) h
/-- a class without an own __init__, made with a text -/
theorem mown {x m : Str} {j : Nat} {C : Addr} {bmB : List Value} {B newId initId : String} (F : ExcBaseFacts B newId initId bmB) (q : PySem.W.excIn X.K C bmB newId = true) (gC : X.mg x = some (.ref C)) (kC : PySem.W.keepIn X.K (.ref C) = true) (r : Raises X (.ref C)) (hg : Gl X x) {Q : XK} (h : Q (.ref C) none H)
    (hdb : (x == ("__debug__" : Str)) = false := by decide) : wM X (.Call (.Name x p) [.Constant (.str m) j p2] [] pos) σ H Q := ⟨fun pins s I => L2N.pmk_own F q gC kC r hg hdb pins s σ H Q I h⟩
/-- try: body, except x as n: suite -/
theorem stry {x n : Str} {cl : Value} {np : Pos} {suite : List Stmt} {b₀ : Stmt} (i : Nat) (hN : X.N.Nodup) (tk : L2N.Takes X W) (hc : Names X x cl) (hs : X.stack = X.env :: X.outer) (hf : X.env.frame = some X.env.locals) (hi : X.N[i]? = some n) (hln : X.env.kindOf n = some .local)
    (h : ∀ (pn : List (Addr × Obj)) (xe : Value → Shared → Prop), PassesOwn (model X.prog X.w) X.A X.env xe → L2N.Takes (X.tr pn xe) (fun cls d σ1 H1 => ∃ k, PySem.W.exmOne X.K cls cl = some k ∧
        (k = true → ∀ a oe pn, H1 a = none → L2N.Zn cls d oe → (∃ vs, oe.data = .fields vs) → wB (X.suite a ((a, oe) :: pn)) (b₀ :: suite) { nx := fun σ' H' => D.nx (σ'.set i none) H', rt := D.rt, bk := fun σ' H' => D.bk (σ'.set i none) H', ct := fun σ' H' => D.ct (σ'.set i none) H' } (σ1.set i (some (.ref a))) H1) ∧
        (k = false → W cls d σ1 H1)) → wB (X.tr pn xe) body D σ H) : wS X (.Try body [.ExceptHandler (some (.Name x np)) (some n) (b₀ :: suite) pos'] [] [] pos) D σ H := by
  refine ofS (L2N.ps_try_as (tb := fun W' => fun D σ H => ∀ (pn : List (Addr × Obj)) (xe : Value → Shared → Prop), PassesOwn (model X.prog X.w) X.A X.env xe → L2N.Takes (X.tr pn xe) W' → wB (X.tr pn xe) body D σ H)
    (ts := fun a cls d => fun D σ H => ∀ oe pn, L2N.Zn cls d oe → (∃ vs, oe.data = .fields vs) → wB (X.suite a ((a, oe) :: pn)) (b₀ :: suite) D σ H) hs hf hN hi hln hc tk (fun W' pn xe tk' po => ⟨fun pins s σ H D I q => (q pn xe po tk').run pins s I⟩) (fun a oe cls d pn hz hd => ⟨fun pins s σ H D I q => (q oe pn hz hd).run pins s I⟩)) ?_
  intro pn xe po tk'
  refine h pn xe po (tk'.imp fun cls d σ1 H1 q => ?_)
  obtain ⟨k, h1, h2, h3⟩ := q
  exact ⟨k, h1, fun hk a ha oe pn hz hd => h2 hk a oe pn ha hz hd, h3⟩
end
end Z

set_option maxRecDepth 100000
set_option maxHeartbeats 4000000
namespace Z
open PySem PySem.Spec PyProof.Rows L2
open Evl (Ex)
/-! ### where an exception is handled: what is known of it -/
structure HX (X : Cx) (p : Addr × Obj) (cls : Value) (d : Option Addr) : Prop where
  hot : L2H.Hot1 X.A p
  mem : p ∈ X.pn
  zn : L2N.Zn cls d p.2
  fl : ∃ vs, p.2.data = .fields vs
theorem hx_suite {X : Cx} {a : Addr} {oe : Obj} {pn : List (Addr × Obj)} {cls : Value} {d : Option Addr} (hz : L2N.Zn cls d oe) (hf : ∃ vs, oe.data = .fields vs) : HX (X.suite a ((a, oe) :: pn)) (a, oe) cls d :=
  ⟨⟨rfl, by obtain ⟨vs, e⟩ := hf; exact ⟨vs, e, hz.2.2 vs e⟩⟩, List.mem_cons_self, hz, hf⟩
theorem HX.hotC {X : Cx} {p : Addr × Obj} {cls : Value} {d : Option Addr} (h : HX X p cls d) : L2H.HotC X := ⟨p, h.hot, h.mem⟩
section
variable {prog : Program} {w : World} {A : Around} {E : Value → Shared → Prop} {s : Shared}
/-- the last step of an iterator's end where an exception is handled: StopIteration is made, bears the handled one, is caught -/
theorem stop_hot {h0 h1 : Heap} {it x1 : Addr} {A' : Around} {g : Array GenState} {d : Drawn} {t : Nat} {os : OsState} (hot : HotX.HotAt A' x1 h1)
    (k : ∀ b o, b ≠ it → h0.get? b = some o → h1.get? b = some o)
    (hQ : ∀ (h' : Heap) (a : Addr), (∀ b o, b ≠ it → h0.get? b = some o → h'.get? b = some o) → (∃ o : Obj, h'.get? a = some o ∧ o.cls = .type "StopIteration") → E (.ref a) ⟨h', g, d, t, os⟩) {Q' : PySem.Fin → Shared → Prop} :
    wpAny (model prog w) A' Builtin.SmallTypes.stopIteration Q' E ⟨h1, g, d, t, os⟩ := by
  obtain ⟨hh, o1, vs1, g1, d1, c1⟩ := hot
  show wpAny _ _ (newExc (Value.type "StopIteration") [] >>= _) Q' E _; refine wpAny_bind ?_
  simp only [newExc, newTuple]
  refine wpAny_bind (wpAny_newObj_type ?_ (by size_fits)); refine wpAny_bind (m := firstArgMember _ _) (wpAny_of_eq (a := Value.none) (by first | rfl | (simp only [firstArgMember]; rfl)) ?_)
  refine wpAny_newObj_type (HotX.raiseNew_hot ⟨hh, o1, vs1, Heap.get?_push_of_some _ (Heap.get?_push_of_some _ g1), d1, c1⟩ (Nat.ne_of_lt (Heap.lt_size (Heap.get?_push_of_some _ g1))) (Heap.get?_push_size _ rfl) rfl (by first | (simp; done) | (simp; omega) | (simp only [Array.size_append]; simp; omega)) ?_) (by size_fits)
  refine hQ _ _ (fun b o hb e => ?_) ⟨_, Heap.get?_update_self _ (Heap.get?_push_size _ rfl) rfl, rfl⟩
  have q := Heap.get?_push_of_some { cls := Value.type "tuple", data := Data.seq ([] : List Value).toArray } (k b o hb e)
  rw [Heap.get?_update_other _ _ (Nat.ne_of_gt (Heap.lt_size q))]
  exact Heap.get?_push_of_some _ q
theorem list_end_hot {it l x1 : Addr} {i : Nat} {items} {Q : Option Value → Shared → Prop} (hot : HotX.HotAt A x1 s.heap) (ne : x1 ≠ it) (hit : s.heap.IsListIter it l i) (hl : s.heap.IsList l items) (hx : items[i]? = none)
    (hQ : ∀ h', (∀ b o, b ≠ it → s.heap.get? b = some o → h'.get? b = some o) → Q none { s with heap := h' }) : wpAny (model prog w) A (pyNext (.ref it)) Q E s := by
  obtain ⟨o, ho, hc, hd⟩ := id hit; obtain ⟨ol, hol, _, nl, hdl⟩ := hl; obtain ⟨hh, o1, vs1, g1, d1, c1⟩ := hot
  unfold pyNext
  refine wpAny_bind (wpAny_attempt (wpAny_callSpecial?_slot (name := Str.ofString "__next__") hit.typeIs slot_listiter_next (wpAny_call_entry slot_listiter_next hit.typeIs entry_listiter_next ?_ (args_listiter_next _))))
  show wpAny _ _ (field (.ref it) 0 >>= _) _ _ s; refine wpAny_bind (wpAny_field ho hd (x := .ref l) rfl ?_)
  show wpAny _ _ (if (Value.ref l == Value.none) = true then _ else _) _ _ s; rw [if_neg (show ¬ ((Value.ref l == Value.none) = true) from Bool.false_ne_true)]
  show wpAny _ _ (field (.ref it) 1 >>= _) _ _ s; refine wpAny_bind (wpAny_field ho hd (x := .int i 0) rfl ?_)
  show wpAny _ _ (seqItems? (.ref l) >>= _) _ _ s; refine wpAny_bind (wpAny_seqItems hol hdl ?_); simp only [Int.toNat_natCast, hx]
  refine wpAny_bind (wpAny_rule (wpAny_bind (wpAny_setField ho hd (by simp) ?_)))
  refine stop_hot (A' := A.in1) (h0 := s.heap) (it := it) ⟨hh, o1, vs1, (Heap.get?_update_other _ _ (Ne.symm ne)).trans g1, d1, c1⟩ (fun b o hb e => (Heap.get?_update_other _ _ (Ne.symm hb)).trans e) (fun h' a k ⟨oe, ge, ce⟩ => ?_)
  exact wpAny_bind (wpAny_isInstance (T := "StopIteration") (b := true) ⟨oe, ge, ce⟩ isSubtype_stop (wpAny_pure (hQ _ k)))
theorem tuple_end_hot {it t x1 : Addr} {i : Nat} {items} {Q : Option Value → Shared → Prop} (hot : HotX.HotAt A x1 s.heap) (ne : x1 ≠ it) (hit : IsTupIter s.heap it t i) (hl : IsTup s.heap t items) (hx : items[i]? = none)
    (hQ : ∀ h', (∀ b o, b ≠ it → s.heap.get? b = some o → h'.get? b = some o) → Q none { s with heap := h' }) : wpAny (model prog w) A (pyNext (.ref it)) Q E s := by
  obtain ⟨o, ho, hc, hd⟩ := id hit; obtain ⟨ol, hol, _, nl, hdl⟩ := hl; obtain ⟨hh, o1, vs1, g1, d1, c1⟩ := hot
  unfold pyNext
  refine wpAny_bind (wpAny_attempt (wpAny_callSpecial?_slot (name := Str.ofString "__next__") hit.typeIs slot_tupleiter_next (wpAny_call_entry slot_tupleiter_next hit.typeIs entry_tupleiter_next ?_ (args_tupleiter_next _))))
  show wpAny _ _ (field (.ref it) 0 >>= _) _ _ s; refine wpAny_bind (wpAny_field ho hd (x := .ref t) rfl ?_)
  show wpAny _ _ (if (Value.ref t == Value.none) = true then _ else _) _ _ s; rw [if_neg (show ¬ ((Value.ref t == Value.none) = true) from Bool.false_ne_true)]
  show wpAny _ _ (field (.ref it) 1 >>= _) _ _ s; refine wpAny_bind (wpAny_field ho hd (x := .int i 0) rfl ?_)
  show wpAny _ _ (seqItems? (.ref t) >>= _) _ _ s; refine wpAny_bind (wpAny_seqItems hol hdl ?_); simp only [Int.toNat_natCast, hx]
  refine wpAny_bind (wpAny_rule (wpAny_bind (wpAny_setField ho hd (by simp) ?_)))
  refine stop_hot (A' := A.in1) (h0 := s.heap) (it := it) ⟨hh, o1, vs1, (Heap.get?_update_other _ _ (Ne.symm ne)).trans g1, d1, c1⟩ (fun b o hb e => (Heap.get?_update_other _ _ (Ne.symm hb)).trans e) (fun h' a k ⟨oe, ge, ce⟩ => ?_)
  exact wpAny_bind (wpAny_isInstance (T := "StopIteration") (b := true) ⟨oe, ge, ce⟩ isSubtype_stop (wpAny_pure (hQ _ k)))
/-- a tuple unpacked where an exception is handled -/
theorem unpack_hot {t x1 : Addr} {items : Array Value} {Q : List Value → Shared → Prop} (hot : HotX.HotAt A x1 s.heap) (ht : IsTup s.heap t items)
    (hQ : ∀ h', (∀ b o, s.heap.get? b = some o → h'.get? b = some o) → Q items.toList { s with heap := h' }) : wpAny (model prog w) A (unpackItems (.ref t) items.size none) Q E s := by
  have hlt : t ≠ s.heap.objs.size := by obtain ⟨o, ho, _⟩ := ht; exact Nat.ne_of_lt (Heap.lt_size ho)
  obtain ⟨hh, o1, vs1, g1, d1, c1⟩ := hot
  unfold unpackItems
  refine wpAny_bind ?_
  unfold notIterableAtAll
  refine wpAny_bind (wpAny_specialOf ht.typeIs slot_tuple_iter.lookup (wpAny_pure ?_)); simp only [Bool.false_eq_true, if_false]
  refine wpAny_bind (wpAny_holding (iter_tuple ht ?_))
  refine wpAny_bind (wpAny_holding (draw_tuple hlt items.size 0 _ _ ⟨_, Heap.get?_push_size _ rfl, rfl, rfl⟩ (ht.push _) (by omega) fun ha hita hsa => ?_))
  rw [show List.take items.size (List.drop 0 items.toList) = items.toList from by rw [List.drop_zero]; exact List.take_of_length_le (by simp), if_neg (by simp)]
  have n1 : x1 ≠ s.heap.objs.size := Nat.ne_of_lt (Heap.lt_size g1)
  refine wpAny_bind (wpAny_holding (tuple_end_hot ⟨hh, o1, vs1, (hsa.2 x1 n1).trans (Heap.get?_push_of_some _ g1), d1, c1⟩ n1 hita ((ht.push _).extBut hsa.extBut hlt) (by simp) fun hb kb => ?_))
  simp only [Option.isSome_none, Bool.false_eq_true, if_false]
  refine wpAny_pure (hQ hb fun b o e => kb b o (Nat.ne_of_lt (Heap.lt_size e)) ((hsa.2 b (Nat.ne_of_lt (Heap.lt_size e))).trans (Heap.get?_push_of_some _ e)))
end
end Z
namespace Z
open PySem PySem.Spec PyProof.Rows L2
open Evl (Ex)
/-! ### a comprehension over a list where an exception is handled -/
/-- the block's context, with the pins of the def's -/
abbrev blkH (X : Cx) (s : Shared) (H : Hp) (scope : Scope) (ce : Env) (fp : List Addr) : Cx := { X.blk s H scope ce fp with pn := X.pn }
theorem Inv.toH {X : Cx} {s0 s : Shared} {H0 H : Hp} {scope : Scope} {ce : Env} {fp : List Addr} {σ : St} {pins : List (Addr × Obj)} (I : Inv (X.blk s0 H0 scope ce fp) [] σ H s)
    (h : ∀ p ∈ X.pn ++ pins, s.heap.get? p.1 = some p.2 ∧ H p.1 = none ∧ p.1 ≠ ce.locals ∧ p.1 ∉ frs X.stack ∧ ∀ v, p.2.data ≠ .cell v) : Inv (blkH X s0 H0 scope ce fp) pins σ H s :=
  ⟨⟨I.ok.mod, I.ok.kind, I.ok.glob, I.ok.blt, I.ok.above, I.ok.inj, I.ok.has, I.ok.cab, I.ok.hd, I.ok.frames, I.ok.stk, I.ok.exf, I.ok.bs, I.ok.bsz, I.ok.noex, I.ok.exfs, I.ok.funs, I.ok.frf⟩, I.os, I.bare, I.base, I.loc, I.cell, I.free, I.freeC, h, I.hok, I.len⟩
theorem Inv.fromH {X : Cx} {s0 s : Shared} {H0 H : Hp} {scope : Scope} {ce : Env} {fp : List Addr} {σ : St} {pins : List (Addr × Obj)} (I : Inv (blkH X s0 H0 scope ce fp) pins σ H s) : Inv (X.blk s0 H0 scope ce fp) pins σ H s :=
  ⟨⟨I.ok.mod, I.ok.kind, I.ok.glob, I.ok.blt, I.ok.above, I.ok.inj, I.ok.has, I.ok.cab, I.ok.hd, I.ok.frames, I.ok.stk, I.ok.exf, I.ok.bs, I.ok.bsz, I.ok.noex, I.ok.exfs, I.ok.funs, I.ok.frf⟩, I.os, I.bare, I.base, I.loc, I.cell, I.free, I.freeC, fun p hp => I.pin p (List.mem_append_right _ hp), I.hok, I.len⟩

/-- a list's iterator there -/
theorem turn_listH {P : Program} {w : World} {K : PySem.W.Frag} {tg : Expr} (a it : Addr) : L2H.TurnH P w K tg (Itl K a) [it] it (fun i h => h.IsListIter it a i) where
  mem := List.mem_singleton.mpr rfl
  obj := fun i h ⟨o, e, c, dd⟩ b hb => by obtain rfl := List.mem_singleton.mp hb; exact ⟨o, e, fun v z => by rw [dd] at z; cases z⟩
  keep := fun i h h' st k => st.at fun o e => k it (List.mem_singleton.mpr rfl) o e
  item := fun X hP hw hK hc i pins s σ H E I hf st hg => by
    subst hP hw hK
    obtain ⟨xs, x, hq, hx⟩ := hg; obtain ⟨its, rv, p, hz⟩ := I.list hq; obtain ⟨u, hu, ru⟩ := rv.get hx; obtain ⟨f0, f1, f2, f3, f4, f5⟩ := hf it (List.mem_singleton.mpr rfl)
    refine wpAny_pyNext_list_item st p.isList (x := u) (by simpa using hu) fun h' st' sb => ⟨u, rfl, ?_⟩
    obtain ⟨o, e, c, dd⟩ := id st'
    exact go_of (s := { s with heap := h' }) e c dd (by decide) ⟨x, H, I.turned (t' := s.toks) (fun b o hb z => (sb.2 b hb).trans z) f0 f1 f3 f4 f5, ru, ⟨rfl, fun ys hy => by rw [I.list_inj hy hq]; exact hx⟩, st', fun b hb => (hf b hb).1⟩
  done := fun X hP hw hK hc i pins s σ H E I hf st hg => by
    subst hP hw hK
    obtain ⟨xs, hq, hx⟩ := hg; obtain ⟨its, rv, p, hz⟩ := I.list hq; obtain ⟨f0, f1, f2, f3, f4, f5⟩ := hf it (List.mem_singleton.mpr rfl)
    obtain ⟨p1, hot, hm⟩ := hc
    have P1 := I.pin p1 (List.mem_append_left _ hm); obtain ⟨hh, vs, e1, c1⟩ := hot
    have hl := rv.length
    exact list_end_hot ⟨hh, _, vs, P1.1, e1, c1⟩ (f5 p1 (List.mem_append_left _ hm)) st p.isList (by simp; omega) fun h' k => ⟨rfl, I.turned (t' := s.toks) k f0 f1 f3 f4 f5⟩
  self := fun _ _ _ _ _ st h => wpAny_pyIter_listiter st h
theorem pi_listH {X : Cx} {tg l : Expr} : L2H.PIH X tg l (iList X.K (wE X l)) := by
  refine ⟨fun pins s σ H R I h => thn (h.run pins s I) fun v s1 ⟨x, H1, I1, r1, a, ex, ⟨xs, hq⟩, q⟩ => ?_⟩
  subst ex; obtain rfl : v = Value.ref a := r1
  obtain ⟨its, rv, p, hz⟩ := I1.list hq
  refine wpAny_pyIter_list p.isList ⟨s1.heap.objs.size, [s1.heap.objs.size], _, _, H1, rfl, I1.kept (t' := s1.toks) fun b o e => Heap.get?_push_of_some _ e, turn_listH a _, ⟨_, Heap.get?_push_size _ rfl, rfl, rfl⟩, fun b hb => ?_, q⟩
  obtain rfl := List.mem_singleton.mp hb
  exact I1.fpOk (Nat.le_refl _) (I1.hok.fresh (Nat.le_refl _))
section
variable {X : Cx} {σ : St} {H : Hp}
/-- the block of a comprehension, its last piece hRR as the library's -/
theorem lcH {pins : List (Addr × Obj)} {s : Shared} {Q : VK} {elt tg l : Expr} {ifs : List Expr} {scope : Scope} {own : List (Str × Nat)} {pos pos' : Pos} {wi : TI} {use : Option (Value → Sem Unit)} {Qf : Value → Shared → Prop} {p : Addr × Obj} {cls : Value} {d : Option Addr} {g : TG} {tt : TT} {te : TE} (hx : HX X p cls d)
    (hN : X.N.Nodup) (I : Inv X pins σ H s) (hi : L2H.PIH X tg l wi) (ok : BlkOk X.N X.env.scope scope own) (hs : ∀ x, foldedSetIterable l X.env x = pure x)
    (hg : ∀ (s : Shared) (H : Hp) (C : Addr) (cl : List (Str × Addr)) (fp : List Addr), PG (blkH X s H scope (compEnvC scope cl C X.env) fp) tg g ∧ PTs (blkH X s H scope (compEnvC scope cl C X.env) fp) ifs tt ∧ PE (blkH X s H scope (compEnvC scope cl C X.env) fp) elt te)
    (h : tLc wi g tt te (own.map (·.2)) σ H Q)
    (fin : ∀ L C s' m H', Inv X pins σ H' s' → Q (.ref L) H' → s'.heap.Ns C m → FpOk X pins H' C → compPost (model X.prog X.w) X.A X.xe use Qf (.ref L) C (.ok .next) s') :
    wpAny (model X.prog X.w) X.A (comprehension (.ListComp elt [⟨tg, l, ifs, 0⟩] scope pos) scope X.env pos' (newList []) false (eval l X.env) use) Qf X.xe s := by
  have hfr : ∀ y ∈ scope.names, y.2 = .free → ∃ c, X.env.cells.lookup y.1 = some c := fun z hz e => (ok.free z hz e).elim (fun k => I.ok.has _ (.inl k)) fun k => I.ok.has _ (.inr k)
  refine wpAny_comprehension_free (use := use) rfl hs (closure_ok hfr) ok.kind (fun z hz e => by rw [ok.uniq z hz, e]) (thn (hi.run pins s σ H _ I h) fun xv s1 hxv => thn hxv fun itv s2 hit => ?_)
  obtain ⟨it, fp, tn, J, H2, rfl, I2, T, st2, f2, q⟩ := hit
  refine wpAny_newObj_type (newEnv_comp ?_) (by show 0 ≤ sizeLine; decide)
  have hLn : H2 s2.heap.objs.size = none := I2.hok.fresh (Nat.le_refl _)
  obtain ⟨W, ⟨m0, w0⟩, turn⟩ := q _ hLn
  have I3 : Inv X pins σ (upd H2 s2.heap.objs.size (.lst [])) { s2 with heap := s2.heap.push { cls := .type "list", data := .seq ([] : List Value).toArray } } :=
    I2.laid (t' := s2.toks) (fun b o e => Heap.get?_push_of_some _ e) (Nat.le_refl _) ⟨Nat.zero_le _, [], 0, .nil, Heap.get?_push_size _ rfl⟩
  have szp : ∀ b ∈ fp, b < s2.heap.objs.size := fun b hb => by obtain ⟨o, e, _⟩ := T.obj _ _ st2 b hb; exact Heap.lt_size e
  have st3 : tn 0 (s2.heap.push { cls := .type "list", data := .seq ([] : List Value).toArray }) := T.keep _ _ _ st2 fun b _ o e => Heap.get?_push_of_some _ e
  generalize hL : s2.heap.objs.size = L at *
  generalize hs3 : ({ s2 with heap := s2.heap.push { cls := .type "list", data := .seq ([] : List Value).toArray } } : Shared) = s3 at I3
  have h3 : s2.heap.push { cls := .type "list", data := .seq ([] : List Value).toArray } = s3.heap := by rw [← hs3]
  have sz3 : s3.heap.objs.size = L + 1 := by rw [← hs3, ← hL]; exact Heap.size_push ..
  rw [h3] at st3
  have f3 : ∀ b ∈ fp, FpOk X pins (upd H2 L (.lst [])) b ∧ b < s3.heap.objs.size := fun b hb => ⟨⟨by rw [upd_ne (Nat.ne_of_lt (szp b hb))]; exact (f2 b hb).1, (f2 b hb).2⟩, by rw [sz3]; exact Nat.lt_succ_of_lt (szp b hb)⟩
  have I4 := block_start I3 ok hN f3
  obtain ⟨pg, pt, pe⟩ := hg s3 (upd H2 L (.lst [])) s3.heap.objs.size (cellsFrom (s3.heap.objs.size + 1) scope.names (cloFrom X.env.cells scope.names [])) fp
  show codeAny _ _ (.compStart _ 0 (.ref it) (.ref L) (compEnvC scope (cellsFrom (s3.heap.objs.size + 1) scope.names (cloFrom X.env.cells scope.names [])) s3.heap.objs.size X.env)) (compPost (model X.prog X.w) X.A X.xe use Qf (.ref L) s3.heap.objs.size) { s3 with heap := pushCells (s3.heap.push { cls := .type "dict", data := .dict #[] }) scope.names }
  generalize hce : compEnvC scope (cellsFrom (s3.heap.objs.size + 1) scope.names (cloFrom X.env.cells scope.names [])) s3.heap.objs.size X.env = ce at I4 pg pt pe ⊢
  have cL : ce.locals = s3.heap.objs.size := by subst hce; rfl
  generalize hH3 : upd H2 L (.lst []) = H3 at I3 I4 pg pt pe w0 f3
  have kp4 : ∀ b o, s3.heap.get? b = some o → (pushCells (s3.heap.push { cls := .type "dict", data := .dict #[] }) scope.names).get? b = some o := fun b o e => pushCells_keeps _ _ _ _ (Heap.get?_push_of_some _ e)
  generalize hs4 : ({ s3 with heap := pushCells (s3.heap.push { cls := .type "dict", data := .dict #[] }) scope.names } : Shared) = s4 at I4 ⊢
  have h4 : pushCells (s3.heap.push { cls := .type "dict", data := .dict #[] }) scope.names = s4.heap := by rw [← hs4]
  rw [h4] at kp4
  have st4 : tn 0 s4.heap := T.keep _ _ _ st3 fun b _ o e => kp4 b o e
  have pinB : ∀ p ∈ X.pn ++ [], s4.heap.get? p.1 = some p.2 ∧ H3 p.1 = none ∧ p.1 ≠ ce.locals ∧ p.1 ∉ frs X.stack ∧ ∀ v, p.2.data ≠ .cell v := fun p hp => by
    obtain ⟨e1, e2, e3, e4, e5⟩ := I3.pin p (List.mem_append_left _ (by rw [List.append_nil] at hp; exact hp))
    exact ⟨kp4 _ _ e1, e2, by rw [cL]; exact Nat.ne_of_lt (Heap.lt_size e1), fun hm => (List.mem_cons.mp (I3.stkSub _ hm)).elim e3 e4, e5⟩
  have I5 := Inv.toH I4 pinB
  have hxB : HX (blkH X s3 H3 scope ce fp) p cls d := ⟨hx.hot, hx.mem, hx.zn, hx.fl⟩
  have stat : ∀ {σ' : St} {H' : Hp} {s' : Shared}, Inv (blkH X s3 H3 scope ce fp) [] σ' H' s' → (∀ b ∈ fp, H' b = none) → ∀ b ∈ fp, FpOk (blkH X s3 H3 scope ce fp) [] H' b := fun {σ' H' s'} I' hn b hb =>
    ⟨hn b hb, (I'.ok.exf b hb).1, I'.ok.exfs b hb, .inl hb, fun x c e => (I'.ok.exf b hb).2 x c e, fun p hp => (f3 b hb).1.2.2.2.2.2 p (by rw [List.append_nil] at hp; exact List.mem_append_left _ hp)⟩
  have nfp : ∀ b ∈ fp, H3 b = none := fun b hb => (f3 b hb).1.1
  have loop : codeAny (model X.prog X.w) X.A (.compLoop (.ListComp elt [⟨tg, l, ifs, 0⟩] scope pos) 0 (.ref it) (.ref L) ce) (compPost (model X.prog X.w) X.A X.xe use Qf (.ref L) s3.heap.objs.size) s4 := by
    refine compLoop_any (fun n s' => ∃ i H', Inv (blkH X s3 H3 scope ce fp) [] (wipe σ (own.map (·.2))) H' s' ∧ (tn i s'.heap ∧ ∀ b ∈ fp, H' b = none) ∧ W i n H') (fun n s5 ⟨i, H5, J5, ⟨st5, n5⟩, w5⟩ => ?_) m0 ⟨0, H3, I5, ⟨st4, nfp⟩, w0⟩
    rcases turn i n H5 w5 with ⟨stop, qq⟩ | ⟨go, Nx, hNx, step⟩
    · refine thnF (T.done (blkH X s3 H3 scope ce fp) rfl rfl rfl hxB.hotC i [] s5 _ H5 (fun _ _ => False) J5 (stat J5 n5) st5 stop) fun r s6 ⟨hr, I6⟩ => ?_
      subst hr
      have I7 : Inv X pins σ H5 s6 := I3.call' (ch := fp) I6.os I6.base I6.hok I6.bare fun b hb => ⟨(f3 b hb).1.2.2.2.1, (f3 b hb).1.2.1, (f3 b hb).1.2.2.2.2.1, (f3 b hb).1.2.2.2.2.2⟩
      obtain ⟨m, hn, _⟩ := I6.loc; have nC : H5 ce.locals = none := I6.free
      rw [show (blkH X s3 H3 scope ce fp).env.locals = s3.heap.objs.size from cL] at hn; rw [cL] at nC
      exact fin L s3.heap.objs.size s6 m H5 I7 qq hn (I3.fpOk (Nat.le_refl _) nC)
    · refine thnF (T.item (blkH X s3 H3 scope ce fp) rfl rfl rfl hxB.hotC i [] s5 _ H5 (fun _ _ => False) J5 (stat J5 n5) st5 go) fun r s6 ⟨u, hr, h6⟩ => ?_
      subst hr
      refine thnF h6 fun _ s7 ⟨x, H7, I7, r7, y7, st7, n7⟩ => ?_
      refine thnF (pg.run _ s7 _ H7 x u _ (I7.pinned (stat I7 n7) (T.obj _ _ st7)) r7 (step x H7 y7)) fun _ s8 ⟨σ8, H8, I8, hw8, q8⟩ => thnF (pt.run _ s8 σ8 H8 _ I8 q8) fun b s9 ⟨H9, I9, q9⟩ => ?_
      have again : ∀ {s' : Shared} {H' : Hp}, Inv (blkH X s3 H3 scope ce fp) ([] ++ pinsAt fp s7.heap) σ8 H' s' → Nx H' → ∃ m, m < n ∧ ∃ i H', Inv (blkH X s3 H3 scope ce fp) [] (wipe σ (own.map (·.2))) H' s' ∧ (tn i s'.heap ∧ ∀ b ∈ fp, H' b = none) ∧ W i m H' := fun {s' H'} I' nx => by
        obtain ⟨m', hm, w'⟩ := hNx H' nx
        have pin' : ∀ b ∈ fp, ∀ o, s7.heap.get? b = some o → s'.heap.get? b = some o ∧ H' b = none := fun b hb o e => by have z := I'.pin (b, o) (List.mem_append_right _ (List.mem_append_right _ (mem_pinsAt hb e))); exact ⟨z.1, z.2.1⟩
        refine ⟨m', hm, i + 1, H', (I'.unpinned (pins := [])).weak (by rw [← hw8, wipe_length]) (fun j v e => by rw [← hw8] at e; exact (wipe_some e).1), ⟨T.keep _ _ _ st7 fun b hb o e => (pin' b hb o e).1, fun b hb => ?_⟩, w'⟩
        obtain ⟨o, e, _⟩ := T.obj _ _ st7 b hb; exact (pin' b hb o e).2
      cases b with
      | false => simp only [Bool.false_eq_true, if_false] at q9 ⊢; exact again I9 q9
      | true =>
        simp only [if_true] at q9 ⊢
        exact thnF (pe.run _ s9 σ8 H9 _ I9 q9) fun z s10 ⟨yv, H10, I10, r10, acc, hD10, hz10, nx⟩ => app_ok (X := blkH X s3 H3 scope ce fp) I10 hD10 hz10 r10 fun s11 I11 => again I11 nx
  exact codeAny_compStart_list loop (T.self X.A 0 _ _ _ st4 loop)
/-- name = [elt for tg in l if ..] there, on one row of the text -/
theorem slcH {i : Nat} {y : Str} {py : Pos} {elt tg l : Expr} {ifs : List Expr} {scope : Scope} {own : List (Str × Nat)} {pos spos : Pos} {D : Ends} {wi : TI} {p : Addr × Obj} {cls : Value} {d : Option Addr} {g : TG} {tt : TT} {te : TE} (hx : HX X p cls d) (hN : X.N.Nodup) (hy : X.N[i]? = some y) (hyl : X.env.scope.names.lookup y = some .local)
    (hsw : swapsWith (.ListComp elt [⟨tg, l, ifs, 0⟩] scope pos) (some (.Name y py)) spos.line X.env = pure true) (ok : BlkOk X.N X.env.scope scope own) (hi : L2H.PIH X tg l wi)
    (hg : ∀ (s : Shared) (H : Hp) (C : Addr) (cl : List (Str × Addr)) (fp : List Addr), PG (blkH X s H scope (compEnvC scope cl C X.env) fp) tg g ∧ PTs (blkH X s H scope (compEnvC scope cl C X.env) fp) ifs tt ∧ PE (blkH X s H scope (compEnvC scope cl C X.env) fp) elt te)
    (h2 : tLc wi g tt te (own.map (·.2)) σ H (fun x H1 => D.nx (σ.set i (some x)) H1))
    (hs : ∀ x, foldedSetIterable l X.env x = pure x := by intro _; rfl) : wS X (.Assign [.Name y py] (.ListComp elt [⟨tg, l, ifs, 0⟩] scope pos) spos) D σ H := by
  refine ⟨fun pins s I => ?_⟩
  rw [exec_Assign_Name_used _ _ _ _ hsw]; refine wpAny_bind (wpAny_standAt (wpAny_bind ?_))
  show wpAny _ X.A (do let _ ← comprehension (.ListComp elt [⟨tg, l, ifs, 0⟩] scope pos) scope X.env (firstIterPos [⟨tg, l, ifs, 0⟩] pos) (newList []) false (eval l X.env) (some (assign (.Name y py) X.env))) _ _ s
  refine wpAny_bind (thn (lcH (Qf := fun _ s' => SP X pins D .next s') hx hN I hi ok hs hg h2 fun L C s' m H' I' q hn f => ?_) fun _ s' hq => wpAny_pure (wpAny_pure hq))
  show wpAny _ _ (assign (.Name y py) X.env (.ref L)) _ _ _
  refine wpAny_assign_Name (store_ok2 (v := V.ref L) I' hN hy (.inl hyl) rfl (fun s2 I2 ⟨a, sb, ha⟩ => ?_) (.inr hyl))
  obtain ⟨f0, f1, f2, f3, f4, f5⟩ := f
  have haC : C ≠ a := ha.elim (fun z => by rw [z]; exact f1) fun z => fun e => f4 y a z e.symm
  exact ⟨m, hn.sameBut sb haC, fun h3 sb3 => ⟨_, H', I2.turned (t' := s2.toks) (fun b o hb e => (sb3.2 b hb).trans e) f0 f1 f3 f4 f5, q⟩⟩
end
end Z

set_option maxRecDepth 100000
set_option maxHeartbeats 4000000
namespace Z
open PySem PySem.Spec PyProof.Rows L2
open Evl (Ex)
section
variable {X : Cx} {σ : St} {H : Hp} {e a b c o : Expr} {es : List Expr} {st : Stmt} {sts : List Stmt} {pos pos' p p1 p2 apos : Pos} {Q : VK} {D : Ends} {W : WX} {q : Addr × Obj} {cls : Value} {dd : Option Addr}
/-! ### where an exception is handled: targets, isinstance, its fields, defs that take it -/
theorem gtupH {ts : List Expr} {k : Nat} {t : Addr} {xs : List V} {Q : St → Hp → Prop} (hx : HX X q cls dd) (hp : SqT X.K H t xs) (hl : xs.length = ts.length) (h : wGs X ts xs σ H Q) (hn : (assignEach ts X.env).length = ts.length := by rfl) (hst : (assignEach ts X.env).findIdx? (·.1) = none := by rfl) : wG X (.Tuple ts k pos) (.ref t) σ H Q := by
  refine ⟨fun pins s u I r => ?_⟩
  obtain rfl : u = Value.ref t := r
  obtain ⟨its, rv, ht, hz⟩ := I.tuple hp
  obtain ⟨x1, hot⟩ := hx.hotC.at I
  rw [assign_Tuple]; refine wpAny_bind (wpAny_standAt ?_)
  have hN : (assignEach ts X.env).length = its.toArray.size := by rw [hn, ← hl, rv.length]; simp
  unfold unpack; rw [hN, hst]
  exact wpAny_bind (wpAny_holding (unpack_hot hot ht fun h' k => h.run pins _ _ (I.kept (t' := s.toks) k) (by simpa using rv)))
/-- what a class must say so that isinstance asks its instances rightly, and their fields are read -/
structure XcC (K : PySem.W.Frag) (C : Addr) : Prop where
  is : ExcC K C
  fl : XfC K C
/-- its dict stands -/
def Xd (dd : Option Addr) (H : Hp) : Prop := ∀ d, dd = some d → ∃ fs, H d = some (.xd fs)
theorem kisE {c : V} {cv : Value} {C : Addr} {k : Bool} (hx : HX X q (.ref C) dd) (T : XcC X.K C) (hd : Xd dd H) (hc : ClsV c cv) (hk : PySem.W.kitOne X.K (.ref C) cv = some k) (h : Q (.bl k) H) : wK X (.builtin "isinstance") [.ref q.1, c] H Q := by
  refine ⟨fun pins s σ us I r => ?_⟩
  cases r with
  | cons rx rr =>
    cases rr with
    | cons rt rr =>
      cases rr; cases rx
      obtain rfl := hc.eq rt
      obtain ⟨hget, _⟩ := I.pin q (List.mem_append_left _ hx.mem)
      obtain ⟨vs, hv⟩ := hx.fl
      have hz := hx.zn
      cases dd with
      | none => exact PySem.W.kia_one (PySem.W.kitx_exc (od := none) (ox := q.2) (by obtain ⟨cd, hcd, _⟩ := PySem.W.any_some T.is.hd; rw [hcd]; rfl) T.is.hg T.is.hk T.is.hs T.is.ha T.is.hn T.is.ht T.is.hm) I.kIn ⟨hget, hz.1, by unfold PySem.W.notCls; rw [hv] <;> rfl, by rw [hz.2.1]; trivial⟩ hk (fun z => nomatch z) fun tk => ⟨.bl k, H, I.kept (t' := tk) fun _ _ z => z, rfl, h⟩
      | some d =>
        obtain ⟨fs, hfs⟩ := hd d rfl
        obtain ⟨mA, ⟨od, _, _, ho, _⟩, _⟩ : ObjOk X.prog X.w H s.heap d (.xd fs) := I.hok d _ hfs
        exact PySem.W.kia_one (PySem.W.kitx_exc (od := some od) (ox := q.2) (by obtain ⟨cd, hcd, _⟩ := PySem.W.any_some T.is.hd; rw [hcd]; rfl) T.is.hg T.is.hk T.is.hs T.is.ha T.is.hn T.is.ht T.is.hm) I.kIn ⟨hget, hz.1, by unfold PySem.W.notCls; rw [hv] <;> rfl, by rw [hz.2.1]; exact ho⟩ hk (fun z => nomatch z) fun tk => ⟨.bl k, H, I.kept (t' := tk) fun _ _ z => z, rfl, h⟩
/-- a field of the exception that is handled -/
theorem zfldE {C d : Addr} {f : Str} (hx : HX X q (.ref C) (some d)) (T : XcC X.K C) (hno : PySem.W.findIn X.K (.ref C) f = some none) (h : wE X e σ H fun x H1 => x = .ref q.1 ∧ ∃ fs v, H1 d = some (.xd fs) ∧ fs.lookup f = some v ∧ Q v H1)
    (hb : attributeBase e f X.env (eval e X.env) = eval e X.env := by rfl) : wE X (.Attribute e f pos) σ H Q := by
  refine ⟨fun pins s  I => ?_⟩
  refine attr_of hb (thn (h.run pins s I) fun u s1 ⟨x, H1, I1, rx, ex, fs, v, ea, l, qq⟩ => ?_)
  subst ex; obtain rfl : u = Value.ref q.1 := rx
  obtain ⟨vs, hv⟩ := hx.fl
  obtain ⟨mA, hns, hr⟩ : ObjOk X.prog X.w H1 s1.heap d (.xd fs) := I1.hok d _ ea
  obtain ⟨od, ho, hl⟩ := lookIn_ns hns
  obtain ⟨z, hz, rz⟩ := RelO.some_of (v := v) (o := mA f) (by rw [← l]; exact hr f)
  exact HandSPX.exc_get I1.kIn (od := some od) (ox := q.2) ⟨(I1.pin q (List.mem_append_left _ hx.mem)).1, hx.zn.1, by unfold PySem.W.notCls; rw [hv] <;> rfl, by rw [hx.zn.2.1]; exact ho⟩ T.fl.ga T.fl.gg T.fl.exC (PySem.W.findObj_own T.fl.hdC hno rfl (by rw [hl, hz])) (handed_of rz) ⟨v, H1, I1.tok _, rz, qq⟩
/-! ### a def that takes the handled exception -/
abbrev SpE := Value → Option Addr → Addr → List V → Hp → VK → Prop
structure FnE (P : Program) (w : World) (K : PySem.W.Frag) (mg : Str → Option Value) (base : Heap) (k : Nat) (f : Addr) (fd : FuncData) (ps : List Str) (sp : SpE) : Prop where
  len : ∀ cls d a vs H Q, sp cls d a vs H Q → vs.length = ps.length
  run : ∀ (A : Around) (outer : List Env) (s : Shared) (H : Hp) (args : Args) (us : List Value) (vs : List V) (Q : VK) (p : Addr × Obj) (cls : Value) (d : Option Addr), L2H.RoomH k A → L2H.Hot1 A p → L2N.Zn cls d p.2 → L2H.PinOk outer H s p → Env0 P w K mg base A outer s H → BindsTo s fd args (ps.zip us) → Vals vs us → sp cls d p.1 vs H Q →
    codeAny (model P w) A (.call (.ref f) args) (CR CX0 outer P w H s Q fun _ _ _ => False) s
theorem fnE_of {P : Program} {w : World} {K : PySem.W.Frag} {mg : Str → Option Value} {base : Heap} {k : Nat} {f : Addr} {fd : FuncData} {x qual : Str} {params : Arguments} {body : List Stmt} {scope : Scope} {dvs : List V} {kws : List (Str × V)} {N ps : List Str} {sp : SpE}
    (F : FunD K x qual params body scope dvs kws f fd) (S : FnScope N ps scope) (len : ∀ cls d a vs H Q, sp cls d a vs H Q → vs.length = ps.length)
    (hb : ∀ (cdv : Value) (A : Around) (outer : List Env) (s : Shared) (H : Hp) (vs : List V) (Q : VK) (p : Addr × Obj) (cls : Value) (d : Option Addr), HX (L2H.cxH CX0 P w K mg base N qual scope f cdv A outer s H (fun _ _ _ => False) p) p cls d → L2H.RoomH k (A.deeper (envOfC qual scope s.heap.objs.size f cdv)) → sp cls d p.1 vs H Q →
      wB (L2H.cxH CX0 P w K mg base N qual scope f cdv A outer s H (fun _ _ _ => False) p) body { nx := fun _ H' => Q .non H', rt := Q } (start N vs) H) : FnE P w K mg base (k + 1) f fd ps sp := by
  obtain ⟨oc, od, dV, kV, doc, pm, an, cdv, ct, osl, rfl, lk, hcd, _, _⟩ := F.ex
  refine ⟨len, fun A outer s H args us vs Q p cls d hr hot hz hpin e0 hbd r hsp => ?_⟩
  have KX : K.In s.heap := e0.mod.kin.keeps fun b o e => (e0.bs b o e).1
  have kinds : ∀ y ∈ ps.zip us, scope.names.lookup y.1 = some .local ∨ (scope.names.lookup y.1 = some .cell ∧ ((cellsFrom (s.heap.objs.size + 1) scope.names []).lookup y.1).isSome = true) := fun y hy =>
    (S.par y.1 (List.of_mem_zip (a := y.1) (b := y.2) hy).1).elim .inl fun z => .inr ⟨z, PySem.W.cellsFrom_some _ _ _ (.inl z)⟩
  refine codeAny_call_function hr.depth (KX _ _ lk) rfl S.co S.gen rfl (PySem.W.codeRec_of KX hcd) (hbd _ _ _ _ (wpAny_newFunctionEnv_cells S.kind kinds fun env he s1 xx => ?_))
  subst he
  refine ⟨(e0.mod.nolimit.keeps fun b o e => (e0.bs b o e).1).keeps xx.toInCall.keep, codeAny_func ?_⟩
  have hxx : HX (L2H.cxH CX0 P w K mg base N qual scope f cdv A outer s H (fun _ _ _ => False) p) p cls d := ⟨hot, List.mem_singleton.mpr rfl, hz, by obtain ⟨_, vs, e, _⟩ := hot; exact ⟨vs, e⟩⟩
  refine wpAny_mono ((hb cdv A outer s H vs Q p cls d hxx (hr.deeper _) hsp).run [] s1 (L2H.inv_startH S hpin e0 (len _ _ _ _ _ _ hsp) r xx)) (fun fl s' hs => ?_) fun er s' hs => hs
  cases fl with
  | ret u => obtain ⟨v, σ', H', J, rv, qq⟩ := hs; exact ⟨v, H', J.os, J.bare, J.base, J.hok, rv, qq⟩
  | next => obtain ⟨σ', H', J, qq⟩ := hs; exact ⟨V.non, H', J.os, J.bare, J.base, J.hok, rfl, qq⟩
  | brk => obtain ⟨_, _, _, z⟩ := hs; exact z.elim
  | cont => obtain ⟨_, _, _, z⟩ := hs; exact z.elim
def Ge (P : Program) (w : World) (K : PySem.W.Frag) (mg : Str → Option Value) (base : Heap) (k : Nat) (x : Str) (sp : SpE) : Prop :=
  ∃ (f : Addr) (fd : FuncData) (ps : List Str), mg x = some (.ref f) ∧ PySem.W.keepIn K (.ref f) = true ∧ Binds K fd ps [] ∧ FnE P w K mg base k f fd ps sp
theorem zcallE {x : Str} {k j : Nat} {sp : SpE} (F : Ge X.prog X.w X.K X.mg X.base k x sp) (hx : HX X q cls dd) (hr : L2H.RoomH j X.A) (hk : k ≤ j) (hg : Gl X x) (h : wA X (e :: es) σ H fun vs H1 => sp cls dd q.1 vs H1 Q)
    (hdb : (x == ("__debug__" : Str)) = false := by decide) (he : starEach (e :: es) X.env = (false, eval e X.env) :: starEach es X.env := by rfl) (hpl : (backTo pos (starEach es X.env)).any (·.1) = false := by rfl) : wE X (.Call (.Name x p) (e :: es) [] pos) σ H Q := by
  refine ⟨fun pins s  I => ?_⟩
  obtain ⟨f, fd, ps, hm, kp, hb, FF⟩ := F
  refine wpAny_Call_Name_kw (ld_glob I hg hm ?_ hdb)
  refine PySem.W.callWith_K (h₀ := X.base) I.ok.mod.kin kp (thn (h.run pos pins s I) fun us s1 ⟨vs, H1, I1, r, qq⟩ => ⟨I1.kIn, ?_⟩) he hpl
  have hl : (us ++ []).length = ps.length := by rw [List.append_nil]; exact r.length.symm.trans (FF.len _ _ _ _ _ _ qq)
  have b := hb s1 us I1.kIn hl
  rw [List.append_nil] at b
  have P1 := I1.pin q (List.mem_append_left _ hx.mem)
  refine wpAny_call (codeAny_mono (FF.run X.A X.stack s1 H1 ⟨us, []⟩ us vs Q q cls dd (hr.mono hk) hx.hot hx.zn ⟨P1.1, P1.2.1, fun hm => (List.mem_cons.mp (I1.stkSub q.1 hm)).elim P1.2.2.1 P1.2.2.2.1, P1.2.2.2.2⟩ I1.env0 b r qq) fun z s' hq => ?_)
  cases z with
  | error er => exact hq.elim
  | ok fl =>
    cases fl with
    | ret u => exact I1.after hq
    | next => exact hq.elim
    | brk => exact hq.elim
    | cont => exact hq.elim
/-! ### an own exception class with an __init__ -/
theorem sost {f : Str} (h : wE X e σ H fun y H1 => wE X o σ H1 fun x H2 => ∃ a C : Addr, x = .ref a ∧ OexC X.K C ∧ PySem.W.findIn X.K (.ref C) f = some none ∧
      ((H2 a = some (exo a C none) ∧ ∀ dx, H2 dx = none → dx ≠ a → D.nx σ (upd (upd H2 dx (exd dx [(f, y)])) a (exo a C (some dx)))) ∨
        ∃ (dx : Addr) (fs : List (Str × V)), H2 a = some (exo a C (some dx)) ∧ H2 dx = some (exd dx fs) ∧ fs.length ≤ 900 ∧ D.nx σ (upd H2 dx (exd dx ((f, y) :: fs)))))
    (hs : swapsWith e (some (.Attribute o f p')) pos.line X.env = pure false := by rfl) : wS X (.Assign [.Attribute o f p'] e pos) D σ H := ofS (ps_ost sE sE hs) h
/-- C(e, ..) -/
theorem moex {x : Str} {C fI : Addr} {k j : Nat} {fd : FuncData} {ps : List Str} {sp : Sp} {Q : XK} (T : OexC X.K C) (iC : PySem.W.findIn X.K (.ref C) "__init__" = some (some (.ref fI))) (tI : PySem.W.typeIn X.K (.ref fI) = some (.type "function"))
    (F1 : FnOk X.prog X.w X.K X.mg X.base CX0 k fI fd ps sp) (hb : Binds X.K fd ps []) (hr : Room j X.A) (hk : k + 1 ≤ j) (hg : Gl X x) (hm : X.mg x = some (.ref C)) (h : tMkO C sp [] (wA X (e :: es)) σ H Q)
    (hdb : (x == ("__debug__" : Str)) = false := by decide) (he : starEach (e :: es) X.env = (false, eval e X.env) :: starEach es X.env := by rfl) (hpl : (backTo pos (starEach es X.env)).any (·.1) = false := by rfl) : wM X (.Call (.Name x p) (e :: es) [] pos) σ H Q := by
  refine ⟨fun pins s  I => ?_⟩
  obtain ⟨nm, qn, N, bs, bm, sn, sub, ab, col, dd', k0, k1, k2, k3, k5, hC, hbm⟩ := T.cls
  refine wpAny_Call_Name_kw (ld_glob I hg hm ?_ hdb)
  refine PySem.W.callWith_K (h₀ := X.base) I.ok.mod.kin T.kC (thn (h.run pos pins s I) fun us s1 ⟨vs, H1, I1, r1, hz, q1⟩ => ⟨I1.kIn, ?_⟩) he hpl
  show wpAny _ _ (call (.ref C) us) _ _ _
  obtain ⟨hp, g, dr, tk, os⟩ := s1
  have hsz : hp.objs.size ≤ hp.objs.size + 1 := Nat.le_succ _
  have hq := q1 (hp.objs.size + 1) (I1.hok.fresh hsz)
  rw [List.append_nil] at hq
  generalize hup : (hp.push (PySem.W.kdv_tup us)).push (PySem.HandSPX.excO C hp.objs.size) = hp2
  have kk : ∀ b o, hp.get? b = some o → hp2.get? b = some o := fun b o e => by rw [← hup]; exact Heap.get?_push_of_some _ (Heap.get?_push_of_some _ e)
  have hget : hp2.get? (hp.objs.size + 1) = some (PySem.HandSPX.excO C hp.objs.size) := by rw [← hup]; heap_get
  have I2 : Inv X pins σ (upd H1 (hp.objs.size + 1) (exo (hp.objs.size + 1) C none)) ⟨hp2, g, dr, tk, os⟩ := I1.laid (t' := tk) (a := hp.objs.size + 1) (o := exo (hp.objs.size + 1) C none) (h' := hp2) kk hsz (exo_ok hget)
  have r2 : Vals (V.ref (hp.objs.size + 1) :: vs) (Value.ref (hp.objs.size + 1) :: us) := .cons rfl r1
  have hl : ((Value.ref (hp.objs.size + 1) :: us) ++ []).length = ps.length := by rw [List.append_nil, ← r2.length]; exact F1.len _ _ _ _ hq
  have b2 := hb _ (Value.ref (hp.objs.size + 1) :: us) I2.kIn hl
  rw [List.append_nil] at b2
  have hus : us.length ≤ sizeLine := by rw [← Paired.length r1, sizeLine_eq]; omega
  refine wpAny_call (PySem.HandSPX.call_own F.excBase_ValueError (fun Y => PySem.HandSPX.refsVE_contains Y bm hbm) (I1.kIn _ _ hC) (PySem.W.looks_findIn I1.kIn iC) (fun self => PySem.W.bind_fn I1.kIn self tI) hus ?_)
  rw [hup]
  refine codeAny_mono (F1.run _ X.stack _ _ ⟨Value.ref (hp.objs.size + 1) :: us, []⟩ (Value.ref (hp.objs.size + 1) :: us) _ _ (fun _ _ _ => False) ((hr.mono hk).make C us []) (I2.env0.make C us []) b2 r2 hq) fun z s' hq' => ?_
  cases z with
  | error er => exact hq'.elim
  | ok fl =>
    cases fl with
    | ret u =>
      obtain ⟨v, H2, os2, bare2, un2, hok2, rv, ev, d, fs, ea, ed, hd1, q2⟩ := hq'
      subst ev
      obtain ⟨h2, g2, d2, t2, os'⟩ := s'
      obtain ⟨t0, G, J, kG, ge, hoe, na⟩ := mk_end0 (d2 := d2) (t2 := t2) I1 hsz kk un2 hok2 os2 bare2 ea ed hd1
      exact ⟨rv, hp.objs.size + 1, _, _, ⟨G, g2, d2, t2, os'⟩, _, .ref C, some d, rfl, J, kG, ge, hoe, ⟨rfl, rfl, fun vs hv => by cases hv; rfl⟩, rfl, rfl, na, rfl, bare2, raises_own T.exC T.tyC, q2⟩
    | next => exact hq'.elim
    | brk => exact hq'.elim
    | cont => exact hq'.elim
end
end Z

set_option maxRecDepth 100000
set_option maxHeartbeats 4000000
namespace Z
open PySem PySem.Spec PyProof.Rows L2
open Evl (Ex)
/-! ### facts of the written part, by names -/
def oexB (K : PySem.W.Frag) (C : Addr) : Bool := match K.lookup C with
  | some ⟨.type "type", _, .cls cd, sl⟩ => (match cd.mro, sl.toList with
    | .ref C' :: bm, [_, _, _, _, some (.builtin n), _] => decide (C' = C) && (decide (n = "ValueError.__new__") && (!cd.hasDel && (cd.hasDict && PySem.HandSPX.refsVE bm)))
    | _, _ => false)
  | _ => false
theorem oexB_ok {K : PySem.W.Frag} {C : Addr} (h : oexB K C = true) : ∃ nm q N bs bm sn sub ab col dd k0 k1 k2 k3 k5, K.lookup C = some (excClassObj nm q C N bs bm true sn sub ab col dd k0 k1 k2 k3 k5 "ValueError.__new__") ∧ PySem.HandSPX.refsVE bm = true := by
  unfold oexB at h
  split at h
  · rename_i dd cd sl ho
    split at h
    · rename_i C' bm k0 k1 k2 k3 n k5 hm hs
      simp only [Bool.and_eq_true, decide_eq_true_eq, Bool.not_eq_true'] at h
      obtain ⟨rfl, rfl, hdel, hdict, hb⟩ := h
      obtain ⟨nm, bs, mro, ns, qn, hd, sn, sub, ab, col, del⟩ := cd
      dsimp only at hm hdel hdict; subst hm hdel hdict
      obtain ⟨l⟩ := sl; dsimp only at hs; subst hs
      exact ⟨nm, qn, ns, bs, bm, sn, sub, ab, col, dd, k0, k1, k2, k3, k5, ho, hb⟩
    · cases h
  · cases h
/-- what may be asked of classes: their kin (isinstance, except), an exception with fields, one without, what isinstance and reads of it ask -/
inductive Fz where
  | kit (x y : Str) (b : Bool)
  | kitT (x : Str) (t : String) (b : Bool)
  | kTO (t : String) (y : Str) (b : Bool)
  | oex (x : Str)
  | noa (x f : Str)
  | xc (x : Str)
  | cls (x : Str)
  | fnd (x m : Str) (p : Str × Option Str)
  | ins (x : Str)
  | mk (x : Str) (p : Str × Option Str)
  | mk0 (x : Str)
def Fz.ok (K : PySem.W.Frag) : Fz → Bool
  | .kit x y b => decide (PySem.W.kitOne K (.ref (He.ga K x)) (.ref (He.ga K y)) = some b)
  | .kitT x t b => decide (PySem.W.kitOne K (.ref (He.ga K x)) (.type t) = some b)
  | .kTO t y b => decide (PySem.W.kitOne K (.type t) (.ref (He.ga K y)) = some b)
  | .oex x => oexB K (He.ga K x) && (He.eqO (PySem.W.findIn K (.ref (He.ga K x)) "__setattr__") (some (some (.builtin "object.__setattr__"))) && (decide (PySem.W.subIn K (.ref (He.ga K x)) (.type "BaseException") = some true) && (decide (PySem.W.typeIn K (.ref (He.ga K x)) = some (.type "type")) &&
      (PySem.W.keepIn K (.ref (He.ga K x)) && (He.eqO (PySem.W.findIn K (.ref (He.ga K x)) "__init__") (some (some (.ref (He.ma K (He.ga K x) "__init__")))) && decide (PySem.W.typeIn K (.ref (He.ma K (He.ga K x) "__init__")) = some (.type "function")))))))
  | .noa x f => He.eqO (PySem.W.findIn K (.ref (He.ga K x)) f) (some none)
  | .xc x => xfB K (He.ga K x) && (He.eqO (PySem.W.findIn K (.ref (He.ga K x)) "__class__") (some (some (.builtin "object.__class__"))) && (decide (PySem.W.specialIn K (.builtin "object.__class__") "__get__" = some (some (.builtin "getset_descriptor.__get__"))) &&
      (decide (PySem.W.takesIn K (.builtin "object.__class__") = some true) && decide (PySem.W.mroIn K (He.ga K x) (.type "object") = some true))))
  | .cls x => (match PySem.W.typeIn K (.ref (He.ga K x)) with | some (.type "type") => true | _ => false)
  | .fnd x m p => He.eqO (PySem.W.findIn K (.ref (He.ga K x)) m) (some (some (.ref (He.fAd K p)))) && (PySem.W.isFn K (.ref (He.fAd K p)) && PySem.W.keepIn K (.ref (He.fAd K p)))
  | .ins x => PySem.W.plainGet K (He.ga K x) Str.empty && (PySem.W.hasDictIn K (He.ga K x) && (PySem.W.plainOver K (He.ga K x) && (He.eqO (PySem.W.findIn K (.ref (He.ga K x)) "__setattr__") (some (some (.builtin "object.__setattr__"))) &&
      (He.eqO (PySem.W.findIn K (.ref (He.ga K x)) "__class__") (some (some (.builtin "object.__class__"))) && (decide (PySem.W.specialIn K (.builtin "object.__class__") "__get__" = some (some (.builtin "getset_descriptor.__get__"))) &&
      (decide (PySem.W.takesIn K (.builtin "object.__class__") = some true) && decide (PySem.W.mroIn K (He.ga K x) (.type "object") = some true)))))))
  | .mk x p => PySem.W.makesIn K (He.ga K x) && (He.eqO (PySem.W.findIn K (.ref (He.ga K x)) "__init__") (some (some (.ref (He.fAd K p)))) && (PySem.W.isFn K (.ref (He.fAd K p)) && PySem.W.keepIn K (.ref (He.ga K x))))
  | .mk0 x => PySem.W.makesIn K (He.ga K x) && (He.eqO (PySem.W.findIn K (.ref (He.ga K x)) "__init__") (some (some (.builtin "object.__init__"))) && PySem.W.keepIn K (.ref (He.ga K x)))
/-- an own class of plain instances -/
structure InsK (K : PySem.W.Frag) (C : Addr) : Prop where
  cl : Cls K C
  ha : PySem.W.findIn K (.ref C) "__class__" = some (some (.builtin "object.__class__"))
  hn : PySem.W.specialIn K (.builtin "object.__class__") "__get__" = some (some (.builtin "getset_descriptor.__get__"))
  ht : PySem.W.takesIn K (.builtin "object.__class__") = some true
  hm : PySem.W.mroIn K C (.type "object") = some true
theorem InsK.ty {K : PySem.W.Frag} {C a dx : Addr} {fs : List (Str × V)} {H : Hp} (h : InsK K C) (e : H a = some (.ins C dx fs)) : TyX K H (.ref a) (.ref C) := .base (.ins e h.cl h.ha h.hn h.ht h.hm)
/-- a class without an own __init__ -/
structure Mk0 (K : PySem.W.Frag) (C : Addr) : Prop where
  makes : PySem.W.makesIn K C = true
  init : PySem.W.findIn K (.ref C) "__init__" = some (some (.builtin "object.__init__"))
  kp : PySem.W.keepIn K (.ref C) = true
section
variable {K : PySem.W.Frag} {x : Str}
theorem kit_ok {y : Str} {b : Bool} (h : (Fz.kit x y b).ok K = true) : PySem.W.kitOne K (.ref (He.ga K x)) (.ref (He.ga K y)) = some b := of_decide_eq_true h
theorem kitT_ok {t : String} {b : Bool} (h : (Fz.kitT x t b).ok K = true) : PySem.W.kitOne K (.ref (He.ga K x)) (.type t) = some b := of_decide_eq_true h
theorem kTO_ok {y : Str} {t : String} {b : Bool} (h : (Fz.kTO t y b).ok K = true) : PySem.W.kitOne K (.type t) (.ref (He.ga K y)) = some b := of_decide_eq_true h
theorem noa_ok {f : Str} (h : (Fz.noa x f).ok K = true) : PySem.W.findIn K (.ref (He.ga K x)) f = some none := He.eqO_ok h
theorem fnd_ok {m : Str} {p : Str × Option Str} (h : (Fz.fnd x m p).ok K = true) : Meth K (He.ga K x) m (He.fAd K p) := by
  obtain ⟨h1, h⟩ := He.ba h; obtain ⟨h2, h3⟩ := He.ba h
  exact ⟨He.eqO_ok h1, h2, h3⟩
theorem ins_ok (h : (Fz.ins x).ok K = true) : InsK K (He.ga K x) := by
  obtain ⟨h1, h⟩ := He.ba h; obtain ⟨h2, h⟩ := He.ba h; obtain ⟨h3, h⟩ := He.ba h; obtain ⟨h4, h⟩ := He.ba h; obtain ⟨h5, h⟩ := He.ba h; obtain ⟨h6, h⟩ := He.ba h; obtain ⟨h7, h8⟩ := He.ba h
  exact ⟨⟨h1, h2, h3, He.eqO_ok h4⟩, He.eqO_ok h5, of_decide_eq_true h6, of_decide_eq_true h7, of_decide_eq_true h8⟩
theorem mk_ok {p : Str × Option Str} (h : (Fz.mk x p).ok K = true) : Mk K (He.ga K x) (He.fAd K p) := by
  obtain ⟨h1, h⟩ := He.ba h; obtain ⟨h2, h⟩ := He.ba h; obtain ⟨h3, h4⟩ := He.ba h
  exact ⟨h1, He.eqO_ok h2, h3, h4⟩
theorem mk0_ok (h : (Fz.mk0 x).ok K = true) : Mk0 K (He.ga K x) := by
  obtain ⟨h1, h⟩ := He.ba h; obtain ⟨h2, h3⟩ := He.ba h
  exact ⟨h1, He.eqO_ok h2, h3⟩
/-- an own exception class with an __init__ -/
structure OxC (K : PySem.W.Frag) (C fI : Addr) : Prop where
  o : OexC K C
  i : PySem.W.findIn K (.ref C) "__init__" = some (some (.ref fI))
  t : PySem.W.typeIn K (.ref fI) = some (.type "function")
theorem oex_ok (h : (Fz.oex x).ok K = true) : OxC K (He.ga K x) (He.ma K (He.ga K x) "__init__") := by
  obtain ⟨h1, h⟩ := He.ba h; obtain ⟨h2, h⟩ := He.ba h; obtain ⟨h3, h⟩ := He.ba h; obtain ⟨h4, h⟩ := He.ba h; obtain ⟨h5, h⟩ := He.ba h; obtain ⟨h6, h7⟩ := He.ba h
  exact ⟨⟨oexB_ok h1, He.eqO_ok h2, of_decide_eq_true h3, of_decide_eq_true h4, h5⟩, He.eqO_ok h6, of_decide_eq_true h7⟩
theorem xc_ok (h : (Fz.xc x).ok K = true) : XcC K (He.ga K x) := by
  obtain ⟨h1, h⟩ := He.ba h; obtain ⟨h2, h⟩ := He.ba h; obtain ⟨h3, h⟩ := He.ba h; obtain ⟨h4, h5⟩ := He.ba h
  have T := xfB_ok h1
  exact ⟨⟨T.ga, T.gg, T.exC, T.hdC, He.eqO_ok h2, of_decide_eq_true h3, of_decide_eq_true h4, of_decide_eq_true h5⟩, T⟩
end
theorem more_of {K : PySem.W.Frag} {fz : List Fz} (h : (fz.all fun f => f.ok K) = true) (i : Nat) {f : Fz} (e : fz[i]? = some f := by rfl) : f.ok K = true := List.all_eq_true.mp h f (List.mem_of_getElem? e)
/-! ### a def of the text keeps its promise -/
section
variable {P : Program} {w : World} {K : PySem.W.Frag} {mg : Str → Option Value} {base : Heap}
/-- the context of a def's body -/
abbrev cx (P : Program) (w : World) (K : PySem.W.Frag) (mg : Str → Option Value) (base : Heap) (N : List Str) (qual : Str) (scope : Scope) (f : Addr) (cd : Value) (A : Around) (outer : List Env) (s : Shared) (H : Hp) (E : XK) : Cx := cxOf (L2N.CX P w) P w K mg base N qual scope f cd A outer s H E
theorem fn_mk {x qual : Str} {params : Arguments} {body : List Stmt} {scope : Scope} {dvs : List V} {kws : List (Str × V)} {f : Addr} {fd : FuncData} {N ps : List Str} {k : Nat} {sp : Sp} (F : FunD K x qual params body scope dvs kws f fd) (S : FnScope N ps scope) (len : ∀ vs H Q E, sp vs H Q E → vs.length = ps.length)
    (hb : ∀ (cd : Value) (A : Around) (outer : List Env) (s : Shared) (H : Hp) (vs : List V) (Q : VK) (E : XK), Room k (cx P w K mg base N qual scope f cd A outer s H E).A → L2N.Takes (cx P w K mg base N qual scope f cd A outer s H E) (fun cls d _ H' => E cls d H') →
      PassesOwn (model P w) (cx P w K mg base N qual scope f cd A outer s H E).A (cx P w K mg base N qual scope f cd A outer s H E).env (cx P w K mg base N qual scope f cd A outer s H E).xe → sp vs H Q E →
      wB (cx P w K mg base N qual scope f cd A outer s H E) body { nx := fun _ H' => Q .non H', rt := Q } (start N vs) H) : FnOk P w K mg base (L2N.CX P w) (k + 1) f fd ps sp :=
  F.ok S len fun cd A outer s H vs Q E hr h => ⟨_, sB, hb cd A outer s H vs Q E hr (L2N.takes_of rfl rfl rfl rfl) (passes_of rfl) h⟩
/-- .. a def from which nothing is let out (an __init__ of an exception) -/
theorem fn_mk0 {x qual : Str} {params : Arguments} {body : List Stmt} {scope : Scope} {dvs : List V} {kws : List (Str × V)} {f : Addr} {fd : FuncData} {N ps : List Str} {k : Nat} {sp : Sp} (F : FunD K x qual params body scope dvs kws f fd) (S : FnScope N ps scope) (len : ∀ vs H Q E, sp vs H Q E → vs.length = ps.length)
    (hb : ∀ (cd : Value) (A : Around) (outer : List Env) (s : Shared) (H : Hp) (vs : List V) (Q : VK) (E : XK), Room k (cxOf CX0 P w K mg base N qual scope f cd A outer s H E).A → sp vs H Q E →
      wB (cxOf CX0 P w K mg base N qual scope f cd A outer s H E) body { nx := fun _ H' => Q .non H', rt := Q } (start N vs) H) : FnOk P w K mg base CX0 (k + 1) f fd ps sp :=
  F.ok S len fun cd A outer s H vs Q E hr h => ⟨_, sB, hb cd A outer s H vs Q E hr h⟩
theorem gf_mk {x : Str} {params : Arguments} {body : List Stmt} {scope : Scope} {f : Addr} {ps : List Str} {k : Nat} {sp : Sp} (hF : ∃ fd, FunD K x x params body scope [] [] f fd) (hm : mg x = some (.ref f))
    (hbind : ∀ (kV doc pm : Value) (an : Option Addr) (cdv ct : Value) (us : List Value), us.length = ps.length → bindArgs (PySem.W.fnOf x x params body scope .none kV doc pm an cdv ct) ⟨us, []⟩ = pure (ps.zip us))
    (ok : ∀ fd, FunD K x x params body scope [] [] f fd → FnOk P w K mg base (L2N.CX P w) k f fd ps sp) : Gf P w K mg base k x [] sp := by
  obtain ⟨fd, F⟩ := hF
  exact ⟨f, fd, ps, [], hm, F.kp, F.bindsN hbind, .nil, ok fd F⟩
theorem ge_mk {x : Str} {params : Arguments} {body : List Stmt} {scope : Scope} {f : Addr} {ps : List Str} {k : Nat} {sp : SpE} (hF : ∃ fd, FunD K x x params body scope [] [] f fd) (hm : mg x = some (.ref f))
    (hbind : ∀ (kV doc pm : Value) (an : Option Addr) (cdv ct : Value) (us : List Value), us.length = ps.length → bindArgs (PySem.W.fnOf x x params body scope .none kV doc pm an cdv ct) ⟨us, []⟩ = pure (ps.zip us))
    (ok : ∀ fd, FunD K x x params body scope [] [] f fd → FnE P w K mg base k f fd ps sp) : Ge P w K mg base k x sp := by
  obtain ⟨fd, F⟩ := hF
  exact ⟨f, fd, ps, hm, F.kp, F.bindsN hbind, ok fd F⟩
end
/-! ### an exception of an own class with fields -/
/-- __init__(self, a): self.f = a -/
def spI1 (C : Addr) (f : Str) : Sp := fun vs H Q _ => ∃ (a : Addr) (y : V), vs = [.ref a, y] ∧ H a = some (exo a C none) ∧ ∀ dx, H dx = none → dx ≠ a → Q .non (upd (upd H dx (exd dx [(f, y)])) a (exo a C (some dx)))
/-- __init__(self, a, b): self.f = a; self.g = b -/
def spI2 (C : Addr) (f g : Str) : Sp := fun vs H Q _ => ∃ (a : Addr) (y z : V), vs = [.ref a, y, z] ∧ H a = some (exo a C none) ∧ ∀ dx, H dx = none → dx ≠ a → Q .non (upd (upd (upd H dx (exd dx [(f, y)])) a (exo a C (some dx))) dx (exd dx [(g, z), (f, y)]))
section
variable {X : Cx} {σ : St} {H : Hp} {e : Expr} {es : List Expr} {p pos : Pos}
theorem Xd.ex {H1 H2 : Hp} {a d : Addr} {fs : List (Str × V)} {o1 : HO} (ha : H1 a = none) (hd : H1 d = none) (k : ∀ b, b ≠ a → b ≠ d → H2 b = H1 b) : Ex H1 (upd (del H2 a) d (.xd fs)) := fun b o e => by
  have n1 : b ≠ a := fun z => by rw [z, ha] at e; cases e
  have n2 : b ≠ d := fun z => by rw [z, hd] at e; cases e
  rw [upd_ne n2, del_ne n1, k b n1 n2]; exact e
theorem moex1 {x f : Str} {C fI : Addr} {k j : Nat} {fd : FuncData} {ps : List Str} {Q : XK} (T : OxC X.K C fI) (F1 : FnOk X.prog X.w X.K X.mg X.base CX0 k fI fd ps (spI1 C f)) (hb : Binds X.K fd ps []) (hm : X.mg x = some (.ref C)) (hr : Room j X.A) (hk : k + 1 ≤ j) (hg : Gl X x)
    (h : wA X (e :: es) σ H fun vs H1 => ∃ y, vs = [y] ∧ ∀ d H', H1 d = none → Ex H1 H' → H' d = some (.xd [(f, y)]) → Q (.ref C) (some d) H')
    (hdb : (x == ("__debug__" : Str)) = false := by decide) (he : starEach (e :: es) X.env = (false, eval e X.env) :: starEach es X.env := by rfl) (hpl : (backTo pos (starEach es X.env)).any (·.1) = false := by rfl) : wM X (.Call (.Name x p) (e :: es) [] pos) σ H Q := by
  refine moex T.o T.i T.t F1 hb hr hk hg hm ?_ hdb he hpl
  refine ⟨fun ps' pins s I => thn (h.run ps' pins s I) fun us s' ⟨vs, H1, J, r, y, ev, q⟩ => ⟨vs, H1, J, r, by rw [ev]; simp, fun a ha => ?_⟩⟩
  subst ev
  refine ⟨a, y, rfl, upd_same, fun dx hd hda => ⟨rfl, dx, [(f, y)], upd_same, by rw [upd_ne hda, upd_same], ?_, ?_⟩⟩
  · rw [upd_ne hda] at hd; exact hd
  · rw [upd_ne hda] at hd
    refine q dx _ hd (Xd.ex (o1 := .lst []) ha hd fun b n1 n2 => ?_) upd_same
    rw [upd_ne n1, upd_ne n2, upd_ne n1]
theorem moex2 {x f g : Str} {C fI : Addr} {k j : Nat} {fd : FuncData} {ps : List Str} {Q : XK} (T : OxC X.K C fI) (F1 : FnOk X.prog X.w X.K X.mg X.base CX0 k fI fd ps (spI2 C f g)) (hb : Binds X.K fd ps []) (hm : X.mg x = some (.ref C)) (hr : Room j X.A) (hk : k + 1 ≤ j) (hg : Gl X x)
    (h : wA X (e :: es) σ H fun vs H1 => ∃ y z, vs = [y, z] ∧ ∀ d H', H1 d = none → Ex H1 H' → H' d = some (.xd [(g, z), (f, y)]) → Q (.ref C) (some d) H')
    (hdb : (x == ("__debug__" : Str)) = false := by decide) (he : starEach (e :: es) X.env = (false, eval e X.env) :: starEach es X.env := by rfl) (hpl : (backTo pos (starEach es X.env)).any (·.1) = false := by rfl) : wM X (.Call (.Name x p) (e :: es) [] pos) σ H Q := by
  refine moex T.o T.i T.t F1 hb hr hk hg hm ?_ hdb he hpl
  refine ⟨fun ps' pins s I => thn (h.run ps' pins s I) fun us s' ⟨vs, H1, J, r, y, z, ev, q⟩ => ⟨vs, H1, J, r, by rw [ev]; simp, fun a ha => ?_⟩⟩
  subst ev
  refine ⟨a, y, z, rfl, upd_same, fun dx hd hda => ⟨rfl, dx, [(g, z), (f, y)], by rw [upd_ne (Ne.symm hda), upd_same], upd_same, ?_, ?_⟩⟩
  · rw [upd_ne hda] at hd; exact hd
  · rw [upd_ne hda] at hd
    refine q dx _ hd (Xd.ex (o1 := .lst []) ha hd fun b n1 n2 => ?_) upd_same
    rw [upd_ne n2, upd_ne n1, upd_ne n2, upd_ne n1]
end
end Z

set_option maxRecDepth 100000
set_option maxHeartbeats 4000000
namespace Z
open PySem PySem.Spec PyProof.Rows L2
/-! ### a leaner reach for great programs: names, classes' own names, code, defaults; each step once -/
def refsS (o : Obj) : List Addr := match o.data with
  | .dict es _ => es.toList.flatMap fun e => He.refV e.val
  | .func fd => He.refV fd.code ++ He.refV fd.defaults
  | .cls cd => [cd.ns]
  | _ => []
def stepS (g : Addr → Option Obj) (as : List Addr) : List Addr := as.flatMap fun a => match g a with
  | some o => refsS o
  | none => []
def asS (g : Addr → Option Obj) : Nat → List Addr → List Addr
  | 0, l => l
  | n + 1, l => l ++ asS g n (stepS g l)
section
variable {n : Nat} {fa : List He.Fa} {fn : List He.DefD} {ts : List He.Tab} {tf : List He.Defn} {ex : PySem.W.Frag → Bool}
theorem says_as {as : List Addr} {w : World} {h : Heap} (e : (He.obsT fa fn ts (He.frT h.get? as), ex (He.frT h.get? as) && He.tabsB h.get? tf (He.frT h.get? as)) = He.valX fn ts w) : He.SaysX fa fn ts tf ex w h (He.frT h.get? as) := by
  have z1 : He.obsT fa fn ts (He.frT h.get? as) = He.valT fn ts w := congrArg Prod.fst e
  have z2 : (ex (He.frT h.get? as) && He.tabsB h.get? tf (He.frT h.get? as)) = true := congrArg Prod.snd e
  rw [Bool.and_eq_true] at z2
  obtain ⟨z3, z4⟩ := z2
  have each : ∀ p ∈ tf, PySem.W.codeHdIn (He.frT h.get? as) (He.cT (He.frT h.get? as) p).1 (He.cT (He.frT h.get? as) p).2 = true ∧ ∃ o, h.get? (He.cT (He.frT h.get? as) p).2 = some o ∧ He.emptyTab o = true := by
    intro p hp
    have z := List.all_eq_true.mp z4 p hp
    rw [Bool.and_eq_true] at z
    obtain ⟨y1, y2⟩ := z
    cases y : h.get? (He.cT (He.frT h.get? as) p).2 with
    | none => rw [y] at y2; cases y2
    | some o => rw [y] at y2; exact ⟨y1, o, rfl, y2⟩
  refine ⟨z1, z3, fun p hp => (each p hp).1, fun p hp => ?_, fun p hp => ?_⟩
  · obtain ⟨_, o, a, b⟩ := each p hp
    exact He.frT_none a b
  · obtain ⟨_, o, a, b⟩ := each p hp
    rw [a, He.emptyTab_eq b]
end
def obsS (n : Nat) (fa : List He.Fa) (fn : List He.DefD) (tf : List He.Defn) (ex : PySem.W.Frag → Bool) (g : Addr → Option Obj) : He.AlX := (He.obsT fa fn [] (He.frT g (asS g n [mainGlobals])), ex (He.frT g (asS g n [mainGlobals])) && He.tabsB g tf (He.frT g (asS g n [mainGlobals])))
def hookS (n : Nat) (fa : List He.Fa) (fn : List He.DefD) (tf : List He.Defn) (ex : PySem.W.Frag → Bool) : PySem.W.Hook where
  α := He.AlX
  obs := fun s => obsS n fa fn tf ex s.heap.get?
  val := fun w => He.valX fn [] w
  says := fun w h => ∃ K : PySem.W.Frag, K.In h ∧ He.SaysX fa fn [] tf ex w h K
  of := fun _ _ e => ⟨_, He.frT_in, says_as e⟩
  keeps := fun _ _ _ ⟨K, hK, c⟩ k => ⟨K, PySem.W.Frag.In.keeps hK k, ⟨c.t, c.more, c.hd, c.out, fun p hp => k _ _ (c.empty p hp)⟩⟩
theorem obsS_eq {n : Nat} {fa : List He.Fa} {fn : List He.DefD} {tf : List He.Defn} {ex : PySem.W.Frag → Bool} {g : Addr → Option Obj} {s : Shared} (h : ∀ a, g a = s.heap.get? a) : obsS n fa fn tf ex g = (hookS n fa fn tf ex).obs s := by
  rw [show g = s.heap.get? from funext h]
  rfl
end Z

set_option maxRecDepth 100000
set_option maxHeartbeats 4000000
namespace K08
open PySem PySem.Spec PyProof.Rows L2 Z
/-! ### the text by places -/
def top (i : Nat) : Stmt := PySem.Challenge.pw_formkin_k08_books_written.main.body.getD i (.Pass ⟨0, 0, 0, 0⟩)
abbrev s__wall : Stmt := top 0
abbrev N__wall : List Str := ["k"]
theorem sc__wall : FnScope N__wall ["k"] (defScope s__wall) := ⟨rfl, rfl, rfl, by decide +kernel, rfl, by decide +kernel, by decide +kernel⟩
abbrev s_BadBook_init : Stmt := inClass (top 3) 0
abbrev N_BadBook_init : List Str := ["self", "place", "why"]
theorem sc_BadBook_init : FnScope N_BadBook_init ["self", "place", "why"] (defScope s_BadBook_init) := ⟨rfl, rfl, rfl, by decide +kernel, rfl, by decide +kernel, by decide +kernel⟩
abbrev s_BadText_init : Stmt := inClass (top 4) 0
abbrev N_BadText_init : List Str := ["self", "place"]
theorem sc_BadText_init : FnScope N_BadText_init ["self", "place"] (defScope s_BadText_init) := ⟨rfl, rfl, rfl, by decide +kernel, rfl, by decide +kernel, by decide +kernel⟩
abbrev s_is_whole : Stmt := top 10
abbrev N_is_whole : List Str := ["thing"]
theorem sc_is_whole : FnScope N_is_whole ["thing"] (defScope s_is_whole) := ⟨rfl, rfl, rfl, by decide +kernel, rfl, by decide +kernel, by decide +kernel⟩
abbrev s_is_among : Stmt := top 11
abbrev N_is_among : List Str := ["thing", "least", "most"]
theorem sc_is_among : FnScope N_is_among ["thing", "least", "most"] (defScope s_is_among) := ⟨rfl, rfl, rfl, by decide +kernel, rfl, by decide +kernel, by decide +kernel⟩
abbrev s_are_signs : Stmt := top 12
abbrev N_are_signs : List Str := ["text", "signs", "sign"]
theorem sc_are_signs : FnScope N_are_signs ["text", "signs"] (defScope s_are_signs) := ⟨rfl, rfl, rfl, by decide +kernel, rfl, by decide +kernel, by decide +kernel⟩
abbrev s_is_name : Stmt := top 13
abbrev N_is_name : List Str := ["thing"]
theorem sc_is_name : FnScope N_is_name ["thing"] (defScope s_is_name) := ⟨rfl, rfl, rfl, by decide +kernel, rfl, by decide +kernel, by decide +kernel⟩
abbrev s_number_text : Stmt := top 14
abbrev N_number_text : List Str := ["number"]
theorem sc_number_text : FnScope N_number_text ["number"] (defScope s_number_text) := ⟨rfl, rfl, rfl, by decide +kernel, rfl, by decide +kernel, by decide +kernel⟩
abbrev s_number_of : Stmt := top 15
abbrev N_number_of : List Str := ["word", "figures"]
theorem sc_number_of : FnScope N_number_of ["word"] (defScope s_number_of) := ⟨rfl, rfl, rfl, by decide +kernel, rfl, by decide +kernel, by decide +kernel⟩
abbrev s_words_of : Stmt := top 16
abbrev N_words_of : List Str := ["line", "words"]
theorem sc_words_of : FnScope N_words_of ["line"] (defScope s_words_of) := ⟨rfl, rfl, rfl, by decide +kernel, rfl, by decide +kernel, by decide +kernel⟩
abbrev s_is_sign : Stmt := top 22
abbrev N_is_sign : List Str := ["sign"]
theorem sc_is_sign : FnScope N_is_sign ["sign"] (defScope s_is_sign) := ⟨rfl, rfl, rfl, by decide +kernel, rfl, by decide +kernel, by decide +kernel⟩
abbrev s_Kind_word : Stmt := inClass (top 23) 0
abbrev N_Kind_word : List Str := ["self"]
theorem sc_Kind_word : FnScope N_Kind_word ["self"] (defScope s_Kind_word) := ⟨rfl, rfl, rfl, by decide +kernel, rfl, by decide +kernel, by decide +kernel⟩
abbrev s_Kind_words : Stmt := inClass (top 23) 1
abbrev N_Kind_words : List Str := ["self"]
theorem sc_Kind_words : FnScope N_Kind_words ["self"] (defScope s_Kind_words) := ⟨rfl, rfl, rfl, by decide +kernel, rfl, by decide +kernel, by decide +kernel⟩
abbrev s_Kind_is_plain : Stmt := inClass (top 23) 2
abbrev N_Kind_is_plain : List Str := ["self"]
theorem sc_Kind_is_plain : FnScope N_Kind_is_plain ["self"] (defScope s_Kind_is_plain) := ⟨rfl, rfl, rfl, by decide +kernel, rfl, by decide +kernel, by decide +kernel⟩
abbrev s_Kind_shape : Stmt := inClass (top 23) 3
abbrev N_Kind_shape : List Str := ["self"]
theorem sc_Kind_shape : FnScope N_Kind_shape ["self"] (defScope s_Kind_shape) := ⟨rfl, rfl, rfl, by decide +kernel, rfl, by decide +kernel, by decide +kernel⟩
abbrev s_Kind_width : Stmt := inClass (top 23) 4
abbrev N_Kind_width : List Str := ["self"]
theorem sc_Kind_width : FnScope N_Kind_width ["self"] (defScope s_Kind_width) := ⟨rfl, rfl, rfl, by decide +kernel, rfl, by decide +kernel, by decide +kernel⟩
abbrev s_Kind_suits : Stmt := inClass (top 23) 5
abbrev N_Kind_suits : List Str := ["self", "value"]
theorem sc_Kind_suits : FnScope N_Kind_suits ["self", "value"] (defScope s_Kind_suits) := ⟨rfl, rfl, rfl, by decide +kernel, rfl, by decide +kernel, by decide +kernel⟩
abbrev s_Kind_blank : Stmt := inClass (top 23) 6
abbrev N_Kind_blank : List Str := ["self"]
theorem sc_Kind_blank : FnScope N_Kind_blank ["self"] (defScope s_Kind_blank) := ⟨rfl, rfl, rfl, by decide +kernel, rfl, by decide +kernel, by decide +kernel⟩
abbrev s_Truth_word : Stmt := inClass (top 24) 0
abbrev N_Truth_word : List Str := ["self"]
theorem sc_Truth_word : FnScope N_Truth_word ["self"] (defScope s_Truth_word) := ⟨rfl, rfl, rfl, by decide +kernel, rfl, by decide +kernel, by decide +kernel⟩
abbrev s_Truth_width : Stmt := inClass (top 24) 1
abbrev N_Truth_width : List Str := ["self"]
theorem sc_Truth_width : FnScope N_Truth_width ["self"] (defScope s_Truth_width) := ⟨rfl, rfl, rfl, by decide +kernel, rfl, by decide +kernel, by decide +kernel⟩
abbrev s_Truth_suits : Stmt := inClass (top 24) 2
abbrev N_Truth_suits : List Str := ["self", "value"]
theorem sc_Truth_suits : FnScope N_Truth_suits ["self", "value"] (defScope s_Truth_suits) := ⟨rfl, rfl, rfl, by decide +kernel, rfl, by decide +kernel, by decide +kernel⟩
abbrev s_Truth_blank : Stmt := inClass (top 24) 3
abbrev N_Truth_blank : List Str := ["self"]
theorem sc_Truth_blank : FnScope N_Truth_blank ["self"] (defScope s_Truth_blank) := ⟨rfl, rfl, rfl, by decide +kernel, rfl, by decide +kernel, by decide +kernel⟩
abbrev s_Count_word : Stmt := inClass (top 25) 0
abbrev N_Count_word : List Str := ["self"]
theorem sc_Count_word : FnScope N_Count_word ["self"] (defScope s_Count_word) := ⟨rfl, rfl, rfl, by decide +kernel, rfl, by decide +kernel, by decide +kernel⟩
abbrev s_Count_suits : Stmt := inClass (top 25) 1
abbrev N_Count_suits : List Str := ["self", "value"]
theorem sc_Count_suits : FnScope N_Count_suits ["self", "value"] (defScope s_Count_suits) := ⟨rfl, rfl, rfl, by decide +kernel, rfl, by decide +kernel, by decide +kernel⟩
abbrev s_Whole_word : Stmt := inClass (top 26) 0
abbrev N_Whole_word : List Str := ["self"]
theorem sc_Whole_word : FnScope N_Whole_word ["self"] (defScope s_Whole_word) := ⟨rfl, rfl, rfl, by decide +kernel, rfl, by decide +kernel, by decide +kernel⟩
abbrev s_Whole_suits : Stmt := inClass (top 26) 1
abbrev N_Whole_suits : List Str := ["self", "value"]
theorem sc_Whole_suits : FnScope N_Whole_suits ["self", "value"] (defScope s_Whole_suits) := ⟨rfl, rfl, rfl, by decide +kernel, rfl, by decide +kernel, by decide +kernel⟩
abbrev s_Upto_init : Stmt := inClass (top 27) 0
abbrev N_Upto_init : List Str := ["self", "most"]
theorem sc_Upto_init : FnScope N_Upto_init ["self", "most"] (defScope s_Upto_init) := ⟨rfl, rfl, rfl, by decide +kernel, rfl, by decide +kernel, by decide +kernel⟩
abbrev s_Upto_word : Stmt := inClass (top 27) 1
abbrev N_Upto_word : List Str := ["self"]
theorem sc_Upto_word : FnScope N_Upto_word ["self"] (defScope s_Upto_word) := ⟨rfl, rfl, rfl, by decide +kernel, rfl, by decide +kernel, by decide +kernel⟩
abbrev s_Upto_words : Stmt := inClass (top 27) 2
abbrev N_Upto_words : List Str := ["self"]
theorem sc_Upto_words : FnScope N_Upto_words ["self"] (defScope s_Upto_words) := ⟨rfl, rfl, rfl, by decide +kernel, rfl, by decide +kernel, by decide +kernel⟩
abbrev s_Upto_width : Stmt := inClass (top 27) 3
abbrev N_Upto_width : List Str := ["self"]
theorem sc_Upto_width : FnScope N_Upto_width ["self"] (defScope s_Upto_width) := ⟨rfl, rfl, rfl, by decide +kernel, rfl, by decide +kernel, by decide +kernel⟩
abbrev s_Upto_suits : Stmt := inClass (top 27) 4
abbrev N_Upto_suits : List Str := ["self", "value"]
theorem sc_Upto_suits : FnScope N_Upto_suits ["self", "value"] (defScope s_Upto_suits) := ⟨rfl, rfl, rfl, by decide +kernel, rfl, by decide +kernel, by decide +kernel⟩
abbrev s_Text_init : Stmt := inClass (top 28) 0
abbrev N_Text_init : List Str := ["self", "most"]
theorem sc_Text_init : FnScope N_Text_init ["self", "most"] (defScope s_Text_init) := ⟨rfl, rfl, rfl, by decide +kernel, rfl, by decide +kernel, by decide +kernel⟩
abbrev s_Text_word : Stmt := inClass (top 28) 1
abbrev N_Text_word : List Str := ["self"]
theorem sc_Text_word : FnScope N_Text_word ["self"] (defScope s_Text_word) := ⟨rfl, rfl, rfl, by decide +kernel, rfl, by decide +kernel, by decide +kernel⟩
abbrev s_Text_words : Stmt := inClass (top 28) 2
abbrev N_Text_words : List Str := ["self"]
theorem sc_Text_words : FnScope N_Text_words ["self"] (defScope s_Text_words) := ⟨rfl, rfl, rfl, by decide +kernel, rfl, by decide +kernel, by decide +kernel⟩
abbrev s_Text_shape : Stmt := inClass (top 28) 3
abbrev N_Text_shape : List Str := ["self"]
theorem sc_Text_shape : FnScope N_Text_shape ["self"] (defScope s_Text_shape) := ⟨rfl, rfl, rfl, by decide +kernel, rfl, by decide +kernel, by decide +kernel⟩
abbrev s_Text_suits : Stmt := inClass (top 28) 4
abbrev N_Text_suits : List Str := ["self", "value", "sign"]
theorem sc_Text_suits : FnScope N_Text_suits ["self", "value"] (defScope s_Text_suits) := ⟨rfl, rfl, rfl, by decide +kernel, rfl, by decide +kernel, by decide +kernel⟩
abbrev s_Text_blank : Stmt := inClass (top 28) 5
abbrev N_Text_blank : List Str := ["self"]
theorem sc_Text_blank : FnScope N_Text_blank ["self"] (defScope s_Text_blank) := ⟨rfl, rfl, rfl, by decide +kernel, rfl, by decide +kernel, by decide +kernel⟩
abbrev s_List_init : Stmt := inClass (top 29) 0
abbrev N_List_init : List Str := ["self", "item"]
theorem sc_List_init : FnScope N_List_init ["self", "item"] (defScope s_List_init) := ⟨rfl, rfl, rfl, by decide +kernel, rfl, by decide +kernel, by decide +kernel⟩
abbrev s_List_word : Stmt := inClass (top 29) 1
abbrev N_List_word : List Str := ["self"]
theorem sc_List_word : FnScope N_List_word ["self"] (defScope s_List_word) := ⟨rfl, rfl, rfl, by decide +kernel, rfl, by decide +kernel, by decide +kernel⟩
abbrev s_List_words : Stmt := inClass (top 29) 2
abbrev N_List_words : List Str := ["self"]
theorem sc_List_words : FnScope N_List_words ["self"] (defScope s_List_words) := ⟨rfl, rfl, rfl, by decide +kernel, rfl, by decide +kernel, by decide +kernel⟩
abbrev s_List_is_plain : Stmt := inClass (top 29) 3
abbrev N_List_is_plain : List Str := ["self"]
theorem sc_List_is_plain : FnScope N_List_is_plain ["self"] (defScope s_List_is_plain) := ⟨rfl, rfl, rfl, by decide +kernel, rfl, by decide +kernel, by decide +kernel⟩
abbrev s_List_shape : Stmt := inClass (top 29) 4
abbrev N_List_shape : List Str := ["self"]
theorem sc_List_shape : FnScope N_List_shape ["self"] (defScope s_List_shape) := ⟨rfl, rfl, rfl, by decide +kernel, rfl, by decide +kernel, by decide +kernel⟩
abbrev s_List_suits : Stmt := inClass (top 29) 5
abbrev N_List_suits : List Str := ["self", "value", "thing"]
theorem sc_List_suits : FnScope N_List_suits ["self", "value"] (defScope s_List_suits) := ⟨rfl, rfl, rfl, by decide +kernel, rfl, by decide +kernel, by decide +kernel⟩
abbrev s_List_blank : Stmt := inClass (top 29) 6
abbrev N_List_blank : List Str := ["self"]
theorem sc_List_blank : FnScope N_List_blank ["self"] (defScope s_List_blank) := ⟨rfl, rfl, rfl, by decide +kernel, rfl, by decide +kernel, by decide +kernel⟩
abbrev s_Nested_init : Stmt := inClass (top 30) 0
abbrev N_Nested_init : List Str := ["self", "name"]
theorem sc_Nested_init : FnScope N_Nested_init ["self", "name"] (defScope s_Nested_init) := ⟨rfl, rfl, rfl, by decide +kernel, rfl, by decide +kernel, by decide +kernel⟩
abbrev s_Nested_word : Stmt := inClass (top 30) 1
abbrev N_Nested_word : List Str := ["self"]
theorem sc_Nested_word : FnScope N_Nested_word ["self"] (defScope s_Nested_word) := ⟨rfl, rfl, rfl, by decide +kernel, rfl, by decide +kernel, by decide +kernel⟩
abbrev s_Nested_words : Stmt := inClass (top 30) 2
abbrev N_Nested_words : List Str := ["self"]
theorem sc_Nested_words : FnScope N_Nested_words ["self"] (defScope s_Nested_words) := ⟨rfl, rfl, rfl, by decide +kernel, rfl, by decide +kernel, by decide +kernel⟩
abbrev s_Nested_is_plain : Stmt := inClass (top 30) 3
abbrev N_Nested_is_plain : List Str := ["self"]
theorem sc_Nested_is_plain : FnScope N_Nested_is_plain ["self"] (defScope s_Nested_is_plain) := ⟨rfl, rfl, rfl, by decide +kernel, rfl, by decide +kernel, by decide +kernel⟩
abbrev s_Nested_shape : Stmt := inClass (top 30) 4
abbrev N_Nested_shape : List Str := ["self"]
theorem sc_Nested_shape : FnScope N_Nested_shape ["self"] (defScope s_Nested_shape) := ⟨rfl, rfl, rfl, by decide +kernel, rfl, by decide +kernel, by decide +kernel⟩
abbrev s_Nested_suits : Stmt := inClass (top 30) 5
abbrev N_Nested_suits : List Str := ["self", "value"]
theorem sc_Nested_suits : FnScope N_Nested_suits ["self", "value"] (defScope s_Nested_suits) := ⟨rfl, rfl, rfl, by decide +kernel, rfl, by decide +kernel, by decide +kernel⟩
abbrev s_Nested_blank : Stmt := inClass (top 30) 6
abbrev N_Nested_blank : List Str := ["self"]
theorem sc_Nested_blank : FnScope N_Nested_blank ["self"] (defScope s_Nested_blank) := ⟨rfl, rfl, rfl, by decide +kernel, rfl, by decide +kernel, by decide +kernel⟩
abbrev s_Field_init : Stmt := inClass (top 32) 0
abbrev N_Field_init : List Str := ["self", "number", "name", "kind", "must", "default"]
theorem sc_Field_init : FnScope N_Field_init ["self", "number", "name", "kind", "must", "default"] (defScope s_Field_init) := ⟨rfl, rfl, rfl, by decide +kernel, rfl, by decide +kernel, by decide +kernel⟩
abbrev s_by_numbers : Stmt := top 33
abbrev N_by_numbers : List Str := ["fields", "field"]
theorem sc_by_numbers : FnScope N_by_numbers ["fields"] (defScope s_by_numbers) := ⟨rfl, rfl, rfl, by decide +kernel, rfl, by decide +kernel, by decide +kernel⟩
abbrev s_rising : Stmt := top 34
abbrev N_rising : List Str := ["numbers", "number"]
theorem sc_rising : FnScope N_rising ["numbers"] (defScope s_rising) := ⟨rfl, rfl, rfl, by decide +kernel, rfl, by decide +kernel, by decide +kernel⟩
abbrev s_Form_init : Stmt := inClass (top 35) 0
abbrev N_Form_init : List Str := ["self", "name", "fields", "gone"]
theorem sc_Form_init : FnScope N_Form_init ["self", "name", "fields", "gone"] (defScope s_Form_init) := ⟨rfl, rfl, rfl, by decide +kernel, rfl, by decide +kernel, by decide +kernel⟩
abbrev s_Form_is_choice : Stmt := inClass (top 35) 1
abbrev N_Form_is_choice : List Str := ["self"]
theorem sc_Form_is_choice : FnScope N_Form_is_choice ["self"] (defScope s_Form_is_choice) := ⟨rfl, rfl, rfl, by decide +kernel, rfl, by decide +kernel, by decide +kernel⟩
abbrev s_Form_called : Stmt := inClass (top 35) 2
abbrev N_Form_called : List Str := ["self"]
theorem sc_Form_called : FnScope N_Form_called ["self"] (defScope s_Form_called) := ⟨rfl, rfl, rfl, by decide +kernel, rfl, by decide +kernel, by decide +kernel⟩
abbrev s_Form_field_at : Stmt := inClass (top 35) 3
abbrev N_Form_field_at : List Str := ["self", "number", "field"]
theorem sc_Form_field_at : FnScope N_Form_field_at ["self", "number"] (defScope s_Form_field_at) := ⟨rfl, rfl, rfl, by decide +kernel, rfl, by decide +kernel, by decide +kernel⟩
abbrev s_Form_field_of : Stmt := inClass (top 35) 4
abbrev N_Form_field_of : List Str := ["self", "name", "field"]
theorem sc_Form_field_of : FnScope N_Form_field_of ["self", "name"] (defScope s_Form_field_of) := ⟨rfl, rfl, rfl, by decide +kernel, rfl, by decide +kernel, by decide +kernel⟩
abbrev s_Record_called : Stmt := inClass (top 36) 0
abbrev N_Record_called : List Str := ["self"]
theorem sc_Record_called : FnScope N_Record_called ["self"] (defScope s_Record_called) := ⟨rfl, rfl, rfl, by decide +kernel, rfl, by decide +kernel, by decide +kernel⟩
abbrev s_Choice_is_choice : Stmt := inClass (top 37) 0
abbrev N_Choice_is_choice : List Str := ["self"]
theorem sc_Choice_is_choice : FnScope N_Choice_is_choice ["self"] (defScope s_Choice_is_choice) := ⟨rfl, rfl, rfl, by decide +kernel, rfl, by decide +kernel, by decide +kernel⟩
abbrev s_Choice_called : Stmt := inClass (top 37) 1
abbrev N_Choice_called : List Str := ["self"]
theorem sc_Choice_called : FnScope N_Choice_called ["self"] (defScope s_Choice_called) := ⟨rfl, rfl, rfl, by decide +kernel, rfl, by decide +kernel, by decide +kernel⟩
abbrev s_is_row_of : Stmt := top 43
abbrev N_is_row_of : List Str := ["things", "most"]
theorem sc_is_row_of : FnScope N_is_row_of ["things", "most"] (defScope s_is_row_of) := ⟨rfl, rfl, rfl, by decide +kernel, rfl, by decide +kernel, by decide +kernel⟩
abbrev s_are_many : Stmt := top 44
abbrev N_are_many : List Str := ["form"]
theorem sc_are_many : FnScope N_are_many ["form"] (defScope s_are_many) := ⟨rfl, rfl, rfl, by decide +kernel, rfl, by decide +kernel, by decide +kernel⟩
abbrev s_are_fields : Stmt := top 45
abbrev N_are_fields : List Str := ["fields", "seen", "field"]
theorem sc_are_fields : FnScope N_are_fields ["fields"] (defScope s_are_fields) := ⟨rfl, rfl, rfl, by decide +kernel, rfl, by decide +kernel, by decide +kernel⟩
abbrev s_are_numbers : Stmt := top 46
abbrev N_are_numbers : List Str := ["form", "seen", "number", "field"]
theorem sc_are_numbers : FnScope N_are_numbers ["form"] (defScope s_are_numbers) := ⟨rfl, rfl, rfl, by decide +kernel, rfl, by decide +kernel, by decide +kernel⟩
abbrev s_is_kind : Stmt := top 47
abbrev N_is_kind : List Str := ["kind", "ahead"]
theorem sc_is_kind : FnScope N_is_kind ["kind", "ahead"] (defScope s_is_kind) := ⟨rfl, rfl, rfl, by decide +kernel, rfl, by decide +kernel, by decide +kernel⟩
abbrev s_is_blank : Stmt := top 48
abbrev N_is_blank : List Str := ["kind", "value"]
theorem sc_is_blank : FnScope N_is_blank ["kind", "value"] (defScope s_is_blank) := ⟨rfl, rfl, rfl, by decide +kernel, rfl, by decide +kernel, by decide +kernel⟩
abbrev s_is_default : Stmt := top 49
abbrev N_is_default : List Str := ["form", "field"]
theorem sc_is_default : FnScope N_is_default ["form", "field"] (defScope s_is_default) := ⟨rfl, rfl, rfl, by decide +kernel, rfl, by decide +kernel, by decide +kernel⟩
abbrev s_kind_weight : Stmt := top 50
abbrev N_kind_weight : List Str := ["kind", "ahead"]
theorem sc_kind_weight : FnScope N_kind_weight ["kind", "ahead"] (defScope s_kind_weight) := ⟨rfl, rfl, rfl, by decide +kernel, rfl, by decide +kernel, by decide +kernel⟩
abbrev s_form_weight : Stmt := top 51
abbrev N_form_weight : List Str := ["form", "ahead", "field"]
theorem sc_form_weight : FnScope N_form_weight ["form", "ahead"] (defScope s_form_weight) := ⟨rfl, rfl, rfl, by decide +kernel, rfl, by decide +kernel, by decide +kernel⟩
abbrev s_fault : Stmt := top 52
abbrev N_fault : List Str := ["form", "ahead", "field"]
theorem sc_fault : FnScope N_fault ["form", "ahead"] (defScope s_fault) := ⟨rfl, rfl, rfl, by decide +kernel, rfl, by decide +kernel, by decide +kernel⟩
abbrev s_Book_init : Stmt := inClass (top 53) 0
abbrev N_Book_init : List Str := ["self", "forms", "place", "form", "why"]
theorem sc_Book_init : FnScope N_Book_init ["self", "forms"] (defScope s_Book_init) := ⟨rfl, rfl, rfl, by decide +kernel, rfl, by decide +kernel, by decide +kernel⟩
abbrev s_Book_form_of : Stmt := inClass (top 53) 1
abbrev N_Book_form_of : List Str := ["self", "name", "form"]
theorem sc_Book_form_of : FnScope N_Book_form_of ["self", "name"] (defScope s_Book_form_of) := ⟨rfl, rfl, rfl, by decide +kernel, rfl, by decide +kernel, by decide +kernel⟩
abbrev s_Book_head : Stmt := inClass (top 53) 2
abbrev N_Book_head : List Str := ["self"]
theorem sc_Book_head : FnScope N_Book_head ["self"] (defScope s_Book_head) := ⟨rfl, rfl, rfl, by decide +kernel, rfl, by decide +kernel, by decide +kernel⟩
abbrev s_weight : Stmt := top 54
abbrev N_weight : List Str := ["book", "form"]
theorem sc_weight : FnScope N_weight ["book", "form"] (defScope s_weight) := ⟨rfl, rfl, rfl, by decide +kernel, rfl, by decide +kernel, by decide +kernel⟩
abbrev s_default_word : Stmt := top 55
abbrev N_default_word : List Str := ["field"]
theorem sc_default_word : FnScope N_default_word ["field"] (defScope s_default_word) := ⟨rfl, rfl, rfl, by decide +kernel, rfl, by decide +kernel, by decide +kernel⟩
abbrev s_field_line : Stmt := top 56
abbrev N_field_line : List Str := ["field", "words"]
theorem sc_field_line : FnScope N_field_line ["field"] (defScope s_field_line) := ⟨rfl, rfl, rfl, by decide +kernel, rfl, by decide +kernel, by decide +kernel⟩
abbrev s_book_lines : Stmt := top 57
abbrev N_book_lines : List Str := ["book", "lines", "form", "field", "number"]
theorem sc_book_lines : FnScope N_book_lines ["book"] (defScope s_book_lines) := ⟨rfl, rfl, rfl, by decide +kernel, rfl, by decide +kernel, by decide +kernel⟩
abbrev s_need : Stmt := top 58
abbrev N_need : List Str := ["good"]
theorem sc_need : FnScope N_need ["good"] (defScope s_need) := ⟨rfl, rfl, rfl, by decide +kernel, rfl, by decide +kernel, by decide +kernel⟩
abbrev s_most_in : Stmt := top 59
abbrev N_most_in : List Str := ["words"]
theorem sc_most_in : FnScope N_most_in ["words"] (defScope s_most_in) := ⟨rfl, rfl, rfl, by decide +kernel, rfl, by decide +kernel, by decide +kernel⟩
abbrev s_kind_in : Stmt := top 60
abbrev N_kind_in : List Str := ["words", "item", "rest"]
theorem sc_kind_in : FnScope N_kind_in ["words"] (defScope s_kind_in) := ⟨rfl, rfl, rfl, by decide +kernel, rfl, by decide +kernel, by decide +kernel⟩
abbrev s_default_in : Stmt := top 61
abbrev N_default_in : List Str := ["kind", "word"]
theorem sc_default_in : FnScope N_default_in ["kind", "word"] (defScope s_default_in) := ⟨rfl, rfl, rfl, by decide +kernel, rfl, by decide +kernel, by decide +kernel⟩
abbrev s_field_in : Stmt := top 62
abbrev N_field_in : List Str := ["words", "is_choice", "kind", "rest", "number"]
theorem sc_field_in : FnScope N_field_in ["words", "is_choice"] (defScope s_field_in) := ⟨rfl, rfl, rfl, by decide +kernel, rfl, by decide +kernel, by decide +kernel⟩
abbrev s_gone_in : Stmt := top 63
abbrev N_gone_in : List Str := ["words", "numbers", "word"]
theorem sc_gone_in : FnScope N_gone_in ["words"] (defScope s_gone_in) := ⟨rfl, rfl, rfl, by decide +kernel, rfl, by decide +kernel, by decide +kernel⟩
abbrev s_Draft_init : Stmt := inClass (top 64) 0
abbrev N_Draft_init : List Str := ["self", "words"]
theorem sc_Draft_init : FnScope N_Draft_init ["self", "words"] (defScope s_Draft_init) := ⟨rfl, rfl, rfl, by decide +kernel, rfl, by decide +kernel, by decide +kernel⟩
abbrev s_Draft_put_line : Stmt := inClass (top 64) 1
abbrev N_Draft_put_line : List Str := ["self", "words"]
theorem sc_Draft_put_line : FnScope N_Draft_put_line ["self", "words"] (defScope s_Draft_put_line) := ⟨rfl, rfl, rfl, by decide +kernel, rfl, by decide +kernel, by decide +kernel⟩
abbrev s_Draft_made : Stmt := inClass (top 64) 2
abbrev N_Draft_made : List Str := ["self"]
theorem sc_Draft_made : FnScope N_Draft_made ["self"] (defScope s_Draft_made) := ⟨rfl, rfl, rfl, by decide +kernel, rfl, by decide +kernel, by decide +kernel⟩
abbrev s_put_line : Stmt := top 65
abbrev N_put_line : List Str := ["drafts", "line", "words"]
theorem sc_put_line : FnScope N_put_line ["drafts", "line"] (defScope s_put_line) := ⟨rfl, rfl, rfl, by decide +kernel, rfl, by decide +kernel, by decide +kernel⟩
abbrev s_book_of : Stmt := top 66
abbrev N_book_of : List Str := ["lines", "drafts", "place", "line", "draft"]
theorem sc_book_of : FnScope N_book_of ["lines"] (defScope s_book_of) := ⟨rfl, rfl, rfl, by decide +kernel, rfl, by decide +kernel, by decide +kernel⟩
abbrev s__law_number : Stmt := top 68
abbrev N__law_number : List Str := ["_law_script", "_law_k", "_law_cell", "_law_more"]
theorem sc__law_number : FnScope N__law_number ["_law_script", "_law_k"] (defScope s__law_number) := ⟨rfl, rfl, rfl, by decide +kernel, rfl, by decide +kernel, by decide +kernel⟩
abbrev s__law_mixed : Stmt := top 69
abbrev N__law_mixed : List Str := ["_law_number_here", "_law_k"]
theorem sc__law_mixed : FnScope N__law_mixed ["_law_number_here", "_law_k"] (defScope s__law_mixed) := ⟨rfl, rfl, rfl, by decide +kernel, rfl, by decide +kernel, by decide +kernel⟩
abbrev s__law_names : Stmt := top 70
abbrev N__law_names : List Str := ["_law_number_here", "_law_many", "_law_letters", "_law_step", "_law_base", "_law_border", "_law_at", "_law_signs", "_law_j", "_law_k", "_law_sign"]
theorem sc__law_names : FnScope N__law_names ["_law_number_here", "_law_many"] (defScope s__law_names) := ⟨rfl, rfl, rfl, by decide +kernel, rfl, by decide +kernel, by decide +kernel⟩
abbrev s__law_plain : Stmt := top 71
abbrev N__law_plain : List Str := ["_law_number_here", "_law_most", "_law_signs", "_law_plain_here"]
theorem sc__law_plain : FnScope N__law_plain ["_law_number_here"] (defScope s__law_plain) := ⟨rfl, rfl, rfl, by decide +kernel, rfl, by decide +kernel, by decide +kernel⟩
abbrev s__law_kind : Stmt := top 72
abbrev N__law_kind : List Str := ["_law_number_here", "_law_ahead", "_law_kind_here"]
theorem sc__law_kind : FnScope N__law_kind ["_law_number_here", "_law_ahead"] (defScope s__law_kind) := ⟨rfl, rfl, rfl, by decide +kernel, rfl, by decide +kernel, by decide +kernel⟩
abbrev s__law_blank : Stmt := top 73
abbrev N__law_blank : List Str := ["_law_kind_here"]
theorem sc__law_blank : FnScope N__law_blank ["_law_kind_here"] (defScope s__law_blank) := ⟨rfl, rfl, rfl, by decide +kernel, rfl, by decide +kernel, by decide +kernel⟩
abbrev s__law_default : Stmt := top 74
abbrev N__law_default : List Str := ["_law_kind_here", "_law_number_here"]
theorem sc__law_default : FnScope N__law_default ["_law_kind_here", "_law_number_here"] (defScope s__law_default) := ⟨rfl, rfl, rfl, by decide +kernel, rfl, by decide +kernel, by decide +kernel⟩
abbrev s__law_field : Stmt := top 75
abbrev N__law_field : List Str := ["_law_number_here", "_law_mark", "_law_name", "_law_ahead", "_law_weights", "_law_is_choice", "_law_kind_here", "_law_must", "_law_field_here"]
theorem sc__law_field : FnScope N__law_field ["_law_number_here", "_law_mark", "_law_name", "_law_ahead", "_law_weights", "_law_is_choice"] (defScope s__law_field) := ⟨rfl, rfl, rfl, by decide +kernel, rfl, by decide +kernel, by decide +kernel⟩
abbrev s__law_load : Stmt := top 76
abbrev N__law_load : List Str := ["_law_kind_here", "_law_weights"]
theorem sc__law_load : FnScope N__law_load ["_law_kind_here", "_law_weights"] (defScope s__law_load) := ⟨rfl, rfl, rfl, by decide +kernel, rfl, by decide +kernel, by decide +kernel⟩
abbrev s__law_weight : Stmt := top 77
abbrev N__law_weight : List Str := ["_law_form", "_law_weights", "_law_field_here"]
theorem sc__law_weight : FnScope N__law_weight ["_law_form", "_law_weights"] (defScope s__law_weight) := ⟨rfl, rfl, rfl, by decide +kernel, rfl, by decide +kernel, by decide +kernel⟩
abbrev s__law_spec : Stmt := top 78
abbrev N__law_spec : List Str := ["_law_script", "_law_base", "_law_most", "_law_many", "_law_names_here", "_law_spec_here", "_law_weights", "_law_k", "_law_one", "_law_is_choice", "_law_count", "_law_marks", "_law_told", "_law_rows", "_law_j", "_law_field_here", "_law_form", "_law_mark"]
theorem sc__law_spec : FnScope N__law_spec ["_law_script", "_law_base", "_law_most"] (defScope s__law_spec) := ⟨rfl, rfl, rfl, by decide +kernel, rfl, by decide +kernel, by decide +kernel⟩
abbrev s__law_kind_made : Stmt := top 79
abbrev N__law_kind_made : List Str := ["_law_kind_here", "_law_spec_here"]
theorem sc__law_kind_made : FnScope N__law_kind_made ["_law_kind_here", "_law_spec_here"] (defScope s__law_kind_made) := ⟨rfl, rfl, rfl, by decide +kernel, rfl, by decide +kernel, by decide +kernel⟩
abbrev s__law_field_made : Stmt := top 80
abbrev N__law_field_made : List Str := ["_law_field_here", "_law_spec_here", "_law_kind_here", "_law_blank_here", "_law_made_here"]
theorem sc__law_field_made : FnScope N__law_field_made ["_law_field_here", "_law_spec_here"] (defScope s__law_field_made) := ⟨rfl, rfl, rfl, by decide +kernel, rfl, by decide +kernel, by decide +kernel⟩
abbrev s__law_form_made : Stmt := top 81
abbrev N__law_form_made : List Str := ["_law_form", "_law_spec_here", "_law_bit", "_law_fields", "_law_gone", "_law_field_here"]
theorem sc__law_form_made : FnScope N__law_form_made ["_law_form", "_law_spec_here", "_law_bit"] (defScope s__law_form_made) := ⟨rfl, rfl, rfl, by decide +kernel, rfl, by decide +kernel, by decide +kernel⟩
abbrev s__law_made : Stmt := top 82
abbrev N__law_made : List Str := ["_law_spec_here", "_law_bit", "_law_form"]
theorem sc__law_made : FnScope N__law_made ["_law_spec_here", "_law_bit"] (defScope s__law_made) := ⟨rfl, rfl, rfl, by decide +kernel, rfl, by decide +kernel, by decide +kernel⟩
abbrev s__law_words : Stmt := top 83
abbrev N__law_words : List Str := ["_law_kind_here", "_law_spec_here", "_law_part"]
theorem sc__law_words : FnScope N__law_words ["_law_kind_here", "_law_spec_here"] (defScope s__law_words) := ⟨rfl, rfl, rfl, by decide +kernel, rfl, by decide +kernel, by decide +kernel⟩
abbrev s__law_line : Stmt := top 84
abbrev N__law_line : List Str := ["_law_field_here", "_law_spec_here", "_law_told", "_law_line_here"]
theorem sc__law_line : FnScope N__law_line ["_law_field_here", "_law_spec_here"] (defScope s__law_line) := ⟨rfl, rfl, rfl, by decide +kernel, rfl, by decide +kernel, by decide +kernel⟩
abbrev s__law_lines : Stmt := top 85
abbrev N__law_lines : List Str := ["_law_spec_here", "_law_lines_here", "_law_form", "_law_field_here", "_law_number_here"]
theorem sc__law_lines : FnScope N__law_lines ["_law_spec_here"] (defScope s__law_lines) := ⟨rfl, rfl, rfl, by decide +kernel, rfl, by decide +kernel, by decide +kernel⟩
abbrev s__law_same_field : Stmt := top 86
abbrev N__law_same_field : List Str := ["_law_field_here", "_law_due", "_law_spec_here", "_law_told"]
theorem sc__law_same_field : FnScope N__law_same_field ["_law_field_here", "_law_due", "_law_spec_here"] (defScope s__law_same_field) := ⟨rfl, rfl, rfl, by decide +kernel, rfl, by decide +kernel, by decide +kernel⟩
abbrev s__law_same_form : Stmt := top 87
abbrev N__law_same_form : List Str := ["_law_form", "_law_due", "_law_spec_here", "_law_field_here", "_law_other", "_law_marks", "_law_others", "_law_k", "_law_name"]
theorem sc__law_same_form : FnScope N__law_same_form ["_law_form", "_law_due", "_law_spec_here"] (defScope s__law_same_form) := ⟨rfl, rfl, rfl, by decide +kernel, rfl, by decide +kernel, by decide +kernel⟩
abbrev s__law_same : Stmt := top 88
abbrev N__law_same : List Str := ["_law_book", "_law_spec_here", "_law_weights", "_law_form", "_law_due", "_law_thing"]
theorem sc__law_same : FnScope N__law_same ["_law_book", "_law_spec_here"] (defScope s__law_same) := ⟨rfl, rfl, rfl, by decide +kernel, rfl, by decide +kernel, by decide +kernel⟩
abbrev s_law : Stmt := top 89
abbrev N_law : List Str := ["_law_script", "_law_spec_here", "_law_bit", "_law_handed", "_law_book", "_law_due", "_law_lines_here", "_law_again", "_law_told", "_law_form"]
theorem sc_law : FnScope N_law ["_law_script"] (defScope s_law) := ⟨rfl, rfl, rfl, by decide +kernel, rfl, by decide +kernel, by decide +kernel⟩
/-! ### facts of the written part -/
def fa_0 : List He.Fa := [.free "ValueError",
  .free "all",
  .free "bool",
  .free "enumerate",
  .free "int",
  .free "isinstance",
  .free "len",
  .free "list",
  .free "max",
  .free "min",
  .free "ord",
  .free "range",
  .free "sorted",
  .free "str",
  .free "sum",
  .free "tuple",
  .free "zip",
  .str "LETTERS" "abcdefghijklmnopqrstuvwxyz",
  .str "FIGURES" "0123456789",
  .int "MOST_LETTERS" 12,
  .int "MOST_FIGURES" 80,
  .int "MOST_NUMBER" 115792089237316195423570985008687907853269984665640564039457584007913129639935,
  .int "MOST_SIGNS" 100,
  .int "MOST_THINGS" 20,
  .int "NO_SIGN" 37,
  .int "MOST_FORMS" 8,
  .int "MOST_FIELDS" 10,
  .int "MOST_MARK" 200,
  .int "MOST_WEIGHT" 100,
  .glo "_wall"]
def fa_1 : List He.Fa := [.glo "is_whole",
  .glo "is_among",
  .glo "are_signs",
  .glo "is_name",
  .glo "number_text",
  .glo "number_of",
  .glo "words_of",
  .glo "is_sign",
  .glo "by_numbers",
  .glo "rising",
  .glo "is_row_of",
  .glo "are_many",
  .glo "are_fields",
  .glo "are_numbers",
  .glo "is_kind",
  .glo "is_blank",
  .glo "is_default",
  .glo "kind_weight",
  .glo "form_weight",
  .glo "fault",
  .glo "weight",
  .glo "default_word",
  .glo "field_line",
  .glo "book_lines",
  .glo "need",
  .glo "most_in",
  .glo "kind_in",
  .glo "default_in",
  .glo "field_in",
  .glo "gone_in"]
def fa_2 : List He.Fa := [.glo "put_line",
  .glo "book_of",
  .glo "_law_number",
  .glo "_law_mixed",
  .glo "_law_names",
  .glo "_law_plain",
  .glo "_law_kind",
  .glo "_law_blank",
  .glo "_law_default",
  .glo "_law_field",
  .glo "_law_load",
  .glo "_law_weight",
  .glo "_law_spec",
  .glo "_law_kind_made",
  .glo "_law_field_made",
  .glo "_law_form_made",
  .glo "_law_made",
  .glo "_law_words",
  .glo "_law_line",
  .glo "_law_lines",
  .glo "_law_same_field",
  .glo "_law_same_form",
  .glo "_law_same",
  .glo "law",
  .glo "FormError",
  .glo "BadBook",
  .glo "BadText",
  .glo "Kind",
  .glo "Truth",
  .glo "Count"]
def fa_3 : List He.Fa := [.glo "Whole",
  .glo "Upto",
  .glo "Text",
  .glo "List",
  .glo "Nested",
  .glo "Field",
  .glo "Form",
  .glo "Record",
  .glo "Choice",
  .glo "Book",
  .glo "Draft"]
abbrev fa : List He.Fa := fa_0 ++ fa_1 ++ fa_2 ++ fa_3
def fn_0 : List He.DefD := [⟨("_wall", none), "_wall", "_wall", defArgs s__wall, defBody s__wall, defScope s__wall, [], []⟩,
  ⟨("BadBook", some "__init__"), "__init__", "BadBook.__init__", defArgs s_BadBook_init, defBody s_BadBook_init, defScope s_BadBook_init, [], []⟩,
  ⟨("BadText", some "__init__"), "__init__", "BadText.__init__", defArgs s_BadText_init, defBody s_BadText_init, defScope s_BadText_init, [], []⟩,
  ⟨("is_whole", none), "is_whole", "is_whole", defArgs s_is_whole, defBody s_is_whole, defScope s_is_whole, [], []⟩,
  ⟨("is_among", none), "is_among", "is_among", defArgs s_is_among, defBody s_is_among, defScope s_is_among, [], []⟩,
  ⟨("are_signs", none), "are_signs", "are_signs", defArgs s_are_signs, defBody s_are_signs, defScope s_are_signs, [], []⟩,
  ⟨("is_name", none), "is_name", "is_name", defArgs s_is_name, defBody s_is_name, defScope s_is_name, [], []⟩,
  ⟨("number_text", none), "number_text", "number_text", defArgs s_number_text, defBody s_number_text, defScope s_number_text, [], []⟩,
  ⟨("number_of", none), "number_of", "number_of", defArgs s_number_of, defBody s_number_of, defScope s_number_of, [], []⟩,
  ⟨("words_of", none), "words_of", "words_of", defArgs s_words_of, defBody s_words_of, defScope s_words_of, [], []⟩,
  ⟨("is_sign", none), "is_sign", "is_sign", defArgs s_is_sign, defBody s_is_sign, defScope s_is_sign, [], []⟩,
  ⟨("Kind", some "word"), "word", "Kind.word", defArgs s_Kind_word, defBody s_Kind_word, defScope s_Kind_word, [], []⟩,
  ⟨("Kind", some "words"), "words", "Kind.words", defArgs s_Kind_words, defBody s_Kind_words, defScope s_Kind_words, [], []⟩,
  ⟨("Kind", some "is_plain"), "is_plain", "Kind.is_plain", defArgs s_Kind_is_plain, defBody s_Kind_is_plain, defScope s_Kind_is_plain, [], []⟩,
  ⟨("Kind", some "suits"), "suits", "Kind.suits", defArgs s_Kind_suits, defBody s_Kind_suits, defScope s_Kind_suits, [], []⟩,
  ⟨("Kind", some "blank"), "blank", "Kind.blank", defArgs s_Kind_blank, defBody s_Kind_blank, defScope s_Kind_blank, [], []⟩,
  ⟨("Truth", some "word"), "word", "Truth.word", defArgs s_Truth_word, defBody s_Truth_word, defScope s_Truth_word, [], []⟩,
  ⟨("Truth", some "suits"), "suits", "Truth.suits", defArgs s_Truth_suits, defBody s_Truth_suits, defScope s_Truth_suits, [], []⟩,
  ⟨("Truth", some "blank"), "blank", "Truth.blank", defArgs s_Truth_blank, defBody s_Truth_blank, defScope s_Truth_blank, [], []⟩,
  ⟨("Count", some "word"), "word", "Count.word", defArgs s_Count_word, defBody s_Count_word, defScope s_Count_word, [], []⟩,
  ⟨("Count", some "suits"), "suits", "Count.suits", defArgs s_Count_suits, defBody s_Count_suits, defScope s_Count_suits, [], []⟩,
  ⟨("Whole", some "word"), "word", "Whole.word", defArgs s_Whole_word, defBody s_Whole_word, defScope s_Whole_word, [], []⟩,
  ⟨("Whole", some "suits"), "suits", "Whole.suits", defArgs s_Whole_suits, defBody s_Whole_suits, defScope s_Whole_suits, [], []⟩,
  ⟨("Upto", some "__init__"), "__init__", "Upto.__init__", defArgs s_Upto_init, defBody s_Upto_init, defScope s_Upto_init, [], []⟩,
  ⟨("Upto", some "word"), "word", "Upto.word", defArgs s_Upto_word, defBody s_Upto_word, defScope s_Upto_word, [], []⟩,
  ⟨("Upto", some "words"), "words", "Upto.words", defArgs s_Upto_words, defBody s_Upto_words, defScope s_Upto_words, [], []⟩,
  ⟨("Upto", some "suits"), "suits", "Upto.suits", defArgs s_Upto_suits, defBody s_Upto_suits, defScope s_Upto_suits, [], []⟩,
  ⟨("Text", some "__init__"), "__init__", "Text.__init__", defArgs s_Text_init, defBody s_Text_init, defScope s_Text_init, [.int (100)], []⟩,
  ⟨("Text", some "word"), "word", "Text.word", defArgs s_Text_word, defBody s_Text_word, defScope s_Text_word, [], []⟩,
  ⟨("Text", some "words"), "words", "Text.words", defArgs s_Text_words, defBody s_Text_words, defScope s_Text_words, [], []⟩]
def fn_1 : List He.DefD := [⟨("Text", some "suits"), "suits", "Text.suits", defArgs s_Text_suits, defBody s_Text_suits, defScope s_Text_suits, [], []⟩,
  ⟨("Text", some "blank"), "blank", "Text.blank", defArgs s_Text_blank, defBody s_Text_blank, defScope s_Text_blank, [], []⟩,
  ⟨("List", some "__init__"), "__init__", "List.__init__", defArgs s_List_init, defBody s_List_init, defScope s_List_init, [], []⟩,
  ⟨("List", some "word"), "word", "List.word", defArgs s_List_word, defBody s_List_word, defScope s_List_word, [], []⟩,
  ⟨("List", some "words"), "words", "List.words", defArgs s_List_words, defBody s_List_words, defScope s_List_words, [], []⟩,
  ⟨("List", some "is_plain"), "is_plain", "List.is_plain", defArgs s_List_is_plain, defBody s_List_is_plain, defScope s_List_is_plain, [], []⟩,
  ⟨("List", some "suits"), "suits", "List.suits", defArgs s_List_suits, defBody s_List_suits, defScope s_List_suits, [], []⟩,
  ⟨("List", some "blank"), "blank", "List.blank", defArgs s_List_blank, defBody s_List_blank, defScope s_List_blank, [], []⟩,
  ⟨("Nested", some "__init__"), "__init__", "Nested.__init__", defArgs s_Nested_init, defBody s_Nested_init, defScope s_Nested_init, [], []⟩,
  ⟨("Nested", some "word"), "word", "Nested.word", defArgs s_Nested_word, defBody s_Nested_word, defScope s_Nested_word, [], []⟩,
  ⟨("Nested", some "words"), "words", "Nested.words", defArgs s_Nested_words, defBody s_Nested_words, defScope s_Nested_words, [], []⟩,
  ⟨("Nested", some "is_plain"), "is_plain", "Nested.is_plain", defArgs s_Nested_is_plain, defBody s_Nested_is_plain, defScope s_Nested_is_plain, [], []⟩,
  ⟨("Nested", some "suits"), "suits", "Nested.suits", defArgs s_Nested_suits, defBody s_Nested_suits, defScope s_Nested_suits, [], []⟩,
  ⟨("Nested", some "blank"), "blank", "Nested.blank", defArgs s_Nested_blank, defBody s_Nested_blank, defScope s_Nested_blank, [], []⟩,
  ⟨("Field", some "__init__"), "__init__", "Field.__init__", defArgs s_Field_init, defBody s_Field_init, defScope s_Field_init, [.bl false, .non], []⟩,
  ⟨("by_numbers", none), "by_numbers", "by_numbers", defArgs s_by_numbers, defBody s_by_numbers, defScope s_by_numbers, [], []⟩,
  ⟨("rising", none), "rising", "rising", defArgs s_rising, defBody s_rising, defScope s_rising, [], []⟩,
  ⟨("Form", some "__init__"), "__init__", "Form.__init__", defArgs s_Form_init, defBody s_Form_init, defScope s_Form_init, [.non], []⟩,
  ⟨("Form", some "is_choice"), "is_choice", "Form.is_choice", defArgs s_Form_is_choice, defBody s_Form_is_choice, defScope s_Form_is_choice, [], []⟩,
  ⟨("Form", some "called"), "called", "Form.called", defArgs s_Form_called, defBody s_Form_called, defScope s_Form_called, [], []⟩,
  ⟨("Form", some "field_at"), "field_at", "Form.field_at", defArgs s_Form_field_at, defBody s_Form_field_at, defScope s_Form_field_at, [], []⟩,
  ⟨("Form", some "field_of"), "field_of", "Form.field_of", defArgs s_Form_field_of, defBody s_Form_field_of, defScope s_Form_field_of, [], []⟩,
  ⟨("Record", some "called"), "called", "Record.called", defArgs s_Record_called, defBody s_Record_called, defScope s_Record_called, [], []⟩,
  ⟨("Choice", some "is_choice"), "is_choice", "Choice.is_choice", defArgs s_Choice_is_choice, defBody s_Choice_is_choice, defScope s_Choice_is_choice, [], []⟩,
  ⟨("Choice", some "called"), "called", "Choice.called", defArgs s_Choice_called, defBody s_Choice_called, defScope s_Choice_called, [], []⟩,
  ⟨("is_row_of", none), "is_row_of", "is_row_of", defArgs s_is_row_of, defBody s_is_row_of, defScope s_is_row_of, [], []⟩,
  ⟨("are_many", none), "are_many", "are_many", defArgs s_are_many, defBody s_are_many, defScope s_are_many, [], []⟩,
  ⟨("are_fields", none), "are_fields", "are_fields", defArgs s_are_fields, defBody s_are_fields, defScope s_are_fields, [], []⟩,
  ⟨("are_numbers", none), "are_numbers", "are_numbers", defArgs s_are_numbers, defBody s_are_numbers, defScope s_are_numbers, [], []⟩,
  ⟨("is_kind", none), "is_kind", "is_kind", defArgs s_is_kind, defBody s_is_kind, defScope s_is_kind, [], []⟩]
def fn_2 : List He.DefD := [⟨("is_blank", none), "is_blank", "is_blank", defArgs s_is_blank, defBody s_is_blank, defScope s_is_blank, [], []⟩,
  ⟨("is_default", none), "is_default", "is_default", defArgs s_is_default, defBody s_is_default, defScope s_is_default, [], []⟩,
  ⟨("kind_weight", none), "kind_weight", "kind_weight", defArgs s_kind_weight, defBody s_kind_weight, defScope s_kind_weight, [], []⟩,
  ⟨("form_weight", none), "form_weight", "form_weight", defArgs s_form_weight, defBody s_form_weight, defScope s_form_weight, [], []⟩,
  ⟨("fault", none), "fault", "fault", defArgs s_fault, defBody s_fault, defScope s_fault, [], []⟩,
  ⟨("Book", some "__init__"), "__init__", "Book.__init__", defArgs s_Book_init, defBody s_Book_init, defScope s_Book_init, [], []⟩,
  ⟨("Book", some "form_of"), "form_of", "Book.form_of", defArgs s_Book_form_of, defBody s_Book_form_of, defScope s_Book_form_of, [], []⟩,
  ⟨("Book", some "head"), "head", "Book.head", defArgs s_Book_head, defBody s_Book_head, defScope s_Book_head, [], []⟩,
  ⟨("weight", none), "weight", "weight", defArgs s_weight, defBody s_weight, defScope s_weight, [], []⟩,
  ⟨("default_word", none), "default_word", "default_word", defArgs s_default_word, defBody s_default_word, defScope s_default_word, [], []⟩,
  ⟨("field_line", none), "field_line", "field_line", defArgs s_field_line, defBody s_field_line, defScope s_field_line, [], []⟩,
  ⟨("book_lines", none), "book_lines", "book_lines", defArgs s_book_lines, defBody s_book_lines, defScope s_book_lines, [], []⟩,
  ⟨("need", none), "need", "need", defArgs s_need, defBody s_need, defScope s_need, [], []⟩,
  ⟨("most_in", none), "most_in", "most_in", defArgs s_most_in, defBody s_most_in, defScope s_most_in, [], []⟩,
  ⟨("kind_in", none), "kind_in", "kind_in", defArgs s_kind_in, defBody s_kind_in, defScope s_kind_in, [], []⟩,
  ⟨("default_in", none), "default_in", "default_in", defArgs s_default_in, defBody s_default_in, defScope s_default_in, [], []⟩,
  ⟨("field_in", none), "field_in", "field_in", defArgs s_field_in, defBody s_field_in, defScope s_field_in, [], []⟩,
  ⟨("gone_in", none), "gone_in", "gone_in", defArgs s_gone_in, defBody s_gone_in, defScope s_gone_in, [], []⟩,
  ⟨("Draft", some "__init__"), "__init__", "Draft.__init__", defArgs s_Draft_init, defBody s_Draft_init, defScope s_Draft_init, [], []⟩,
  ⟨("Draft", some "put_line"), "put_line", "Draft.put_line", defArgs s_Draft_put_line, defBody s_Draft_put_line, defScope s_Draft_put_line, [], []⟩,
  ⟨("Draft", some "made"), "made", "Draft.made", defArgs s_Draft_made, defBody s_Draft_made, defScope s_Draft_made, [], []⟩,
  ⟨("put_line", none), "put_line", "put_line", defArgs s_put_line, defBody s_put_line, defScope s_put_line, [], []⟩,
  ⟨("book_of", none), "book_of", "book_of", defArgs s_book_of, defBody s_book_of, defScope s_book_of, [], []⟩,
  ⟨("_law_number", none), "_law_number", "_law_number", defArgs s__law_number, defBody s__law_number, defScope s__law_number, [], []⟩,
  ⟨("_law_mixed", none), "_law_mixed", "_law_mixed", defArgs s__law_mixed, defBody s__law_mixed, defScope s__law_mixed, [], []⟩,
  ⟨("_law_names", none), "_law_names", "_law_names", defArgs s__law_names, defBody s__law_names, defScope s__law_names, [], []⟩,
  ⟨("_law_plain", none), "_law_plain", "_law_plain", defArgs s__law_plain, defBody s__law_plain, defScope s__law_plain, [], []⟩,
  ⟨("_law_kind", none), "_law_kind", "_law_kind", defArgs s__law_kind, defBody s__law_kind, defScope s__law_kind, [], []⟩,
  ⟨("_law_blank", none), "_law_blank", "_law_blank", defArgs s__law_blank, defBody s__law_blank, defScope s__law_blank, [], []⟩,
  ⟨("_law_default", none), "_law_default", "_law_default", defArgs s__law_default, defBody s__law_default, defScope s__law_default, [], []⟩]
def fn_3 : List He.DefD := [⟨("_law_field", none), "_law_field", "_law_field", defArgs s__law_field, defBody s__law_field, defScope s__law_field, [], []⟩,
  ⟨("_law_load", none), "_law_load", "_law_load", defArgs s__law_load, defBody s__law_load, defScope s__law_load, [], []⟩,
  ⟨("_law_weight", none), "_law_weight", "_law_weight", defArgs s__law_weight, defBody s__law_weight, defScope s__law_weight, [], []⟩,
  ⟨("_law_spec", none), "_law_spec", "_law_spec", defArgs s__law_spec, defBody s__law_spec, defScope s__law_spec, [], []⟩,
  ⟨("_law_kind_made", none), "_law_kind_made", "_law_kind_made", defArgs s__law_kind_made, defBody s__law_kind_made, defScope s__law_kind_made, [], []⟩,
  ⟨("_law_field_made", none), "_law_field_made", "_law_field_made", defArgs s__law_field_made, defBody s__law_field_made, defScope s__law_field_made, [], []⟩,
  ⟨("_law_form_made", none), "_law_form_made", "_law_form_made", defArgs s__law_form_made, defBody s__law_form_made, defScope s__law_form_made, [], []⟩,
  ⟨("_law_made", none), "_law_made", "_law_made", defArgs s__law_made, defBody s__law_made, defScope s__law_made, [], []⟩,
  ⟨("_law_words", none), "_law_words", "_law_words", defArgs s__law_words, defBody s__law_words, defScope s__law_words, [], []⟩,
  ⟨("_law_line", none), "_law_line", "_law_line", defArgs s__law_line, defBody s__law_line, defScope s__law_line, [], []⟩,
  ⟨("_law_lines", none), "_law_lines", "_law_lines", defArgs s__law_lines, defBody s__law_lines, defScope s__law_lines, [], []⟩,
  ⟨("_law_same_field", none), "_law_same_field", "_law_same_field", defArgs s__law_same_field, defBody s__law_same_field, defScope s__law_same_field, [], []⟩,
  ⟨("_law_same_form", none), "_law_same_form", "_law_same_form", defArgs s__law_same_form, defBody s__law_same_form, defScope s__law_same_form, [], []⟩,
  ⟨("_law_same", none), "_law_same", "_law_same", defArgs s__law_same, defBody s__law_same, defScope s__law_same, [], []⟩,
  ⟨("law", none), "law", "law", defArgs s_law, defBody s_law, defScope s_law, [], []⟩]
abbrev fn : List He.DefD := fn_0 ++ fn_1 ++ fn_2 ++ fn_3
def fz_0 : List Fz := [.ins "Truth",
  .mk0 "Truth",
  .fnd "Truth" "word" ("Truth", some "word"),
  .fnd "Truth" "suits" ("Truth", some "suits"),
  .fnd "Truth" "blank" ("Truth", some "blank"),
  .fnd "Truth" "words" ("Kind", some "words"),
  .fnd "Truth" "is_plain" ("Kind", some "is_plain"),
  .kit "Truth" "Kind" true,
  .kit "Truth" "Truth" true,
  .kit "Truth" "Count" false,
  .kit "Truth" "Whole" false,
  .kit "Truth" "Upto" false,
  .kit "Truth" "Text" false,
  .kit "Truth" "List" false,
  .kit "Truth" "Nested" false,
  .ins "Count",
  .mk0 "Count",
  .fnd "Count" "word" ("Count", some "word"),
  .fnd "Count" "suits" ("Count", some "suits"),
  .fnd "Count" "words" ("Kind", some "words"),
  .fnd "Count" "is_plain" ("Kind", some "is_plain"),
  .fnd "Count" "blank" ("Kind", some "blank"),
  .kit "Count" "Kind" true,
  .kit "Count" "Truth" false,
  .kit "Count" "Count" true,
  .kit "Count" "Whole" false,
  .kit "Count" "Upto" false,
  .kit "Count" "Text" false,
  .kit "Count" "List" false,
  .kit "Count" "Nested" false]
def fz_1 : List Fz := [.ins "Whole",
  .mk0 "Whole",
  .fnd "Whole" "word" ("Whole", some "word"),
  .fnd "Whole" "suits" ("Whole", some "suits"),
  .fnd "Whole" "words" ("Kind", some "words"),
  .fnd "Whole" "is_plain" ("Kind", some "is_plain"),
  .fnd "Whole" "blank" ("Kind", some "blank"),
  .kit "Whole" "Kind" true,
  .kit "Whole" "Truth" false,
  .kit "Whole" "Count" false,
  .kit "Whole" "Whole" true,
  .kit "Whole" "Upto" false,
  .kit "Whole" "Text" false,
  .kit "Whole" "List" false,
  .kit "Whole" "Nested" false,
  .ins "Upto",
  .mk "Upto" ("Upto", some "__init__"),
  .fnd "Upto" "word" ("Upto", some "word"),
  .fnd "Upto" "words" ("Upto", some "words"),
  .fnd "Upto" "suits" ("Upto", some "suits"),
  .fnd "Upto" "is_plain" ("Kind", some "is_plain"),
  .fnd "Upto" "blank" ("Kind", some "blank"),
  .noa "Upto" "most",
  .kit "Upto" "Kind" true,
  .kit "Upto" "Truth" false,
  .kit "Upto" "Count" false,
  .kit "Upto" "Whole" false,
  .kit "Upto" "Upto" true,
  .kit "Upto" "Text" false,
  .kit "Upto" "List" false]
def fz_2 : List Fz := [.kit "Upto" "Nested" false,
  .ins "Text",
  .mk "Text" ("Text", some "__init__"),
  .fnd "Text" "word" ("Text", some "word"),
  .fnd "Text" "words" ("Text", some "words"),
  .fnd "Text" "suits" ("Text", some "suits"),
  .fnd "Text" "blank" ("Text", some "blank"),
  .fnd "Text" "is_plain" ("Kind", some "is_plain"),
  .noa "Text" "most",
  .kit "Text" "Kind" true,
  .kit "Text" "Truth" false,
  .kit "Text" "Count" false,
  .kit "Text" "Whole" false,
  .kit "Text" "Upto" false,
  .kit "Text" "Text" true,
  .kit "Text" "List" false,
  .kit "Text" "Nested" false,
  .ins "List",
  .mk "List" ("List", some "__init__"),
  .fnd "List" "word" ("List", some "word"),
  .fnd "List" "words" ("List", some "words"),
  .fnd "List" "is_plain" ("List", some "is_plain"),
  .fnd "List" "suits" ("List", some "suits"),
  .fnd "List" "blank" ("List", some "blank"),
  .noa "List" "item",
  .kit "List" "Kind" true,
  .kit "List" "Truth" false,
  .kit "List" "Count" false,
  .kit "List" "Whole" false,
  .kit "List" "Upto" false]
def fz_3 : List Fz := [.kit "List" "Text" false,
  .kit "List" "List" true,
  .kit "List" "Nested" false,
  .ins "Nested",
  .mk "Nested" ("Nested", some "__init__"),
  .fnd "Nested" "word" ("Nested", some "word"),
  .fnd "Nested" "words" ("Nested", some "words"),
  .fnd "Nested" "is_plain" ("Nested", some "is_plain"),
  .fnd "Nested" "suits" ("Nested", some "suits"),
  .fnd "Nested" "blank" ("Nested", some "blank"),
  .noa "Nested" "name",
  .kit "Nested" "Kind" true,
  .kit "Nested" "Truth" false,
  .kit "Nested" "Count" false,
  .kit "Nested" "Whole" false,
  .kit "Nested" "Upto" false,
  .kit "Nested" "Text" false,
  .kit "Nested" "List" false,
  .kit "Nested" "Nested" true,
  .ins "Field",
  .mk "Field" ("Field", some "__init__"),
  .noa "Field" "number",
  .noa "Field" "name",
  .noa "Field" "kind",
  .noa "Field" "must",
  .noa "Field" "default",
  .kit "Field" "Field" true,
  .ins "Record",
  .mk "Record" ("Form", some "__init__"),
  .fnd "Record" "called" ("Record", some "called")]
def fz_4 : List Fz := [.fnd "Record" "is_choice" ("Form", some "is_choice"),
  .fnd "Record" "field_at" ("Form", some "field_at"),
  .fnd "Record" "field_of" ("Form", some "field_of"),
  .noa "Record" "name",
  .noa "Record" "fields",
  .noa "Record" "gone",
  .kit "Record" "Record" true,
  .kit "Record" "Choice" false,
  .ins "Choice",
  .mk "Choice" ("Form", some "__init__"),
  .fnd "Choice" "is_choice" ("Choice", some "is_choice"),
  .fnd "Choice" "called" ("Choice", some "called"),
  .fnd "Choice" "field_at" ("Form", some "field_at"),
  .fnd "Choice" "field_of" ("Form", some "field_of"),
  .noa "Choice" "name",
  .noa "Choice" "fields",
  .noa "Choice" "gone",
  .kit "Choice" "Record" false,
  .kit "Choice" "Choice" true,
  .ins "Book",
  .mk "Book" ("Book", some "__init__"),
  .fnd "Book" "form_of" ("Book", some "form_of"),
  .fnd "Book" "head" ("Book", some "head"),
  .noa "Book" "forms",
  .noa "Book" "weights",
  .ins "Draft",
  .mk "Draft" ("Draft", some "__init__"),
  .fnd "Draft" "put_line" ("Draft", some "put_line"),
  .fnd "Draft" "made" ("Draft", some "made"),
  .noa "Draft" "name"]
def fz_5 : List Fz := [.noa "Draft" "is_one",
  .noa "Draft" "fields",
  .noa "Draft" "gone"]
abbrev fz : List Fz := fz_0 ++ fz_1 ++ fz_2 ++ fz_3 ++ fz_4 ++ fz_5
abbrev exB (K : PySem.W.Frag) : Bool := fz.all fun f => f.ok K
abbrev tf : List He.Defn := [("by_numbers", none)]
structure Txt (K : PySem.W.Frag) (mg : Str → Option Value) : Prop where
  n_ValueError : mg "ValueError" = none
  n_all : mg "all" = none
  n_bool : mg "bool" = none
  n_enumerate : mg "enumerate" = none
  n_int : mg "int" = none
  n_isinstance : mg "isinstance" = none
  n_len : mg "len" = none
  n_list : mg "list" = none
  n_max : mg "max" = none
  n_min : mg "min" = none
  n_ord : mg "ord" = none
  n_range : mg "range" = none
  n_sorted : mg "sorted" = none
  n_str : mg "str" = none
  n_sum : mg "sum" = none
  n_tuple : mg "tuple" = none
  n_zip : mg "zip" = none
  g_LETTERS : ∃ u, mg "LETTERS" = some u ∧ RelV (.str "abcdefghijklmnopqrstuvwxyz") u
  g_FIGURES : ∃ u, mg "FIGURES" = some u ∧ RelV (.str "0123456789") u
  g_MOST_LETTERS : ∃ u, mg "MOST_LETTERS" = some u ∧ RelV (.int 12) u
  g_MOST_FIGURES : ∃ u, mg "MOST_FIGURES" = some u ∧ RelV (.int 80) u
  g_MOST_NUMBER : ∃ u, mg "MOST_NUMBER" = some u ∧ RelV (.int 115792089237316195423570985008687907853269984665640564039457584007913129639935) u
  g_MOST_SIGNS : ∃ u, mg "MOST_SIGNS" = some u ∧ RelV (.int 100) u
  g_MOST_THINGS : ∃ u, mg "MOST_THINGS" = some u ∧ RelV (.int 20) u
  g_NO_SIGN : ∃ u, mg "NO_SIGN" = some u ∧ RelV (.int 37) u
  g_MOST_FORMS : ∃ u, mg "MOST_FORMS" = some u ∧ RelV (.int 8) u
  g_MOST_FIELDS : ∃ u, mg "MOST_FIELDS" = some u ∧ RelV (.int 10) u
  g_MOST_MARK : ∃ u, mg "MOST_MARK" = some u ∧ RelV (.int 200) u
  g_MOST_WEIGHT : ∃ u, mg "MOST_WEIGHT" = some u ∧ RelV (.int 100) u
  f__wall : ∃ fd, FunD K "_wall" "_wall" (defArgs s__wall) (defBody s__wall) (defScope s__wall) [] [] (He.fAd K ("_wall", none)) fd
  m__wall : mg "_wall" = some (.ref (He.fAd K ("_wall", none)))
  f_BadBook_init : ∃ fd, FunD K "__init__" "BadBook.__init__" (defArgs s_BadBook_init) (defBody s_BadBook_init) (defScope s_BadBook_init) [] [] (He.fAd K ("BadBook", some "__init__")) fd
  f_BadText_init : ∃ fd, FunD K "__init__" "BadText.__init__" (defArgs s_BadText_init) (defBody s_BadText_init) (defScope s_BadText_init) [] [] (He.fAd K ("BadText", some "__init__")) fd
  f_is_whole : ∃ fd, FunD K "is_whole" "is_whole" (defArgs s_is_whole) (defBody s_is_whole) (defScope s_is_whole) [] [] (He.fAd K ("is_whole", none)) fd
  m_is_whole : mg "is_whole" = some (.ref (He.fAd K ("is_whole", none)))
  f_is_among : ∃ fd, FunD K "is_among" "is_among" (defArgs s_is_among) (defBody s_is_among) (defScope s_is_among) [] [] (He.fAd K ("is_among", none)) fd
  m_is_among : mg "is_among" = some (.ref (He.fAd K ("is_among", none)))
  f_are_signs : ∃ fd, FunD K "are_signs" "are_signs" (defArgs s_are_signs) (defBody s_are_signs) (defScope s_are_signs) [] [] (He.fAd K ("are_signs", none)) fd
  m_are_signs : mg "are_signs" = some (.ref (He.fAd K ("are_signs", none)))
  f_is_name : ∃ fd, FunD K "is_name" "is_name" (defArgs s_is_name) (defBody s_is_name) (defScope s_is_name) [] [] (He.fAd K ("is_name", none)) fd
  m_is_name : mg "is_name" = some (.ref (He.fAd K ("is_name", none)))
  f_number_text : ∃ fd, FunD K "number_text" "number_text" (defArgs s_number_text) (defBody s_number_text) (defScope s_number_text) [] [] (He.fAd K ("number_text", none)) fd
  m_number_text : mg "number_text" = some (.ref (He.fAd K ("number_text", none)))
  f_number_of : ∃ fd, FunD K "number_of" "number_of" (defArgs s_number_of) (defBody s_number_of) (defScope s_number_of) [] [] (He.fAd K ("number_of", none)) fd
  m_number_of : mg "number_of" = some (.ref (He.fAd K ("number_of", none)))
  f_words_of : ∃ fd, FunD K "words_of" "words_of" (defArgs s_words_of) (defBody s_words_of) (defScope s_words_of) [] [] (He.fAd K ("words_of", none)) fd
  m_words_of : mg "words_of" = some (.ref (He.fAd K ("words_of", none)))
  f_is_sign : ∃ fd, FunD K "is_sign" "is_sign" (defArgs s_is_sign) (defBody s_is_sign) (defScope s_is_sign) [] [] (He.fAd K ("is_sign", none)) fd
  m_is_sign : mg "is_sign" = some (.ref (He.fAd K ("is_sign", none)))
  f_Kind_word : ∃ fd, FunD K "word" "Kind.word" (defArgs s_Kind_word) (defBody s_Kind_word) (defScope s_Kind_word) [] [] (He.fAd K ("Kind", some "word")) fd
  f_Kind_words : ∃ fd, FunD K "words" "Kind.words" (defArgs s_Kind_words) (defBody s_Kind_words) (defScope s_Kind_words) [] [] (He.fAd K ("Kind", some "words")) fd
  f_Kind_is_plain : ∃ fd, FunD K "is_plain" "Kind.is_plain" (defArgs s_Kind_is_plain) (defBody s_Kind_is_plain) (defScope s_Kind_is_plain) [] [] (He.fAd K ("Kind", some "is_plain")) fd
  f_Kind_suits : ∃ fd, FunD K "suits" "Kind.suits" (defArgs s_Kind_suits) (defBody s_Kind_suits) (defScope s_Kind_suits) [] [] (He.fAd K ("Kind", some "suits")) fd
  f_Kind_blank : ∃ fd, FunD K "blank" "Kind.blank" (defArgs s_Kind_blank) (defBody s_Kind_blank) (defScope s_Kind_blank) [] [] (He.fAd K ("Kind", some "blank")) fd
  f_Truth_word : ∃ fd, FunD K "word" "Truth.word" (defArgs s_Truth_word) (defBody s_Truth_word) (defScope s_Truth_word) [] [] (He.fAd K ("Truth", some "word")) fd
  f_Truth_suits : ∃ fd, FunD K "suits" "Truth.suits" (defArgs s_Truth_suits) (defBody s_Truth_suits) (defScope s_Truth_suits) [] [] (He.fAd K ("Truth", some "suits")) fd
  f_Truth_blank : ∃ fd, FunD K "blank" "Truth.blank" (defArgs s_Truth_blank) (defBody s_Truth_blank) (defScope s_Truth_blank) [] [] (He.fAd K ("Truth", some "blank")) fd
  f_Count_word : ∃ fd, FunD K "word" "Count.word" (defArgs s_Count_word) (defBody s_Count_word) (defScope s_Count_word) [] [] (He.fAd K ("Count", some "word")) fd
  f_Count_suits : ∃ fd, FunD K "suits" "Count.suits" (defArgs s_Count_suits) (defBody s_Count_suits) (defScope s_Count_suits) [] [] (He.fAd K ("Count", some "suits")) fd
  f_Whole_word : ∃ fd, FunD K "word" "Whole.word" (defArgs s_Whole_word) (defBody s_Whole_word) (defScope s_Whole_word) [] [] (He.fAd K ("Whole", some "word")) fd
  f_Whole_suits : ∃ fd, FunD K "suits" "Whole.suits" (defArgs s_Whole_suits) (defBody s_Whole_suits) (defScope s_Whole_suits) [] [] (He.fAd K ("Whole", some "suits")) fd
  f_Upto_init : ∃ fd, FunD K "__init__" "Upto.__init__" (defArgs s_Upto_init) (defBody s_Upto_init) (defScope s_Upto_init) [] [] (He.fAd K ("Upto", some "__init__")) fd
  f_Upto_word : ∃ fd, FunD K "word" "Upto.word" (defArgs s_Upto_word) (defBody s_Upto_word) (defScope s_Upto_word) [] [] (He.fAd K ("Upto", some "word")) fd
  f_Upto_words : ∃ fd, FunD K "words" "Upto.words" (defArgs s_Upto_words) (defBody s_Upto_words) (defScope s_Upto_words) [] [] (He.fAd K ("Upto", some "words")) fd
  f_Upto_suits : ∃ fd, FunD K "suits" "Upto.suits" (defArgs s_Upto_suits) (defBody s_Upto_suits) (defScope s_Upto_suits) [] [] (He.fAd K ("Upto", some "suits")) fd
  f_Text_init : ∃ fd, FunD K "__init__" "Text.__init__" (defArgs s_Text_init) (defBody s_Text_init) (defScope s_Text_init) [.int (100)] [] (He.fAd K ("Text", some "__init__")) fd
  f_Text_word : ∃ fd, FunD K "word" "Text.word" (defArgs s_Text_word) (defBody s_Text_word) (defScope s_Text_word) [] [] (He.fAd K ("Text", some "word")) fd
  f_Text_words : ∃ fd, FunD K "words" "Text.words" (defArgs s_Text_words) (defBody s_Text_words) (defScope s_Text_words) [] [] (He.fAd K ("Text", some "words")) fd
  f_Text_suits : ∃ fd, FunD K "suits" "Text.suits" (defArgs s_Text_suits) (defBody s_Text_suits) (defScope s_Text_suits) [] [] (He.fAd K ("Text", some "suits")) fd
  f_Text_blank : ∃ fd, FunD K "blank" "Text.blank" (defArgs s_Text_blank) (defBody s_Text_blank) (defScope s_Text_blank) [] [] (He.fAd K ("Text", some "blank")) fd
  f_List_init : ∃ fd, FunD K "__init__" "List.__init__" (defArgs s_List_init) (defBody s_List_init) (defScope s_List_init) [] [] (He.fAd K ("List", some "__init__")) fd
  f_List_word : ∃ fd, FunD K "word" "List.word" (defArgs s_List_word) (defBody s_List_word) (defScope s_List_word) [] [] (He.fAd K ("List", some "word")) fd
  f_List_words : ∃ fd, FunD K "words" "List.words" (defArgs s_List_words) (defBody s_List_words) (defScope s_List_words) [] [] (He.fAd K ("List", some "words")) fd
  f_List_is_plain : ∃ fd, FunD K "is_plain" "List.is_plain" (defArgs s_List_is_plain) (defBody s_List_is_plain) (defScope s_List_is_plain) [] [] (He.fAd K ("List", some "is_plain")) fd
  f_List_suits : ∃ fd, FunD K "suits" "List.suits" (defArgs s_List_suits) (defBody s_List_suits) (defScope s_List_suits) [] [] (He.fAd K ("List", some "suits")) fd
  f_List_blank : ∃ fd, FunD K "blank" "List.blank" (defArgs s_List_blank) (defBody s_List_blank) (defScope s_List_blank) [] [] (He.fAd K ("List", some "blank")) fd
  f_Nested_init : ∃ fd, FunD K "__init__" "Nested.__init__" (defArgs s_Nested_init) (defBody s_Nested_init) (defScope s_Nested_init) [] [] (He.fAd K ("Nested", some "__init__")) fd
  f_Nested_word : ∃ fd, FunD K "word" "Nested.word" (defArgs s_Nested_word) (defBody s_Nested_word) (defScope s_Nested_word) [] [] (He.fAd K ("Nested", some "word")) fd
  f_Nested_words : ∃ fd, FunD K "words" "Nested.words" (defArgs s_Nested_words) (defBody s_Nested_words) (defScope s_Nested_words) [] [] (He.fAd K ("Nested", some "words")) fd
  f_Nested_is_plain : ∃ fd, FunD K "is_plain" "Nested.is_plain" (defArgs s_Nested_is_plain) (defBody s_Nested_is_plain) (defScope s_Nested_is_plain) [] [] (He.fAd K ("Nested", some "is_plain")) fd
  f_Nested_suits : ∃ fd, FunD K "suits" "Nested.suits" (defArgs s_Nested_suits) (defBody s_Nested_suits) (defScope s_Nested_suits) [] [] (He.fAd K ("Nested", some "suits")) fd
  f_Nested_blank : ∃ fd, FunD K "blank" "Nested.blank" (defArgs s_Nested_blank) (defBody s_Nested_blank) (defScope s_Nested_blank) [] [] (He.fAd K ("Nested", some "blank")) fd
  f_Field_init : ∃ fd, FunD K "__init__" "Field.__init__" (defArgs s_Field_init) (defBody s_Field_init) (defScope s_Field_init) [.bl false, .non] [] (He.fAd K ("Field", some "__init__")) fd
  f_by_numbers : ∃ fd, FunD K "by_numbers" "by_numbers" (defArgs s_by_numbers) (defBody s_by_numbers) (defScope s_by_numbers) [] [] (He.fAd K ("by_numbers", none)) fd
  m_by_numbers : mg "by_numbers" = some (.ref (He.fAd K ("by_numbers", none)))
  f_rising : ∃ fd, FunD K "rising" "rising" (defArgs s_rising) (defBody s_rising) (defScope s_rising) [] [] (He.fAd K ("rising", none)) fd
  m_rising : mg "rising" = some (.ref (He.fAd K ("rising", none)))
  f_Form_init : ∃ fd, FunD K "__init__" "Form.__init__" (defArgs s_Form_init) (defBody s_Form_init) (defScope s_Form_init) [.non] [] (He.fAd K ("Form", some "__init__")) fd
  f_Form_is_choice : ∃ fd, FunD K "is_choice" "Form.is_choice" (defArgs s_Form_is_choice) (defBody s_Form_is_choice) (defScope s_Form_is_choice) [] [] (He.fAd K ("Form", some "is_choice")) fd
  f_Form_called : ∃ fd, FunD K "called" "Form.called" (defArgs s_Form_called) (defBody s_Form_called) (defScope s_Form_called) [] [] (He.fAd K ("Form", some "called")) fd
  f_Form_field_at : ∃ fd, FunD K "field_at" "Form.field_at" (defArgs s_Form_field_at) (defBody s_Form_field_at) (defScope s_Form_field_at) [] [] (He.fAd K ("Form", some "field_at")) fd
  f_Form_field_of : ∃ fd, FunD K "field_of" "Form.field_of" (defArgs s_Form_field_of) (defBody s_Form_field_of) (defScope s_Form_field_of) [] [] (He.fAd K ("Form", some "field_of")) fd
  f_Record_called : ∃ fd, FunD K "called" "Record.called" (defArgs s_Record_called) (defBody s_Record_called) (defScope s_Record_called) [] [] (He.fAd K ("Record", some "called")) fd
  f_Choice_is_choice : ∃ fd, FunD K "is_choice" "Choice.is_choice" (defArgs s_Choice_is_choice) (defBody s_Choice_is_choice) (defScope s_Choice_is_choice) [] [] (He.fAd K ("Choice", some "is_choice")) fd
  f_Choice_called : ∃ fd, FunD K "called" "Choice.called" (defArgs s_Choice_called) (defBody s_Choice_called) (defScope s_Choice_called) [] [] (He.fAd K ("Choice", some "called")) fd
  f_is_row_of : ∃ fd, FunD K "is_row_of" "is_row_of" (defArgs s_is_row_of) (defBody s_is_row_of) (defScope s_is_row_of) [] [] (He.fAd K ("is_row_of", none)) fd
  m_is_row_of : mg "is_row_of" = some (.ref (He.fAd K ("is_row_of", none)))
  f_are_many : ∃ fd, FunD K "are_many" "are_many" (defArgs s_are_many) (defBody s_are_many) (defScope s_are_many) [] [] (He.fAd K ("are_many", none)) fd
  m_are_many : mg "are_many" = some (.ref (He.fAd K ("are_many", none)))
  f_are_fields : ∃ fd, FunD K "are_fields" "are_fields" (defArgs s_are_fields) (defBody s_are_fields) (defScope s_are_fields) [] [] (He.fAd K ("are_fields", none)) fd
  m_are_fields : mg "are_fields" = some (.ref (He.fAd K ("are_fields", none)))
  f_are_numbers : ∃ fd, FunD K "are_numbers" "are_numbers" (defArgs s_are_numbers) (defBody s_are_numbers) (defScope s_are_numbers) [] [] (He.fAd K ("are_numbers", none)) fd
  m_are_numbers : mg "are_numbers" = some (.ref (He.fAd K ("are_numbers", none)))
  f_is_kind : ∃ fd, FunD K "is_kind" "is_kind" (defArgs s_is_kind) (defBody s_is_kind) (defScope s_is_kind) [] [] (He.fAd K ("is_kind", none)) fd
  m_is_kind : mg "is_kind" = some (.ref (He.fAd K ("is_kind", none)))
  f_is_blank : ∃ fd, FunD K "is_blank" "is_blank" (defArgs s_is_blank) (defBody s_is_blank) (defScope s_is_blank) [] [] (He.fAd K ("is_blank", none)) fd
  m_is_blank : mg "is_blank" = some (.ref (He.fAd K ("is_blank", none)))
  f_is_default : ∃ fd, FunD K "is_default" "is_default" (defArgs s_is_default) (defBody s_is_default) (defScope s_is_default) [] [] (He.fAd K ("is_default", none)) fd
  m_is_default : mg "is_default" = some (.ref (He.fAd K ("is_default", none)))
  f_kind_weight : ∃ fd, FunD K "kind_weight" "kind_weight" (defArgs s_kind_weight) (defBody s_kind_weight) (defScope s_kind_weight) [] [] (He.fAd K ("kind_weight", none)) fd
  m_kind_weight : mg "kind_weight" = some (.ref (He.fAd K ("kind_weight", none)))
  f_form_weight : ∃ fd, FunD K "form_weight" "form_weight" (defArgs s_form_weight) (defBody s_form_weight) (defScope s_form_weight) [] [] (He.fAd K ("form_weight", none)) fd
  m_form_weight : mg "form_weight" = some (.ref (He.fAd K ("form_weight", none)))
  f_fault : ∃ fd, FunD K "fault" "fault" (defArgs s_fault) (defBody s_fault) (defScope s_fault) [] [] (He.fAd K ("fault", none)) fd
  m_fault : mg "fault" = some (.ref (He.fAd K ("fault", none)))
  f_Book_init : ∃ fd, FunD K "__init__" "Book.__init__" (defArgs s_Book_init) (defBody s_Book_init) (defScope s_Book_init) [] [] (He.fAd K ("Book", some "__init__")) fd
  f_Book_form_of : ∃ fd, FunD K "form_of" "Book.form_of" (defArgs s_Book_form_of) (defBody s_Book_form_of) (defScope s_Book_form_of) [] [] (He.fAd K ("Book", some "form_of")) fd
  f_Book_head : ∃ fd, FunD K "head" "Book.head" (defArgs s_Book_head) (defBody s_Book_head) (defScope s_Book_head) [] [] (He.fAd K ("Book", some "head")) fd
  f_weight : ∃ fd, FunD K "weight" "weight" (defArgs s_weight) (defBody s_weight) (defScope s_weight) [] [] (He.fAd K ("weight", none)) fd
  m_weight : mg "weight" = some (.ref (He.fAd K ("weight", none)))
  f_default_word : ∃ fd, FunD K "default_word" "default_word" (defArgs s_default_word) (defBody s_default_word) (defScope s_default_word) [] [] (He.fAd K ("default_word", none)) fd
  m_default_word : mg "default_word" = some (.ref (He.fAd K ("default_word", none)))
  f_field_line : ∃ fd, FunD K "field_line" "field_line" (defArgs s_field_line) (defBody s_field_line) (defScope s_field_line) [] [] (He.fAd K ("field_line", none)) fd
  m_field_line : mg "field_line" = some (.ref (He.fAd K ("field_line", none)))
  f_book_lines : ∃ fd, FunD K "book_lines" "book_lines" (defArgs s_book_lines) (defBody s_book_lines) (defScope s_book_lines) [] [] (He.fAd K ("book_lines", none)) fd
  m_book_lines : mg "book_lines" = some (.ref (He.fAd K ("book_lines", none)))
  f_need : ∃ fd, FunD K "need" "need" (defArgs s_need) (defBody s_need) (defScope s_need) [] [] (He.fAd K ("need", none)) fd
  m_need : mg "need" = some (.ref (He.fAd K ("need", none)))
  f_most_in : ∃ fd, FunD K "most_in" "most_in" (defArgs s_most_in) (defBody s_most_in) (defScope s_most_in) [] [] (He.fAd K ("most_in", none)) fd
  m_most_in : mg "most_in" = some (.ref (He.fAd K ("most_in", none)))
  f_kind_in : ∃ fd, FunD K "kind_in" "kind_in" (defArgs s_kind_in) (defBody s_kind_in) (defScope s_kind_in) [] [] (He.fAd K ("kind_in", none)) fd
  m_kind_in : mg "kind_in" = some (.ref (He.fAd K ("kind_in", none)))
  f_default_in : ∃ fd, FunD K "default_in" "default_in" (defArgs s_default_in) (defBody s_default_in) (defScope s_default_in) [] [] (He.fAd K ("default_in", none)) fd
  m_default_in : mg "default_in" = some (.ref (He.fAd K ("default_in", none)))
  f_field_in : ∃ fd, FunD K "field_in" "field_in" (defArgs s_field_in) (defBody s_field_in) (defScope s_field_in) [] [] (He.fAd K ("field_in", none)) fd
  m_field_in : mg "field_in" = some (.ref (He.fAd K ("field_in", none)))
  f_gone_in : ∃ fd, FunD K "gone_in" "gone_in" (defArgs s_gone_in) (defBody s_gone_in) (defScope s_gone_in) [] [] (He.fAd K ("gone_in", none)) fd
  m_gone_in : mg "gone_in" = some (.ref (He.fAd K ("gone_in", none)))
  f_Draft_init : ∃ fd, FunD K "__init__" "Draft.__init__" (defArgs s_Draft_init) (defBody s_Draft_init) (defScope s_Draft_init) [] [] (He.fAd K ("Draft", some "__init__")) fd
  f_Draft_put_line : ∃ fd, FunD K "put_line" "Draft.put_line" (defArgs s_Draft_put_line) (defBody s_Draft_put_line) (defScope s_Draft_put_line) [] [] (He.fAd K ("Draft", some "put_line")) fd
  f_Draft_made : ∃ fd, FunD K "made" "Draft.made" (defArgs s_Draft_made) (defBody s_Draft_made) (defScope s_Draft_made) [] [] (He.fAd K ("Draft", some "made")) fd
  f_put_line : ∃ fd, FunD K "put_line" "put_line" (defArgs s_put_line) (defBody s_put_line) (defScope s_put_line) [] [] (He.fAd K ("put_line", none)) fd
  m_put_line : mg "put_line" = some (.ref (He.fAd K ("put_line", none)))
  f_book_of : ∃ fd, FunD K "book_of" "book_of" (defArgs s_book_of) (defBody s_book_of) (defScope s_book_of) [] [] (He.fAd K ("book_of", none)) fd
  m_book_of : mg "book_of" = some (.ref (He.fAd K ("book_of", none)))
  f__law_number : ∃ fd, FunD K "_law_number" "_law_number" (defArgs s__law_number) (defBody s__law_number) (defScope s__law_number) [] [] (He.fAd K ("_law_number", none)) fd
  m__law_number : mg "_law_number" = some (.ref (He.fAd K ("_law_number", none)))
  f__law_mixed : ∃ fd, FunD K "_law_mixed" "_law_mixed" (defArgs s__law_mixed) (defBody s__law_mixed) (defScope s__law_mixed) [] [] (He.fAd K ("_law_mixed", none)) fd
  m__law_mixed : mg "_law_mixed" = some (.ref (He.fAd K ("_law_mixed", none)))
  f__law_names : ∃ fd, FunD K "_law_names" "_law_names" (defArgs s__law_names) (defBody s__law_names) (defScope s__law_names) [] [] (He.fAd K ("_law_names", none)) fd
  m__law_names : mg "_law_names" = some (.ref (He.fAd K ("_law_names", none)))
  f__law_plain : ∃ fd, FunD K "_law_plain" "_law_plain" (defArgs s__law_plain) (defBody s__law_plain) (defScope s__law_plain) [] [] (He.fAd K ("_law_plain", none)) fd
  m__law_plain : mg "_law_plain" = some (.ref (He.fAd K ("_law_plain", none)))
  f__law_kind : ∃ fd, FunD K "_law_kind" "_law_kind" (defArgs s__law_kind) (defBody s__law_kind) (defScope s__law_kind) [] [] (He.fAd K ("_law_kind", none)) fd
  m__law_kind : mg "_law_kind" = some (.ref (He.fAd K ("_law_kind", none)))
  f__law_blank : ∃ fd, FunD K "_law_blank" "_law_blank" (defArgs s__law_blank) (defBody s__law_blank) (defScope s__law_blank) [] [] (He.fAd K ("_law_blank", none)) fd
  m__law_blank : mg "_law_blank" = some (.ref (He.fAd K ("_law_blank", none)))
  f__law_default : ∃ fd, FunD K "_law_default" "_law_default" (defArgs s__law_default) (defBody s__law_default) (defScope s__law_default) [] [] (He.fAd K ("_law_default", none)) fd
  m__law_default : mg "_law_default" = some (.ref (He.fAd K ("_law_default", none)))
  f__law_field : ∃ fd, FunD K "_law_field" "_law_field" (defArgs s__law_field) (defBody s__law_field) (defScope s__law_field) [] [] (He.fAd K ("_law_field", none)) fd
  m__law_field : mg "_law_field" = some (.ref (He.fAd K ("_law_field", none)))
  f__law_load : ∃ fd, FunD K "_law_load" "_law_load" (defArgs s__law_load) (defBody s__law_load) (defScope s__law_load) [] [] (He.fAd K ("_law_load", none)) fd
  m__law_load : mg "_law_load" = some (.ref (He.fAd K ("_law_load", none)))
  f__law_weight : ∃ fd, FunD K "_law_weight" "_law_weight" (defArgs s__law_weight) (defBody s__law_weight) (defScope s__law_weight) [] [] (He.fAd K ("_law_weight", none)) fd
  m__law_weight : mg "_law_weight" = some (.ref (He.fAd K ("_law_weight", none)))
  f__law_spec : ∃ fd, FunD K "_law_spec" "_law_spec" (defArgs s__law_spec) (defBody s__law_spec) (defScope s__law_spec) [] [] (He.fAd K ("_law_spec", none)) fd
  m__law_spec : mg "_law_spec" = some (.ref (He.fAd K ("_law_spec", none)))
  f__law_kind_made : ∃ fd, FunD K "_law_kind_made" "_law_kind_made" (defArgs s__law_kind_made) (defBody s__law_kind_made) (defScope s__law_kind_made) [] [] (He.fAd K ("_law_kind_made", none)) fd
  m__law_kind_made : mg "_law_kind_made" = some (.ref (He.fAd K ("_law_kind_made", none)))
  f__law_field_made : ∃ fd, FunD K "_law_field_made" "_law_field_made" (defArgs s__law_field_made) (defBody s__law_field_made) (defScope s__law_field_made) [] [] (He.fAd K ("_law_field_made", none)) fd
  m__law_field_made : mg "_law_field_made" = some (.ref (He.fAd K ("_law_field_made", none)))
  f__law_form_made : ∃ fd, FunD K "_law_form_made" "_law_form_made" (defArgs s__law_form_made) (defBody s__law_form_made) (defScope s__law_form_made) [] [] (He.fAd K ("_law_form_made", none)) fd
  m__law_form_made : mg "_law_form_made" = some (.ref (He.fAd K ("_law_form_made", none)))
  f__law_made : ∃ fd, FunD K "_law_made" "_law_made" (defArgs s__law_made) (defBody s__law_made) (defScope s__law_made) [] [] (He.fAd K ("_law_made", none)) fd
  m__law_made : mg "_law_made" = some (.ref (He.fAd K ("_law_made", none)))
  f__law_words : ∃ fd, FunD K "_law_words" "_law_words" (defArgs s__law_words) (defBody s__law_words) (defScope s__law_words) [] [] (He.fAd K ("_law_words", none)) fd
  m__law_words : mg "_law_words" = some (.ref (He.fAd K ("_law_words", none)))
  f__law_line : ∃ fd, FunD K "_law_line" "_law_line" (defArgs s__law_line) (defBody s__law_line) (defScope s__law_line) [] [] (He.fAd K ("_law_line", none)) fd
  m__law_line : mg "_law_line" = some (.ref (He.fAd K ("_law_line", none)))
  f__law_lines : ∃ fd, FunD K "_law_lines" "_law_lines" (defArgs s__law_lines) (defBody s__law_lines) (defScope s__law_lines) [] [] (He.fAd K ("_law_lines", none)) fd
  m__law_lines : mg "_law_lines" = some (.ref (He.fAd K ("_law_lines", none)))
  f__law_same_field : ∃ fd, FunD K "_law_same_field" "_law_same_field" (defArgs s__law_same_field) (defBody s__law_same_field) (defScope s__law_same_field) [] [] (He.fAd K ("_law_same_field", none)) fd
  m__law_same_field : mg "_law_same_field" = some (.ref (He.fAd K ("_law_same_field", none)))
  f__law_same_form : ∃ fd, FunD K "_law_same_form" "_law_same_form" (defArgs s__law_same_form) (defBody s__law_same_form) (defScope s__law_same_form) [] [] (He.fAd K ("_law_same_form", none)) fd
  m__law_same_form : mg "_law_same_form" = some (.ref (He.fAd K ("_law_same_form", none)))
  f__law_same : ∃ fd, FunD K "_law_same" "_law_same" (defArgs s__law_same) (defBody s__law_same) (defScope s__law_same) [] [] (He.fAd K ("_law_same", none)) fd
  m__law_same : mg "_law_same" = some (.ref (He.fAd K ("_law_same", none)))
  f_law : ∃ fd, FunD K "law" "law" (defArgs s_law) (defBody s_law) (defScope s_law) [] [] (He.fAd K ("law", none)) fd
  m_law : mg "law" = some (.ref (He.fAd K ("law", none)))
  m_FormError : mg "FormError" = some (.ref (He.ga K "FormError"))
  m_BadBook : mg "BadBook" = some (.ref (He.ga K "BadBook"))
  m_BadText : mg "BadText" = some (.ref (He.ga K "BadText"))
  m_Kind : mg "Kind" = some (.ref (He.ga K "Kind"))
  m_Truth : mg "Truth" = some (.ref (He.ga K "Truth"))
  c_Truth : InsK K (He.ga K "Truth")
  mk_Truth : Mk0 K (He.ga K "Truth")
  h_Truth_word : Meth K (He.ga K "Truth") "word" (He.fAd K ("Truth", some "word"))
  h_Truth_suits : Meth K (He.ga K "Truth") "suits" (He.fAd K ("Truth", some "suits"))
  h_Truth_blank : Meth K (He.ga K "Truth") "blank" (He.fAd K ("Truth", some "blank"))
  h_Truth_words : Meth K (He.ga K "Truth") "words" (He.fAd K ("Kind", some "words"))
  h_Truth_is_plain : Meth K (He.ga K "Truth") "is_plain" (He.fAd K ("Kind", some "is_plain"))
  k_Truth_Kind : PySem.W.kitOne K (.ref (He.ga K "Truth")) (.ref (He.ga K "Kind")) = some true
  k_Truth_Truth : PySem.W.kitOne K (.ref (He.ga K "Truth")) (.ref (He.ga K "Truth")) = some true
  k_Truth_Count : PySem.W.kitOne K (.ref (He.ga K "Truth")) (.ref (He.ga K "Count")) = some false
  k_Truth_Whole : PySem.W.kitOne K (.ref (He.ga K "Truth")) (.ref (He.ga K "Whole")) = some false
  k_Truth_Upto : PySem.W.kitOne K (.ref (He.ga K "Truth")) (.ref (He.ga K "Upto")) = some false
  k_Truth_Text : PySem.W.kitOne K (.ref (He.ga K "Truth")) (.ref (He.ga K "Text")) = some false
  k_Truth_List : PySem.W.kitOne K (.ref (He.ga K "Truth")) (.ref (He.ga K "List")) = some false
  k_Truth_Nested : PySem.W.kitOne K (.ref (He.ga K "Truth")) (.ref (He.ga K "Nested")) = some false
  m_Count : mg "Count" = some (.ref (He.ga K "Count"))
  c_Count : InsK K (He.ga K "Count")
  mk_Count : Mk0 K (He.ga K "Count")
  h_Count_word : Meth K (He.ga K "Count") "word" (He.fAd K ("Count", some "word"))
  h_Count_suits : Meth K (He.ga K "Count") "suits" (He.fAd K ("Count", some "suits"))
  h_Count_words : Meth K (He.ga K "Count") "words" (He.fAd K ("Kind", some "words"))
  h_Count_is_plain : Meth K (He.ga K "Count") "is_plain" (He.fAd K ("Kind", some "is_plain"))
  h_Count_blank : Meth K (He.ga K "Count") "blank" (He.fAd K ("Kind", some "blank"))
  k_Count_Kind : PySem.W.kitOne K (.ref (He.ga K "Count")) (.ref (He.ga K "Kind")) = some true
  k_Count_Truth : PySem.W.kitOne K (.ref (He.ga K "Count")) (.ref (He.ga K "Truth")) = some false
  k_Count_Count : PySem.W.kitOne K (.ref (He.ga K "Count")) (.ref (He.ga K "Count")) = some true
  k_Count_Whole : PySem.W.kitOne K (.ref (He.ga K "Count")) (.ref (He.ga K "Whole")) = some false
  k_Count_Upto : PySem.W.kitOne K (.ref (He.ga K "Count")) (.ref (He.ga K "Upto")) = some false
  k_Count_Text : PySem.W.kitOne K (.ref (He.ga K "Count")) (.ref (He.ga K "Text")) = some false
  k_Count_List : PySem.W.kitOne K (.ref (He.ga K "Count")) (.ref (He.ga K "List")) = some false
  k_Count_Nested : PySem.W.kitOne K (.ref (He.ga K "Count")) (.ref (He.ga K "Nested")) = some false
  m_Whole : mg "Whole" = some (.ref (He.ga K "Whole"))
  c_Whole : InsK K (He.ga K "Whole")
  mk_Whole : Mk0 K (He.ga K "Whole")
  h_Whole_word : Meth K (He.ga K "Whole") "word" (He.fAd K ("Whole", some "word"))
  h_Whole_suits : Meth K (He.ga K "Whole") "suits" (He.fAd K ("Whole", some "suits"))
  h_Whole_words : Meth K (He.ga K "Whole") "words" (He.fAd K ("Kind", some "words"))
  h_Whole_is_plain : Meth K (He.ga K "Whole") "is_plain" (He.fAd K ("Kind", some "is_plain"))
  h_Whole_blank : Meth K (He.ga K "Whole") "blank" (He.fAd K ("Kind", some "blank"))
  k_Whole_Kind : PySem.W.kitOne K (.ref (He.ga K "Whole")) (.ref (He.ga K "Kind")) = some true
  k_Whole_Truth : PySem.W.kitOne K (.ref (He.ga K "Whole")) (.ref (He.ga K "Truth")) = some false
  k_Whole_Count : PySem.W.kitOne K (.ref (He.ga K "Whole")) (.ref (He.ga K "Count")) = some false
  k_Whole_Whole : PySem.W.kitOne K (.ref (He.ga K "Whole")) (.ref (He.ga K "Whole")) = some true
  k_Whole_Upto : PySem.W.kitOne K (.ref (He.ga K "Whole")) (.ref (He.ga K "Upto")) = some false
  k_Whole_Text : PySem.W.kitOne K (.ref (He.ga K "Whole")) (.ref (He.ga K "Text")) = some false
  k_Whole_List : PySem.W.kitOne K (.ref (He.ga K "Whole")) (.ref (He.ga K "List")) = some false
  k_Whole_Nested : PySem.W.kitOne K (.ref (He.ga K "Whole")) (.ref (He.ga K "Nested")) = some false
  m_Upto : mg "Upto" = some (.ref (He.ga K "Upto"))
  c_Upto : InsK K (He.ga K "Upto")
  mk_Upto : Mk K (He.ga K "Upto") (He.fAd K ("Upto", some "__init__"))
  h_Upto_word : Meth K (He.ga K "Upto") "word" (He.fAd K ("Upto", some "word"))
  h_Upto_words : Meth K (He.ga K "Upto") "words" (He.fAd K ("Upto", some "words"))
  h_Upto_suits : Meth K (He.ga K "Upto") "suits" (He.fAd K ("Upto", some "suits"))
  h_Upto_is_plain : Meth K (He.ga K "Upto") "is_plain" (He.fAd K ("Kind", some "is_plain"))
  h_Upto_blank : Meth K (He.ga K "Upto") "blank" (He.fAd K ("Kind", some "blank"))
  a_Upto_most : NoAttr K (He.ga K "Upto") "most"
  k_Upto_Kind : PySem.W.kitOne K (.ref (He.ga K "Upto")) (.ref (He.ga K "Kind")) = some true
  k_Upto_Truth : PySem.W.kitOne K (.ref (He.ga K "Upto")) (.ref (He.ga K "Truth")) = some false
  k_Upto_Count : PySem.W.kitOne K (.ref (He.ga K "Upto")) (.ref (He.ga K "Count")) = some false
  k_Upto_Whole : PySem.W.kitOne K (.ref (He.ga K "Upto")) (.ref (He.ga K "Whole")) = some false
  k_Upto_Upto : PySem.W.kitOne K (.ref (He.ga K "Upto")) (.ref (He.ga K "Upto")) = some true
  k_Upto_Text : PySem.W.kitOne K (.ref (He.ga K "Upto")) (.ref (He.ga K "Text")) = some false
  k_Upto_List : PySem.W.kitOne K (.ref (He.ga K "Upto")) (.ref (He.ga K "List")) = some false
  k_Upto_Nested : PySem.W.kitOne K (.ref (He.ga K "Upto")) (.ref (He.ga K "Nested")) = some false
  m_Text : mg "Text" = some (.ref (He.ga K "Text"))
  c_Text : InsK K (He.ga K "Text")
  mk_Text : Mk K (He.ga K "Text") (He.fAd K ("Text", some "__init__"))
  h_Text_word : Meth K (He.ga K "Text") "word" (He.fAd K ("Text", some "word"))
  h_Text_words : Meth K (He.ga K "Text") "words" (He.fAd K ("Text", some "words"))
  h_Text_suits : Meth K (He.ga K "Text") "suits" (He.fAd K ("Text", some "suits"))
  h_Text_blank : Meth K (He.ga K "Text") "blank" (He.fAd K ("Text", some "blank"))
  h_Text_is_plain : Meth K (He.ga K "Text") "is_plain" (He.fAd K ("Kind", some "is_plain"))
  a_Text_most : NoAttr K (He.ga K "Text") "most"
  k_Text_Kind : PySem.W.kitOne K (.ref (He.ga K "Text")) (.ref (He.ga K "Kind")) = some true
  k_Text_Truth : PySem.W.kitOne K (.ref (He.ga K "Text")) (.ref (He.ga K "Truth")) = some false
  k_Text_Count : PySem.W.kitOne K (.ref (He.ga K "Text")) (.ref (He.ga K "Count")) = some false
  k_Text_Whole : PySem.W.kitOne K (.ref (He.ga K "Text")) (.ref (He.ga K "Whole")) = some false
  k_Text_Upto : PySem.W.kitOne K (.ref (He.ga K "Text")) (.ref (He.ga K "Upto")) = some false
  k_Text_Text : PySem.W.kitOne K (.ref (He.ga K "Text")) (.ref (He.ga K "Text")) = some true
  k_Text_List : PySem.W.kitOne K (.ref (He.ga K "Text")) (.ref (He.ga K "List")) = some false
  k_Text_Nested : PySem.W.kitOne K (.ref (He.ga K "Text")) (.ref (He.ga K "Nested")) = some false
  m_List : mg "List" = some (.ref (He.ga K "List"))
  c_List : InsK K (He.ga K "List")
  mk_List : Mk K (He.ga K "List") (He.fAd K ("List", some "__init__"))
  h_List_word : Meth K (He.ga K "List") "word" (He.fAd K ("List", some "word"))
  h_List_words : Meth K (He.ga K "List") "words" (He.fAd K ("List", some "words"))
  h_List_is_plain : Meth K (He.ga K "List") "is_plain" (He.fAd K ("List", some "is_plain"))
  h_List_suits : Meth K (He.ga K "List") "suits" (He.fAd K ("List", some "suits"))
  h_List_blank : Meth K (He.ga K "List") "blank" (He.fAd K ("List", some "blank"))
  a_List_item : NoAttr K (He.ga K "List") "item"
  k_List_Kind : PySem.W.kitOne K (.ref (He.ga K "List")) (.ref (He.ga K "Kind")) = some true
  k_List_Truth : PySem.W.kitOne K (.ref (He.ga K "List")) (.ref (He.ga K "Truth")) = some false
  k_List_Count : PySem.W.kitOne K (.ref (He.ga K "List")) (.ref (He.ga K "Count")) = some false
  k_List_Whole : PySem.W.kitOne K (.ref (He.ga K "List")) (.ref (He.ga K "Whole")) = some false
  k_List_Upto : PySem.W.kitOne K (.ref (He.ga K "List")) (.ref (He.ga K "Upto")) = some false
  k_List_Text : PySem.W.kitOne K (.ref (He.ga K "List")) (.ref (He.ga K "Text")) = some false
  k_List_List : PySem.W.kitOne K (.ref (He.ga K "List")) (.ref (He.ga K "List")) = some true
  k_List_Nested : PySem.W.kitOne K (.ref (He.ga K "List")) (.ref (He.ga K "Nested")) = some false
  m_Nested : mg "Nested" = some (.ref (He.ga K "Nested"))
  c_Nested : InsK K (He.ga K "Nested")
  mk_Nested : Mk K (He.ga K "Nested") (He.fAd K ("Nested", some "__init__"))
  h_Nested_word : Meth K (He.ga K "Nested") "word" (He.fAd K ("Nested", some "word"))
  h_Nested_words : Meth K (He.ga K "Nested") "words" (He.fAd K ("Nested", some "words"))
  h_Nested_is_plain : Meth K (He.ga K "Nested") "is_plain" (He.fAd K ("Nested", some "is_plain"))
  h_Nested_suits : Meth K (He.ga K "Nested") "suits" (He.fAd K ("Nested", some "suits"))
  h_Nested_blank : Meth K (He.ga K "Nested") "blank" (He.fAd K ("Nested", some "blank"))
  a_Nested_name : NoAttr K (He.ga K "Nested") "name"
  k_Nested_Kind : PySem.W.kitOne K (.ref (He.ga K "Nested")) (.ref (He.ga K "Kind")) = some true
  k_Nested_Truth : PySem.W.kitOne K (.ref (He.ga K "Nested")) (.ref (He.ga K "Truth")) = some false
  k_Nested_Count : PySem.W.kitOne K (.ref (He.ga K "Nested")) (.ref (He.ga K "Count")) = some false
  k_Nested_Whole : PySem.W.kitOne K (.ref (He.ga K "Nested")) (.ref (He.ga K "Whole")) = some false
  k_Nested_Upto : PySem.W.kitOne K (.ref (He.ga K "Nested")) (.ref (He.ga K "Upto")) = some false
  k_Nested_Text : PySem.W.kitOne K (.ref (He.ga K "Nested")) (.ref (He.ga K "Text")) = some false
  k_Nested_List : PySem.W.kitOne K (.ref (He.ga K "Nested")) (.ref (He.ga K "List")) = some false
  k_Nested_Nested : PySem.W.kitOne K (.ref (He.ga K "Nested")) (.ref (He.ga K "Nested")) = some true
  m_Field : mg "Field" = some (.ref (He.ga K "Field"))
  c_Field : InsK K (He.ga K "Field")
  mk_Field : Mk K (He.ga K "Field") (He.fAd K ("Field", some "__init__"))
  a_Field_number : NoAttr K (He.ga K "Field") "number"
  a_Field_name : NoAttr K (He.ga K "Field") "name"
  a_Field_kind : NoAttr K (He.ga K "Field") "kind"
  a_Field_must : NoAttr K (He.ga K "Field") "must"
  a_Field_default : NoAttr K (He.ga K "Field") "default"
  k_Field_Field : PySem.W.kitOne K (.ref (He.ga K "Field")) (.ref (He.ga K "Field")) = some true
  m_Form : mg "Form" = some (.ref (He.ga K "Form"))
  m_Record : mg "Record" = some (.ref (He.ga K "Record"))
  c_Record : InsK K (He.ga K "Record")
  mk_Record : Mk K (He.ga K "Record") (He.fAd K ("Form", some "__init__"))
  h_Record_called : Meth K (He.ga K "Record") "called" (He.fAd K ("Record", some "called"))
  h_Record_is_choice : Meth K (He.ga K "Record") "is_choice" (He.fAd K ("Form", some "is_choice"))
  h_Record_field_at : Meth K (He.ga K "Record") "field_at" (He.fAd K ("Form", some "field_at"))
  h_Record_field_of : Meth K (He.ga K "Record") "field_of" (He.fAd K ("Form", some "field_of"))
  a_Record_name : NoAttr K (He.ga K "Record") "name"
  a_Record_fields : NoAttr K (He.ga K "Record") "fields"
  a_Record_gone : NoAttr K (He.ga K "Record") "gone"
  k_Record_Record : PySem.W.kitOne K (.ref (He.ga K "Record")) (.ref (He.ga K "Record")) = some true
  k_Record_Choice : PySem.W.kitOne K (.ref (He.ga K "Record")) (.ref (He.ga K "Choice")) = some false
  m_Choice : mg "Choice" = some (.ref (He.ga K "Choice"))
  c_Choice : InsK K (He.ga K "Choice")
  mk_Choice : Mk K (He.ga K "Choice") (He.fAd K ("Form", some "__init__"))
  h_Choice_is_choice : Meth K (He.ga K "Choice") "is_choice" (He.fAd K ("Choice", some "is_choice"))
  h_Choice_called : Meth K (He.ga K "Choice") "called" (He.fAd K ("Choice", some "called"))
  h_Choice_field_at : Meth K (He.ga K "Choice") "field_at" (He.fAd K ("Form", some "field_at"))
  h_Choice_field_of : Meth K (He.ga K "Choice") "field_of" (He.fAd K ("Form", some "field_of"))
  a_Choice_name : NoAttr K (He.ga K "Choice") "name"
  a_Choice_fields : NoAttr K (He.ga K "Choice") "fields"
  a_Choice_gone : NoAttr K (He.ga K "Choice") "gone"
  k_Choice_Record : PySem.W.kitOne K (.ref (He.ga K "Choice")) (.ref (He.ga K "Record")) = some false
  k_Choice_Choice : PySem.W.kitOne K (.ref (He.ga K "Choice")) (.ref (He.ga K "Choice")) = some true
  m_Book : mg "Book" = some (.ref (He.ga K "Book"))
  c_Book : InsK K (He.ga K "Book")
  mk_Book : Mk K (He.ga K "Book") (He.fAd K ("Book", some "__init__"))
  h_Book_form_of : Meth K (He.ga K "Book") "form_of" (He.fAd K ("Book", some "form_of"))
  h_Book_head : Meth K (He.ga K "Book") "head" (He.fAd K ("Book", some "head"))
  a_Book_forms : NoAttr K (He.ga K "Book") "forms"
  a_Book_weights : NoAttr K (He.ga K "Book") "weights"
  m_Draft : mg "Draft" = some (.ref (He.ga K "Draft"))
  c_Draft : InsK K (He.ga K "Draft")
  mk_Draft : Mk K (He.ga K "Draft") (He.fAd K ("Draft", some "__init__"))
  h_Draft_put_line : Meth K (He.ga K "Draft") "put_line" (He.fAd K ("Draft", some "put_line"))
  h_Draft_made : Meth K (He.ga K "Draft") "made" (He.fAd K ("Draft", some "made"))
  a_Draft_name : NoAttr K (He.ga K "Draft") "name"
  a_Draft_is_one : NoAttr K (He.ga K "Draft") "is_one"
  a_Draft_fields : NoAttr K (He.ga K "Draft") "fields"
  a_Draft_gone : NoAttr K (He.ga K "Draft") "gone"
theorem txt_of {w : World} {h : Heap} {K : PySem.W.Frag} {mg : Str → Option Value} (X : K.In h) (G : h.Ns mainGlobals mg) (c : He.SaysX fa fn [] tf exB w h K) : Txt K mg where
  n_ValueError := He.free_ok X G (c.t.d.fact 0 (f := .free "ValueError") rfl)
  n_all := He.free_ok X G (c.t.d.fact 1 (f := .free "all") rfl)
  n_bool := He.free_ok X G (c.t.d.fact 2 (f := .free "bool") rfl)
  n_enumerate := He.free_ok X G (c.t.d.fact 3 (f := .free "enumerate") rfl)
  n_int := He.free_ok X G (c.t.d.fact 4 (f := .free "int") rfl)
  n_isinstance := He.free_ok X G (c.t.d.fact 5 (f := .free "isinstance") rfl)
  n_len := He.free_ok X G (c.t.d.fact 6 (f := .free "len") rfl)
  n_list := He.free_ok X G (c.t.d.fact 7 (f := .free "list") rfl)
  n_max := He.free_ok X G (c.t.d.fact 8 (f := .free "max") rfl)
  n_min := He.free_ok X G (c.t.d.fact 9 (f := .free "min") rfl)
  n_ord := He.free_ok X G (c.t.d.fact 10 (f := .free "ord") rfl)
  n_range := He.free_ok X G (c.t.d.fact 11 (f := .free "range") rfl)
  n_sorted := He.free_ok X G (c.t.d.fact 12 (f := .free "sorted") rfl)
  n_str := He.free_ok X G (c.t.d.fact 13 (f := .free "str") rfl)
  n_sum := He.free_ok X G (c.t.d.fact 14 (f := .free "sum") rfl)
  n_tuple := He.free_ok X G (c.t.d.fact 15 (f := .free "tuple") rfl)
  n_zip := He.free_ok X G (c.t.d.fact 16 (f := .free "zip") rfl)
  g_LETTERS := (by obtain ⟨t, e⟩ := He.str_ok X G (c.t.d.fact 17 (f := .str "LETTERS" "abcdefghijklmnopqrstuvwxyz") rfl); exact ⟨_, e, t, rfl⟩)
  g_FIGURES := (by obtain ⟨t, e⟩ := He.str_ok X G (c.t.d.fact 18 (f := .str "FIGURES" "0123456789") rfl); exact ⟨_, e, t, rfl⟩)
  g_MOST_LETTERS := (by obtain ⟨t, e⟩ := He.int_ok X G (c.t.d.fact 19 (f := .int "MOST_LETTERS" 12) rfl); exact ⟨_, e, t, rfl⟩)
  g_MOST_FIGURES := (by obtain ⟨t, e⟩ := He.int_ok X G (c.t.d.fact 20 (f := .int "MOST_FIGURES" 80) rfl); exact ⟨_, e, t, rfl⟩)
  g_MOST_NUMBER := (by obtain ⟨t, e⟩ := He.int_ok X G (c.t.d.fact 21 (f := .int "MOST_NUMBER" 115792089237316195423570985008687907853269984665640564039457584007913129639935) rfl); exact ⟨_, e, t, rfl⟩)
  g_MOST_SIGNS := (by obtain ⟨t, e⟩ := He.int_ok X G (c.t.d.fact 22 (f := .int "MOST_SIGNS" 100) rfl); exact ⟨_, e, t, rfl⟩)
  g_MOST_THINGS := (by obtain ⟨t, e⟩ := He.int_ok X G (c.t.d.fact 23 (f := .int "MOST_THINGS" 20) rfl); exact ⟨_, e, t, rfl⟩)
  g_NO_SIGN := (by obtain ⟨t, e⟩ := He.int_ok X G (c.t.d.fact 24 (f := .int "NO_SIGN" 37) rfl); exact ⟨_, e, t, rfl⟩)
  g_MOST_FORMS := (by obtain ⟨t, e⟩ := He.int_ok X G (c.t.d.fact 25 (f := .int "MOST_FORMS" 8) rfl); exact ⟨_, e, t, rfl⟩)
  g_MOST_FIELDS := (by obtain ⟨t, e⟩ := He.int_ok X G (c.t.d.fact 26 (f := .int "MOST_FIELDS" 10) rfl); exact ⟨_, e, t, rfl⟩)
  g_MOST_MARK := (by obtain ⟨t, e⟩ := He.int_ok X G (c.t.d.fact 27 (f := .int "MOST_MARK" 200) rfl); exact ⟨_, e, t, rfl⟩)
  g_MOST_WEIGHT := (by obtain ⟨t, e⟩ := He.int_ok X G (c.t.d.fact 28 (f := .int "MOST_WEIGHT" 100) rfl); exact ⟨_, e, t, rfl⟩)
  f__wall := c.t.d.def_ 0 rfl
  m__wall := He.glo_ok X G (c.t.d.fact 29 (f := .glo "_wall") rfl)
  f_BadBook_init := c.t.d.def_ 1 rfl
  f_BadText_init := c.t.d.def_ 2 rfl
  f_is_whole := c.t.d.def_ 3 rfl
  m_is_whole := He.glo_ok X G (c.t.d.fact 30 (f := .glo "is_whole") rfl)
  f_is_among := c.t.d.def_ 4 rfl
  m_is_among := He.glo_ok X G (c.t.d.fact 31 (f := .glo "is_among") rfl)
  f_are_signs := c.t.d.def_ 5 rfl
  m_are_signs := He.glo_ok X G (c.t.d.fact 32 (f := .glo "are_signs") rfl)
  f_is_name := c.t.d.def_ 6 rfl
  m_is_name := He.glo_ok X G (c.t.d.fact 33 (f := .glo "is_name") rfl)
  f_number_text := c.t.d.def_ 7 rfl
  m_number_text := He.glo_ok X G (c.t.d.fact 34 (f := .glo "number_text") rfl)
  f_number_of := c.t.d.def_ 8 rfl
  m_number_of := He.glo_ok X G (c.t.d.fact 35 (f := .glo "number_of") rfl)
  f_words_of := c.t.d.def_ 9 rfl
  m_words_of := He.glo_ok X G (c.t.d.fact 36 (f := .glo "words_of") rfl)
  f_is_sign := c.t.d.def_ 10 rfl
  m_is_sign := He.glo_ok X G (c.t.d.fact 37 (f := .glo "is_sign") rfl)
  f_Kind_word := c.t.d.def_ 11 rfl
  f_Kind_words := c.t.d.def_ 12 rfl
  f_Kind_is_plain := c.t.d.def_ 13 rfl
  f_Kind_suits := c.t.d.def_ 14 rfl
  f_Kind_blank := c.t.d.def_ 15 rfl
  f_Truth_word := c.t.d.def_ 16 rfl
  f_Truth_suits := c.t.d.def_ 17 rfl
  f_Truth_blank := c.t.d.def_ 18 rfl
  f_Count_word := c.t.d.def_ 19 rfl
  f_Count_suits := c.t.d.def_ 20 rfl
  f_Whole_word := c.t.d.def_ 21 rfl
  f_Whole_suits := c.t.d.def_ 22 rfl
  f_Upto_init := c.t.d.def_ 23 rfl
  f_Upto_word := c.t.d.def_ 24 rfl
  f_Upto_words := c.t.d.def_ 25 rfl
  f_Upto_suits := c.t.d.def_ 26 rfl
  f_Text_init := c.t.d.def_ 27 rfl
  f_Text_word := c.t.d.def_ 28 rfl
  f_Text_words := c.t.d.def_ 29 rfl
  f_Text_suits := c.t.d.def_ 30 rfl
  f_Text_blank := c.t.d.def_ 31 rfl
  f_List_init := c.t.d.def_ 32 rfl
  f_List_word := c.t.d.def_ 33 rfl
  f_List_words := c.t.d.def_ 34 rfl
  f_List_is_plain := c.t.d.def_ 35 rfl
  f_List_suits := c.t.d.def_ 36 rfl
  f_List_blank := c.t.d.def_ 37 rfl
  f_Nested_init := c.t.d.def_ 38 rfl
  f_Nested_word := c.t.d.def_ 39 rfl
  f_Nested_words := c.t.d.def_ 40 rfl
  f_Nested_is_plain := c.t.d.def_ 41 rfl
  f_Nested_suits := c.t.d.def_ 42 rfl
  f_Nested_blank := c.t.d.def_ 43 rfl
  f_Field_init := c.t.d.def_ 44 rfl
  f_by_numbers := c.t.d.def_ 45 rfl
  m_by_numbers := He.glo_ok X G (c.t.d.fact 38 (f := .glo "by_numbers") rfl)
  f_rising := c.t.d.def_ 46 rfl
  m_rising := He.glo_ok X G (c.t.d.fact 39 (f := .glo "rising") rfl)
  f_Form_init := c.t.d.def_ 47 rfl
  f_Form_is_choice := c.t.d.def_ 48 rfl
  f_Form_called := c.t.d.def_ 49 rfl
  f_Form_field_at := c.t.d.def_ 50 rfl
  f_Form_field_of := c.t.d.def_ 51 rfl
  f_Record_called := c.t.d.def_ 52 rfl
  f_Choice_is_choice := c.t.d.def_ 53 rfl
  f_Choice_called := c.t.d.def_ 54 rfl
  f_is_row_of := c.t.d.def_ 55 rfl
  m_is_row_of := He.glo_ok X G (c.t.d.fact 40 (f := .glo "is_row_of") rfl)
  f_are_many := c.t.d.def_ 56 rfl
  m_are_many := He.glo_ok X G (c.t.d.fact 41 (f := .glo "are_many") rfl)
  f_are_fields := c.t.d.def_ 57 rfl
  m_are_fields := He.glo_ok X G (c.t.d.fact 42 (f := .glo "are_fields") rfl)
  f_are_numbers := c.t.d.def_ 58 rfl
  m_are_numbers := He.glo_ok X G (c.t.d.fact 43 (f := .glo "are_numbers") rfl)
  f_is_kind := c.t.d.def_ 59 rfl
  m_is_kind := He.glo_ok X G (c.t.d.fact 44 (f := .glo "is_kind") rfl)
  f_is_blank := c.t.d.def_ 60 rfl
  m_is_blank := He.glo_ok X G (c.t.d.fact 45 (f := .glo "is_blank") rfl)
  f_is_default := c.t.d.def_ 61 rfl
  m_is_default := He.glo_ok X G (c.t.d.fact 46 (f := .glo "is_default") rfl)
  f_kind_weight := c.t.d.def_ 62 rfl
  m_kind_weight := He.glo_ok X G (c.t.d.fact 47 (f := .glo "kind_weight") rfl)
  f_form_weight := c.t.d.def_ 63 rfl
  m_form_weight := He.glo_ok X G (c.t.d.fact 48 (f := .glo "form_weight") rfl)
  f_fault := c.t.d.def_ 64 rfl
  m_fault := He.glo_ok X G (c.t.d.fact 49 (f := .glo "fault") rfl)
  f_Book_init := c.t.d.def_ 65 rfl
  f_Book_form_of := c.t.d.def_ 66 rfl
  f_Book_head := c.t.d.def_ 67 rfl
  f_weight := c.t.d.def_ 68 rfl
  m_weight := He.glo_ok X G (c.t.d.fact 50 (f := .glo "weight") rfl)
  f_default_word := c.t.d.def_ 69 rfl
  m_default_word := He.glo_ok X G (c.t.d.fact 51 (f := .glo "default_word") rfl)
  f_field_line := c.t.d.def_ 70 rfl
  m_field_line := He.glo_ok X G (c.t.d.fact 52 (f := .glo "field_line") rfl)
  f_book_lines := c.t.d.def_ 71 rfl
  m_book_lines := He.glo_ok X G (c.t.d.fact 53 (f := .glo "book_lines") rfl)
  f_need := c.t.d.def_ 72 rfl
  m_need := He.glo_ok X G (c.t.d.fact 54 (f := .glo "need") rfl)
  f_most_in := c.t.d.def_ 73 rfl
  m_most_in := He.glo_ok X G (c.t.d.fact 55 (f := .glo "most_in") rfl)
  f_kind_in := c.t.d.def_ 74 rfl
  m_kind_in := He.glo_ok X G (c.t.d.fact 56 (f := .glo "kind_in") rfl)
  f_default_in := c.t.d.def_ 75 rfl
  m_default_in := He.glo_ok X G (c.t.d.fact 57 (f := .glo "default_in") rfl)
  f_field_in := c.t.d.def_ 76 rfl
  m_field_in := He.glo_ok X G (c.t.d.fact 58 (f := .glo "field_in") rfl)
  f_gone_in := c.t.d.def_ 77 rfl
  m_gone_in := He.glo_ok X G (c.t.d.fact 59 (f := .glo "gone_in") rfl)
  f_Draft_init := c.t.d.def_ 78 rfl
  f_Draft_put_line := c.t.d.def_ 79 rfl
  f_Draft_made := c.t.d.def_ 80 rfl
  f_put_line := c.t.d.def_ 81 rfl
  m_put_line := He.glo_ok X G (c.t.d.fact 60 (f := .glo "put_line") rfl)
  f_book_of := c.t.d.def_ 82 rfl
  m_book_of := He.glo_ok X G (c.t.d.fact 61 (f := .glo "book_of") rfl)
  f__law_number := c.t.d.def_ 83 rfl
  m__law_number := He.glo_ok X G (c.t.d.fact 62 (f := .glo "_law_number") rfl)
  f__law_mixed := c.t.d.def_ 84 rfl
  m__law_mixed := He.glo_ok X G (c.t.d.fact 63 (f := .glo "_law_mixed") rfl)
  f__law_names := c.t.d.def_ 85 rfl
  m__law_names := He.glo_ok X G (c.t.d.fact 64 (f := .glo "_law_names") rfl)
  f__law_plain := c.t.d.def_ 86 rfl
  m__law_plain := He.glo_ok X G (c.t.d.fact 65 (f := .glo "_law_plain") rfl)
  f__law_kind := c.t.d.def_ 87 rfl
  m__law_kind := He.glo_ok X G (c.t.d.fact 66 (f := .glo "_law_kind") rfl)
  f__law_blank := c.t.d.def_ 88 rfl
  m__law_blank := He.glo_ok X G (c.t.d.fact 67 (f := .glo "_law_blank") rfl)
  f__law_default := c.t.d.def_ 89 rfl
  m__law_default := He.glo_ok X G (c.t.d.fact 68 (f := .glo "_law_default") rfl)
  f__law_field := c.t.d.def_ 90 rfl
  m__law_field := He.glo_ok X G (c.t.d.fact 69 (f := .glo "_law_field") rfl)
  f__law_load := c.t.d.def_ 91 rfl
  m__law_load := He.glo_ok X G (c.t.d.fact 70 (f := .glo "_law_load") rfl)
  f__law_weight := c.t.d.def_ 92 rfl
  m__law_weight := He.glo_ok X G (c.t.d.fact 71 (f := .glo "_law_weight") rfl)
  f__law_spec := c.t.d.def_ 93 rfl
  m__law_spec := He.glo_ok X G (c.t.d.fact 72 (f := .glo "_law_spec") rfl)
  f__law_kind_made := c.t.d.def_ 94 rfl
  m__law_kind_made := He.glo_ok X G (c.t.d.fact 73 (f := .glo "_law_kind_made") rfl)
  f__law_field_made := c.t.d.def_ 95 rfl
  m__law_field_made := He.glo_ok X G (c.t.d.fact 74 (f := .glo "_law_field_made") rfl)
  f__law_form_made := c.t.d.def_ 96 rfl
  m__law_form_made := He.glo_ok X G (c.t.d.fact 75 (f := .glo "_law_form_made") rfl)
  f__law_made := c.t.d.def_ 97 rfl
  m__law_made := He.glo_ok X G (c.t.d.fact 76 (f := .glo "_law_made") rfl)
  f__law_words := c.t.d.def_ 98 rfl
  m__law_words := He.glo_ok X G (c.t.d.fact 77 (f := .glo "_law_words") rfl)
  f__law_line := c.t.d.def_ 99 rfl
  m__law_line := He.glo_ok X G (c.t.d.fact 78 (f := .glo "_law_line") rfl)
  f__law_lines := c.t.d.def_ 100 rfl
  m__law_lines := He.glo_ok X G (c.t.d.fact 79 (f := .glo "_law_lines") rfl)
  f__law_same_field := c.t.d.def_ 101 rfl
  m__law_same_field := He.glo_ok X G (c.t.d.fact 80 (f := .glo "_law_same_field") rfl)
  f__law_same_form := c.t.d.def_ 102 rfl
  m__law_same_form := He.glo_ok X G (c.t.d.fact 81 (f := .glo "_law_same_form") rfl)
  f__law_same := c.t.d.def_ 103 rfl
  m__law_same := He.glo_ok X G (c.t.d.fact 82 (f := .glo "_law_same") rfl)
  f_law := c.t.d.def_ 104 rfl
  m_law := He.glo_ok X G (c.t.d.fact 83 (f := .glo "law") rfl)
  m_FormError := He.glo_ok X G (c.t.d.fact 84 (f := .glo "FormError") rfl)
  m_BadBook := He.glo_ok X G (c.t.d.fact 85 (f := .glo "BadBook") rfl)
  m_BadText := He.glo_ok X G (c.t.d.fact 86 (f := .glo "BadText") rfl)
  m_Kind := He.glo_ok X G (c.t.d.fact 87 (f := .glo "Kind") rfl)
  m_Truth := He.glo_ok X G (c.t.d.fact 88 (f := .glo "Truth") rfl)
  c_Truth := Z.ins_ok (more_of c.more 0 (f := .ins "Truth") rfl)
  mk_Truth := Z.mk0_ok (more_of c.more 1 (f := .mk0 "Truth") rfl)
  h_Truth_word := Z.fnd_ok (more_of c.more 2 (f := .fnd "Truth" "word" ("Truth", some "word")) rfl)
  h_Truth_suits := Z.fnd_ok (more_of c.more 3 (f := .fnd "Truth" "suits" ("Truth", some "suits")) rfl)
  h_Truth_blank := Z.fnd_ok (more_of c.more 4 (f := .fnd "Truth" "blank" ("Truth", some "blank")) rfl)
  h_Truth_words := Z.fnd_ok (more_of c.more 5 (f := .fnd "Truth" "words" ("Kind", some "words")) rfl)
  h_Truth_is_plain := Z.fnd_ok (more_of c.more 6 (f := .fnd "Truth" "is_plain" ("Kind", some "is_plain")) rfl)
  k_Truth_Kind := kit_ok (more_of c.more 7 (f := .kit "Truth" "Kind" true) rfl)
  k_Truth_Truth := kit_ok (more_of c.more 8 (f := .kit "Truth" "Truth" true) rfl)
  k_Truth_Count := kit_ok (more_of c.more 9 (f := .kit "Truth" "Count" false) rfl)
  k_Truth_Whole := kit_ok (more_of c.more 10 (f := .kit "Truth" "Whole" false) rfl)
  k_Truth_Upto := kit_ok (more_of c.more 11 (f := .kit "Truth" "Upto" false) rfl)
  k_Truth_Text := kit_ok (more_of c.more 12 (f := .kit "Truth" "Text" false) rfl)
  k_Truth_List := kit_ok (more_of c.more 13 (f := .kit "Truth" "List" false) rfl)
  k_Truth_Nested := kit_ok (more_of c.more 14 (f := .kit "Truth" "Nested" false) rfl)
  m_Count := He.glo_ok X G (c.t.d.fact 89 (f := .glo "Count") rfl)
  c_Count := Z.ins_ok (more_of c.more 15 (f := .ins "Count") rfl)
  mk_Count := Z.mk0_ok (more_of c.more 16 (f := .mk0 "Count") rfl)
  h_Count_word := Z.fnd_ok (more_of c.more 17 (f := .fnd "Count" "word" ("Count", some "word")) rfl)
  h_Count_suits := Z.fnd_ok (more_of c.more 18 (f := .fnd "Count" "suits" ("Count", some "suits")) rfl)
  h_Count_words := Z.fnd_ok (more_of c.more 19 (f := .fnd "Count" "words" ("Kind", some "words")) rfl)
  h_Count_is_plain := Z.fnd_ok (more_of c.more 20 (f := .fnd "Count" "is_plain" ("Kind", some "is_plain")) rfl)
  h_Count_blank := Z.fnd_ok (more_of c.more 21 (f := .fnd "Count" "blank" ("Kind", some "blank")) rfl)
  k_Count_Kind := kit_ok (more_of c.more 22 (f := .kit "Count" "Kind" true) rfl)
  k_Count_Truth := kit_ok (more_of c.more 23 (f := .kit "Count" "Truth" false) rfl)
  k_Count_Count := kit_ok (more_of c.more 24 (f := .kit "Count" "Count" true) rfl)
  k_Count_Whole := kit_ok (more_of c.more 25 (f := .kit "Count" "Whole" false) rfl)
  k_Count_Upto := kit_ok (more_of c.more 26 (f := .kit "Count" "Upto" false) rfl)
  k_Count_Text := kit_ok (more_of c.more 27 (f := .kit "Count" "Text" false) rfl)
  k_Count_List := kit_ok (more_of c.more 28 (f := .kit "Count" "List" false) rfl)
  k_Count_Nested := kit_ok (more_of c.more 29 (f := .kit "Count" "Nested" false) rfl)
  m_Whole := He.glo_ok X G (c.t.d.fact 90 (f := .glo "Whole") rfl)
  c_Whole := Z.ins_ok (more_of c.more 30 (f := .ins "Whole") rfl)
  mk_Whole := Z.mk0_ok (more_of c.more 31 (f := .mk0 "Whole") rfl)
  h_Whole_word := Z.fnd_ok (more_of c.more 32 (f := .fnd "Whole" "word" ("Whole", some "word")) rfl)
  h_Whole_suits := Z.fnd_ok (more_of c.more 33 (f := .fnd "Whole" "suits" ("Whole", some "suits")) rfl)
  h_Whole_words := Z.fnd_ok (more_of c.more 34 (f := .fnd "Whole" "words" ("Kind", some "words")) rfl)
  h_Whole_is_plain := Z.fnd_ok (more_of c.more 35 (f := .fnd "Whole" "is_plain" ("Kind", some "is_plain")) rfl)
  h_Whole_blank := Z.fnd_ok (more_of c.more 36 (f := .fnd "Whole" "blank" ("Kind", some "blank")) rfl)
  k_Whole_Kind := kit_ok (more_of c.more 37 (f := .kit "Whole" "Kind" true) rfl)
  k_Whole_Truth := kit_ok (more_of c.more 38 (f := .kit "Whole" "Truth" false) rfl)
  k_Whole_Count := kit_ok (more_of c.more 39 (f := .kit "Whole" "Count" false) rfl)
  k_Whole_Whole := kit_ok (more_of c.more 40 (f := .kit "Whole" "Whole" true) rfl)
  k_Whole_Upto := kit_ok (more_of c.more 41 (f := .kit "Whole" "Upto" false) rfl)
  k_Whole_Text := kit_ok (more_of c.more 42 (f := .kit "Whole" "Text" false) rfl)
  k_Whole_List := kit_ok (more_of c.more 43 (f := .kit "Whole" "List" false) rfl)
  k_Whole_Nested := kit_ok (more_of c.more 44 (f := .kit "Whole" "Nested" false) rfl)
  m_Upto := He.glo_ok X G (c.t.d.fact 91 (f := .glo "Upto") rfl)
  c_Upto := Z.ins_ok (more_of c.more 45 (f := .ins "Upto") rfl)
  mk_Upto := Z.mk_ok (more_of c.more 46 (f := .mk "Upto" ("Upto", some "__init__")) rfl)
  h_Upto_word := Z.fnd_ok (more_of c.more 47 (f := .fnd "Upto" "word" ("Upto", some "word")) rfl)
  h_Upto_words := Z.fnd_ok (more_of c.more 48 (f := .fnd "Upto" "words" ("Upto", some "words")) rfl)
  h_Upto_suits := Z.fnd_ok (more_of c.more 49 (f := .fnd "Upto" "suits" ("Upto", some "suits")) rfl)
  h_Upto_is_plain := Z.fnd_ok (more_of c.more 50 (f := .fnd "Upto" "is_plain" ("Kind", some "is_plain")) rfl)
  h_Upto_blank := Z.fnd_ok (more_of c.more 51 (f := .fnd "Upto" "blank" ("Kind", some "blank")) rfl)
  a_Upto_most := Z.noa_ok (more_of c.more 52 (f := .noa "Upto" "most") rfl)
  k_Upto_Kind := kit_ok (more_of c.more 53 (f := .kit "Upto" "Kind" true) rfl)
  k_Upto_Truth := kit_ok (more_of c.more 54 (f := .kit "Upto" "Truth" false) rfl)
  k_Upto_Count := kit_ok (more_of c.more 55 (f := .kit "Upto" "Count" false) rfl)
  k_Upto_Whole := kit_ok (more_of c.more 56 (f := .kit "Upto" "Whole" false) rfl)
  k_Upto_Upto := kit_ok (more_of c.more 57 (f := .kit "Upto" "Upto" true) rfl)
  k_Upto_Text := kit_ok (more_of c.more 58 (f := .kit "Upto" "Text" false) rfl)
  k_Upto_List := kit_ok (more_of c.more 59 (f := .kit "Upto" "List" false) rfl)
  k_Upto_Nested := kit_ok (more_of c.more 60 (f := .kit "Upto" "Nested" false) rfl)
  m_Text := He.glo_ok X G (c.t.d.fact 92 (f := .glo "Text") rfl)
  c_Text := Z.ins_ok (more_of c.more 61 (f := .ins "Text") rfl)
  mk_Text := Z.mk_ok (more_of c.more 62 (f := .mk "Text" ("Text", some "__init__")) rfl)
  h_Text_word := Z.fnd_ok (more_of c.more 63 (f := .fnd "Text" "word" ("Text", some "word")) rfl)
  h_Text_words := Z.fnd_ok (more_of c.more 64 (f := .fnd "Text" "words" ("Text", some "words")) rfl)
  h_Text_suits := Z.fnd_ok (more_of c.more 65 (f := .fnd "Text" "suits" ("Text", some "suits")) rfl)
  h_Text_blank := Z.fnd_ok (more_of c.more 66 (f := .fnd "Text" "blank" ("Text", some "blank")) rfl)
  h_Text_is_plain := Z.fnd_ok (more_of c.more 67 (f := .fnd "Text" "is_plain" ("Kind", some "is_plain")) rfl)
  a_Text_most := Z.noa_ok (more_of c.more 68 (f := .noa "Text" "most") rfl)
  k_Text_Kind := kit_ok (more_of c.more 69 (f := .kit "Text" "Kind" true) rfl)
  k_Text_Truth := kit_ok (more_of c.more 70 (f := .kit "Text" "Truth" false) rfl)
  k_Text_Count := kit_ok (more_of c.more 71 (f := .kit "Text" "Count" false) rfl)
  k_Text_Whole := kit_ok (more_of c.more 72 (f := .kit "Text" "Whole" false) rfl)
  k_Text_Upto := kit_ok (more_of c.more 73 (f := .kit "Text" "Upto" false) rfl)
  k_Text_Text := kit_ok (more_of c.more 74 (f := .kit "Text" "Text" true) rfl)
  k_Text_List := kit_ok (more_of c.more 75 (f := .kit "Text" "List" false) rfl)
  k_Text_Nested := kit_ok (more_of c.more 76 (f := .kit "Text" "Nested" false) rfl)
  m_List := He.glo_ok X G (c.t.d.fact 93 (f := .glo "List") rfl)
  c_List := Z.ins_ok (more_of c.more 77 (f := .ins "List") rfl)
  mk_List := Z.mk_ok (more_of c.more 78 (f := .mk "List" ("List", some "__init__")) rfl)
  h_List_word := Z.fnd_ok (more_of c.more 79 (f := .fnd "List" "word" ("List", some "word")) rfl)
  h_List_words := Z.fnd_ok (more_of c.more 80 (f := .fnd "List" "words" ("List", some "words")) rfl)
  h_List_is_plain := Z.fnd_ok (more_of c.more 81 (f := .fnd "List" "is_plain" ("List", some "is_plain")) rfl)
  h_List_suits := Z.fnd_ok (more_of c.more 82 (f := .fnd "List" "suits" ("List", some "suits")) rfl)
  h_List_blank := Z.fnd_ok (more_of c.more 83 (f := .fnd "List" "blank" ("List", some "blank")) rfl)
  a_List_item := Z.noa_ok (more_of c.more 84 (f := .noa "List" "item") rfl)
  k_List_Kind := kit_ok (more_of c.more 85 (f := .kit "List" "Kind" true) rfl)
  k_List_Truth := kit_ok (more_of c.more 86 (f := .kit "List" "Truth" false) rfl)
  k_List_Count := kit_ok (more_of c.more 87 (f := .kit "List" "Count" false) rfl)
  k_List_Whole := kit_ok (more_of c.more 88 (f := .kit "List" "Whole" false) rfl)
  k_List_Upto := kit_ok (more_of c.more 89 (f := .kit "List" "Upto" false) rfl)
  k_List_Text := kit_ok (more_of c.more 90 (f := .kit "List" "Text" false) rfl)
  k_List_List := kit_ok (more_of c.more 91 (f := .kit "List" "List" true) rfl)
  k_List_Nested := kit_ok (more_of c.more 92 (f := .kit "List" "Nested" false) rfl)
  m_Nested := He.glo_ok X G (c.t.d.fact 94 (f := .glo "Nested") rfl)
  c_Nested := Z.ins_ok (more_of c.more 93 (f := .ins "Nested") rfl)
  mk_Nested := Z.mk_ok (more_of c.more 94 (f := .mk "Nested" ("Nested", some "__init__")) rfl)
  h_Nested_word := Z.fnd_ok (more_of c.more 95 (f := .fnd "Nested" "word" ("Nested", some "word")) rfl)
  h_Nested_words := Z.fnd_ok (more_of c.more 96 (f := .fnd "Nested" "words" ("Nested", some "words")) rfl)
  h_Nested_is_plain := Z.fnd_ok (more_of c.more 97 (f := .fnd "Nested" "is_plain" ("Nested", some "is_plain")) rfl)
  h_Nested_suits := Z.fnd_ok (more_of c.more 98 (f := .fnd "Nested" "suits" ("Nested", some "suits")) rfl)
  h_Nested_blank := Z.fnd_ok (more_of c.more 99 (f := .fnd "Nested" "blank" ("Nested", some "blank")) rfl)
  a_Nested_name := Z.noa_ok (more_of c.more 100 (f := .noa "Nested" "name") rfl)
  k_Nested_Kind := kit_ok (more_of c.more 101 (f := .kit "Nested" "Kind" true) rfl)
  k_Nested_Truth := kit_ok (more_of c.more 102 (f := .kit "Nested" "Truth" false) rfl)
  k_Nested_Count := kit_ok (more_of c.more 103 (f := .kit "Nested" "Count" false) rfl)
  k_Nested_Whole := kit_ok (more_of c.more 104 (f := .kit "Nested" "Whole" false) rfl)
  k_Nested_Upto := kit_ok (more_of c.more 105 (f := .kit "Nested" "Upto" false) rfl)
  k_Nested_Text := kit_ok (more_of c.more 106 (f := .kit "Nested" "Text" false) rfl)
  k_Nested_List := kit_ok (more_of c.more 107 (f := .kit "Nested" "List" false) rfl)
  k_Nested_Nested := kit_ok (more_of c.more 108 (f := .kit "Nested" "Nested" true) rfl)
  m_Field := He.glo_ok X G (c.t.d.fact 95 (f := .glo "Field") rfl)
  c_Field := Z.ins_ok (more_of c.more 109 (f := .ins "Field") rfl)
  mk_Field := Z.mk_ok (more_of c.more 110 (f := .mk "Field" ("Field", some "__init__")) rfl)
  a_Field_number := Z.noa_ok (more_of c.more 111 (f := .noa "Field" "number") rfl)
  a_Field_name := Z.noa_ok (more_of c.more 112 (f := .noa "Field" "name") rfl)
  a_Field_kind := Z.noa_ok (more_of c.more 113 (f := .noa "Field" "kind") rfl)
  a_Field_must := Z.noa_ok (more_of c.more 114 (f := .noa "Field" "must") rfl)
  a_Field_default := Z.noa_ok (more_of c.more 115 (f := .noa "Field" "default") rfl)
  k_Field_Field := kit_ok (more_of c.more 116 (f := .kit "Field" "Field" true) rfl)
  m_Form := He.glo_ok X G (c.t.d.fact 96 (f := .glo "Form") rfl)
  m_Record := He.glo_ok X G (c.t.d.fact 97 (f := .glo "Record") rfl)
  c_Record := Z.ins_ok (more_of c.more 117 (f := .ins "Record") rfl)
  mk_Record := Z.mk_ok (more_of c.more 118 (f := .mk "Record" ("Form", some "__init__")) rfl)
  h_Record_called := Z.fnd_ok (more_of c.more 119 (f := .fnd "Record" "called" ("Record", some "called")) rfl)
  h_Record_is_choice := Z.fnd_ok (more_of c.more 120 (f := .fnd "Record" "is_choice" ("Form", some "is_choice")) rfl)
  h_Record_field_at := Z.fnd_ok (more_of c.more 121 (f := .fnd "Record" "field_at" ("Form", some "field_at")) rfl)
  h_Record_field_of := Z.fnd_ok (more_of c.more 122 (f := .fnd "Record" "field_of" ("Form", some "field_of")) rfl)
  a_Record_name := Z.noa_ok (more_of c.more 123 (f := .noa "Record" "name") rfl)
  a_Record_fields := Z.noa_ok (more_of c.more 124 (f := .noa "Record" "fields") rfl)
  a_Record_gone := Z.noa_ok (more_of c.more 125 (f := .noa "Record" "gone") rfl)
  k_Record_Record := kit_ok (more_of c.more 126 (f := .kit "Record" "Record" true) rfl)
  k_Record_Choice := kit_ok (more_of c.more 127 (f := .kit "Record" "Choice" false) rfl)
  m_Choice := He.glo_ok X G (c.t.d.fact 98 (f := .glo "Choice") rfl)
  c_Choice := Z.ins_ok (more_of c.more 128 (f := .ins "Choice") rfl)
  mk_Choice := Z.mk_ok (more_of c.more 129 (f := .mk "Choice" ("Form", some "__init__")) rfl)
  h_Choice_is_choice := Z.fnd_ok (more_of c.more 130 (f := .fnd "Choice" "is_choice" ("Choice", some "is_choice")) rfl)
  h_Choice_called := Z.fnd_ok (more_of c.more 131 (f := .fnd "Choice" "called" ("Choice", some "called")) rfl)
  h_Choice_field_at := Z.fnd_ok (more_of c.more 132 (f := .fnd "Choice" "field_at" ("Form", some "field_at")) rfl)
  h_Choice_field_of := Z.fnd_ok (more_of c.more 133 (f := .fnd "Choice" "field_of" ("Form", some "field_of")) rfl)
  a_Choice_name := Z.noa_ok (more_of c.more 134 (f := .noa "Choice" "name") rfl)
  a_Choice_fields := Z.noa_ok (more_of c.more 135 (f := .noa "Choice" "fields") rfl)
  a_Choice_gone := Z.noa_ok (more_of c.more 136 (f := .noa "Choice" "gone") rfl)
  k_Choice_Record := kit_ok (more_of c.more 137 (f := .kit "Choice" "Record" false) rfl)
  k_Choice_Choice := kit_ok (more_of c.more 138 (f := .kit "Choice" "Choice" true) rfl)
  m_Book := He.glo_ok X G (c.t.d.fact 99 (f := .glo "Book") rfl)
  c_Book := Z.ins_ok (more_of c.more 139 (f := .ins "Book") rfl)
  mk_Book := Z.mk_ok (more_of c.more 140 (f := .mk "Book" ("Book", some "__init__")) rfl)
  h_Book_form_of := Z.fnd_ok (more_of c.more 141 (f := .fnd "Book" "form_of" ("Book", some "form_of")) rfl)
  h_Book_head := Z.fnd_ok (more_of c.more 142 (f := .fnd "Book" "head" ("Book", some "head")) rfl)
  a_Book_forms := Z.noa_ok (more_of c.more 143 (f := .noa "Book" "forms") rfl)
  a_Book_weights := Z.noa_ok (more_of c.more 144 (f := .noa "Book" "weights") rfl)
  m_Draft := He.glo_ok X G (c.t.d.fact 100 (f := .glo "Draft") rfl)
  c_Draft := Z.ins_ok (more_of c.more 145 (f := .ins "Draft") rfl)
  mk_Draft := Z.mk_ok (more_of c.more 146 (f := .mk "Draft" ("Draft", some "__init__")) rfl)
  h_Draft_put_line := Z.fnd_ok (more_of c.more 147 (f := .fnd "Draft" "put_line" ("Draft", some "put_line")) rfl)
  h_Draft_made := Z.fnd_ok (more_of c.more 148 (f := .fnd "Draft" "made" ("Draft", some "made")) rfl)
  a_Draft_name := Z.noa_ok (more_of c.more 149 (f := .noa "Draft" "name") rfl)
  a_Draft_is_one := Z.noa_ok (more_of c.more 150 (f := .noa "Draft" "is_one") rfl)
  a_Draft_fields := Z.noa_ok (more_of c.more 151 (f := .noa "Draft" "fields") rfl)
  a_Draft_gone := Z.noa_ok (more_of c.more 152 (f := .noa "Draft" "gone") rfl)
end K08

set_option maxRecDepth 100000
set_option maxHeartbeats 0
namespace K08
open PySem PySem.Spec PyProof.Rows L2 Z
abbrev R : PySem.W.OpenRow := PySem.W.OpenLaw.row PySem.Challenge.rw_formkin_k08_books_written
abbrev hk : PySem.W.Hook := Z.hookS 4 fa fn tf exB
def ob (s : PySem.W.SharedT) : He.AlX := Z.obsS 4 fa fn tf exB (HandSHeadRun.getT s)
theorem ob_eq (s : PySem.W.SharedT) : ob s = hk.obs s.abs := Z.obsS_eq (HandSHeadRun.getT_eq s)
def loose_0 : List PySem.Str := ["_wall", "FormError", "BadBook", "BadText", "LETTERS", "FIGURES", "MOST_LETTERS", "MOST_FIGURES", "is_whole", "is_among", "are_signs", "is_name", "number_text", "number_of", "words_of", "MOST_NUMBER", "MOST_SIGNS", "MOST_THINGS", "NO_SIGN", "is_sign", "Kind", "Truth", "Count", "Whole", "Upto", "Text", "List", "Nested", "Field", "by_numbers"]
def loose_1 : List PySem.Str := ["rising", "Form", "Record", "Choice", "MOST_FORMS", "MOST_FIELDS", "MOST_MARK", "MOST_WEIGHT", "is_row_of", "are_many", "are_fields", "are_numbers", "is_kind", "is_blank", "is_default", "kind_weight", "form_weight", "fault", "Book", "weight", "default_word", "field_line", "book_lines", "need", "most_in", "kind_in", "default_in", "field_in", "gone_in", "Draft"]
def loose_2 : List PySem.Str := ["put_line", "book_of", "_law_number", "_law_mixed", "_law_names", "_law_plain", "_law_kind", "_law_blank", "_law_default", "_law_field", "_law_load", "_law_weight", "_law_spec", "_law_kind_made", "_law_field_made", "_law_form_made", "_law_made", "_law_words", "_law_line", "_law_lines", "_law_same_field", "_law_same_form", "_law_same"]
abbrev loose : List PySem.Str := loose_0 ++ loose_1 ++ loose_2
theorem run (w : World) : HandSHeadRun.RunEq R (PySem.W.view R.prog [89]) hk ob 12000 loose w := by
  intro os
  kernel_rfl
end K08

set_option maxRecDepth 100000
set_option maxHeartbeats 0
open PySem PySem.W PySem.Calls PyProof.Rows
set_option maxRecDepth 100000 in
set_option maxHeartbeats 8000000 in
theorem K08.fin_of (F : ∀ (w : World) (K : PySem.W.Frag) (h : Heap) (mg : PySem.Str → Option Value) (f : Addr), K.In h → h.Ns mainGlobals mg → mg ("law" : PySem.Str) = some (.ref f) → He.SaysX K08.fa K08.fn [] K08.tf K08.exB w h K → LamX.LawAtS PySem.Challenge.rw_formkin_k08_books_written w K (L2N.CX (PySem.Challenge.rw_formkin_k08_books_written).prog w) 12 63 "_law_script" mg f h) : PySem.Challenge.rw_formkin_k08_books_written.Holds := by
  w_on; o_law
  refine HandSHeadRun.head_any (r := OpenLaw.row PySem.Challenge.rw_formkin_k08_books_written) (q := view (OpenLaw.row PySem.Challenge.rw_formkin_k08_books_written).prog [89]) (H := K08.hk) (ob := K08.ob) (M := 12000) (loose := K08.loose) (d := HandSHeadRun.topDef (OpenLaw.row PySem.Challenge.rw_formkin_k08_books_written).prog 89) (kwd := []) K08.ob_eq
    (by kernel_rfl) (fun s => by kernel_rfl) K08.run (by kernel_rfl) (by kernel_rfl) (by kernel_rfl) (by rfl) (by first | assumption | decide +kernel) (by decide +kernel) ⟨rfl, rfl, rfl, rfl, rfl, by decide +kernel⟩ ?hw ?hc
  case hw => w_witness2
  case hc =>
    refine LamX.walk_ofTsE (l := PySem.Challenge.rw_formkin_k08_books_written) (n := 63) (k := 12) (x := "_law_script") (CX := fun w => L2N.CX (PySem.Challenge.rw_formkin_k08_books_written).prog w) rfl (by decide) (by kernel_rfl) ⟨rfl, by decide, by decide⟩ ?F ?C
    case C =>
      intro w H s e s' hc
      obtain ⟨_, _, _, _, _, _, _, _, _, _, _, _, z⟩ := hc
      exact z
    case F =>
      intro w mg fa h Y G hmg0
      obtain ⟨K, KX, c⟩ := Y
      have hmg : mg ("law" : PySem.Str) = some (.ref fa) := by
        have e : (HandSHeadRun.topDef (OpenLaw.row PySem.Challenge.rw_formkin_k08_books_written).prog 89).name = ("law" : PySem.Str) := by kernel_rfl
        rw [← e]
        exact hmg0
      exact ⟨K, KX, F w K h mg fa KX G hmg c⟩

set_option maxRecDepth 100000
set_option maxHeartbeats 4000000
namespace Z
open PySem PySem.Spec PyProof.Rows L2
open Evl (Ex)
theorem ifd {p : Prop} [Decidable p] {A B : Prop} (h1 : p → A) (h2 : ¬ p → B) : if decide p = true then A else B := by
  by_cases h : p
  · rw [if_pos (decide_eq_true h)]; exact h1 h
  · rw [if_neg (by rw [decide_eq_false h]; exact Bool.false_ne_true)]; exact h2 h
theorem ifnd {p : Prop} [Decidable p] {A B : Prop} (h1 : ¬ p → A) (h2 : p → B) : if (!decide p) = true then A else B := by
  by_cases h : p
  · rw [if_neg (by rw [decide_eq_true h]; exact Bool.false_ne_true)]; exact h2 h
  · rw [if_pos (by rw [decide_eq_false h]; rfl)]; exact h1 h
theorem ifb {k : Bool} {A B : Prop} (h1 : k = true → A) (h2 : k = false → B) : if k = true then A else B := by
  cases k with
  | true => rw [if_pos rfl]; exact h1 rfl
  | false => rw [if_neg Bool.false_ne_true]; exact h2 rfl
theorem ifT {A B : Prop} (h : A) : if true = true then A else B := by rw [if_pos rfl]; exact h
theorem ifF {A B : Prop} (h : B) : if false = true then A else B := by rw [if_neg Bool.false_ne_true]; exact h
section
variable {X : Cx} {σ : St} {H : Hp} {e : Expr} {Q : VK}
/-- a test whose answer is told ahead -/
theorem tcut {Q : Bool → Hp → Prop} (k : Bool) (h : wT X e σ H fun k' H' => k' = k ∧ H' = H) (q : Q k H) : wT X e σ H Q := h.imp fun v H' ⟨a, b⟩ => by rw [a, b]; exact q
theorem ecut (v : V) (h : wE X e σ H fun v' H' => v' = v ∧ H' = H) (q : Q v H) : wE X e σ H Q := h.imp fun v' H' ⟨a, b⟩ => by rw [a, b]; exact q
end
/-! ### built-ins by name -/
theorem bt_len : bootBuiltins "len" = some (.builtin "len") := by decide +kernel
theorem bt_isi : bootBuiltins "isinstance" = some (.builtin "isinstance") := by decide +kernel
theorem bt_min : bootBuiltins "min" = some (.builtin "min") := by decide +kernel
theorem bt_max : bootBuiltins "max" = some (.builtin "max") := by decide +kernel
theorem bt_abs : bootBuiltins "abs" = some (.builtin "abs") := by decide +kernel
theorem bt_all : bootBuiltins "all" = some (.builtin "all") := by decide +kernel
theorem bt_sum : bootBuiltins "sum" = some (.builtin "sum") := by decide +kernel
theorem bt_ord : bootBuiltins "ord" = some (.builtin "ord") := by decide +kernel
theorem bt_divmod : bootBuiltins "divmod" = some (.builtin "divmod") := by decide +kernel
theorem bt_sorted : bootBuiltins "sorted" = some (.builtin "sorted") := by decide +kernel
theorem bt_list : bootBuiltins "list" = some (.type "list") := by decide +kernel
theorem bt_tuple : bootBuiltins "tuple" = some (.type "tuple") := by decide +kernel
theorem bt_int : bootBuiltins "int" = some (.type "int") := by decide +kernel
theorem bt_bool : bootBuiltins "bool" = some (.type "bool") := by decide +kernel
theorem bt_str : bootBuiltins "str" = some (.type "str") := by decide +kernel
theorem bt_dict : bootBuiltins "dict" = some (.type "dict") := by decide +kernel
theorem bt_ValueError : bootBuiltins "ValueError" = some (.type "ValueError") := by decide +kernel
/-! ### heaps -/
theorem exl {K : PySem.W.Frag} {H H' : Hp} {a : Addr} {xs : List V} (h : SqL K H a xs) (e : Ex H H') : SqL K H' a xs := Evl.ex_l e h
theorem ext {K : PySem.W.Frag} {H H' : Hp} {a : Addr} {xs : List V} (h : SqT K H a xs) (e : Ex H H') : SqT K H' a xs := Evl.ex_t e h
theorem exa {H H' : Hp} {a : Addr} {o : HO} (h : H a = some o) (e : Ex H H') : H' a = some o := e a o h
theorem Ex.lst {H H' : Hp} (e : Ex H H') {a : Addr} {o : HO} (h : H a = some o) : H' a = some o := e a o h
theorem Ex.sq {K : PySem.W.Frag} {H H' : Hp} (e : Ex H H') {a : Addr} {xs : List V} (h : SqL K H a xs ∨ SqT K H a xs) : SqL K H' a xs ∨ SqT K H' a xs := h.elim (fun h => .inl (Evl.ex_l e h)) fun h => .inr (Evl.ex_t e h)
mutual
theorem Dp.ex {K : PySem.W.Frag} {H H' : Hp} (e : Ex H H') : ∀ {v : V} {d : PyData}, Dp K H v d → Dp K H' v d
  | _, _, .non => .non
  | _, _, .bl b => .bl b
  | _, _, .int i => .int i
  | _, _, .str x => .str x
  | _, _, .lst h a => .lst (Evl.ex_l e h) (DpAll.ex e a)
  | _, _, .tup h a => .tup (Evl.ex_t e h) (DpAll.ex e a)
theorem DpAll.ex {K : PySem.W.Frag} {H H' : Hp} (e : Ex H H') : ∀ {vs : List V} {ds : List PyData}, DpAll K H vs ds → DpAll K H' vs ds
  | _, _, .nil => .nil
  | _, _, .cons a b => .cons (Dp.ex e a) (DpAll.ex e b)
end
theorem DpAll.ints {K : PySem.W.Frag} {H : Hp} : ∀ ns : List Int, DpAll K H (ns.map V.int) (ns.map PyData.int)
  | [] => .nil
  | _ :: ns => .cons (.int _) (DpAll.ints ns)
theorem Dp.ints {K : PySem.W.Frag} {H : Hp} {a : Addr} {ns : List Int} (h : SqL K H a (ns.map V.int)) : Dp K H (.ref a) (.list (ns.map PyData.int)) := .lst h (DpAll.ints ns)
section
variable {X : Cx} {σ : St} {H : Hp} {e : Expr} {Q : VK} {D : Ends} {pos pos' : Pos}
/-- a class of the module as a value -/
theorem zcls {x : Str} {C : Addr} (hm : X.mg x = some (.ref C)) (hg : Gl X x) (h : Q (.ref C) H) (hd : (x == ("__debug__" : Str)) = false := by decide) : wE X (.Name x pos) σ H Q := ofE (pe_glob (v := .ref C) hg hm rfl hd) h
theorem zty {x : Str} {T : String} (hm : X.mg x = none) (hv : bootBuiltins x = some (.type T)) (hg : Gl X x) (h : Q (.ty T) H) (hn : x ≠ "__name__" := by decide) (hd : (x == ("__debug__" : Str)) = false := by decide) : wE X (.Name x pos) σ H Q := ofE (pe_bltn (v := .ty T) hg hm hv rfl hn hd) h
/-- name = e, the slot reckoned -/
theorem sset' {x : Str} (hN : X.N.Nodup) (hi : X.N[slotOf X.N x]? = some x) (hx : Loc X.env.scope x) (hs : swapsWith e (some (.Name x pos')) pos.line X.env = pure false) (hf : X.fn x = true ∨ X.env.scope.names.lookup x = some .local) (h : wE X e σ H fun v H1 => D.nx (σ.set (slotOf X.N x) (some v)) H1) : wS X (.Assign [.Name x pos'] e pos) D σ H :=
  sset (slotOf X.N x) hN h hi hx hs hf
theorem saug' {x : Str} {op : Operator} {v : V} (hN : X.N.Nodup) (hi : X.N[slotOf X.N x]? = some x) (hx : Loc X.env.scope x) (hf : X.fn x = true ∨ X.env.scope.names.lookup x = some .local) (hv : σ[slotOf X.N x]? = some (some v)) (h : wE X e σ H fun y H1 => wO X (inplaceOp op) v y H1 fun z H2 => D.nx (σ.set (slotOf X.N x) (some z)) H2) : wS X (.AugAssign (.Name x pos') op e pos) D σ H :=
  saug (slotOf X.N x) hN hv h hi hx hf
theorem gname' {x : Str} {v : V} {Q : St → Hp → Prop} (hN : X.N.Nodup) (hi : X.N[slotOf X.N x]? = some x) (hx : Loc X.env.scope x) (hf : X.fn x = true ∨ X.env.scope.names.lookup x = some .local) (h : Q (σ.set (slotOf X.N x) (some v)) H) : wG X (.Name x pos) v σ H Q := gname (slotOf X.N x) hN h hi hx hf
end
theorem Xd.exx {H H' : Hp} {dd : Option Addr} (h : Xd dd H) (e : Ex H H') : Xd dd H' := fun d q => by obtain ⟨fs, hf⟩ := h d q; exact ⟨fs, e d _ hf⟩
/-- tuples of a word and a truth each -/
inductive TupsAt (H : Hp) : List V → List (Str × Bool) → Prop
  | nil : TupsAt H [] []
  | cons {t : Addr} {w : Str} {b : Bool} {xs : List V} {ps : List (Str × Bool)} : H t = some (.tup [.str w, .bl b]) → TupsAt H xs ps → TupsAt H (.ref t :: xs) ((w, b) :: ps)
theorem TupsAt.length {H : Hp} : ∀ {xs : List V} {ps : List (Str × Bool)}, TupsAt H xs ps → xs.length = ps.length
  | _, _, .nil => rfl
  | _, _, .cons _ t => by rw [List.length_cons, List.length_cons, t.length]
theorem TupsAt.get {H : Hp} : ∀ {xs : List V} {ps : List (Str × Bool)} {i : Nat} {x : V}, TupsAt H xs ps → xs[i]? = some x → ∃ t p, x = .ref t ∧ ps[i]? = some p ∧ H t = some (.tup [.str p.1, .bl p.2])
  | _, _, _, _, .nil, h => by simp at h
  | _, _, 0, _, .cons r _, h => by simp at h; exact ⟨_, _, h.symm, rfl, r⟩
  | _, _, i + 1, _, .cons _ t, h => by obtain ⟨a, p, e1, e2, e3⟩ := t.get (i := i) (by simpa using h); exact ⟨a, p, e1, by simpa using e2, e3⟩
/-- the words whose truth is so -/
def kept (ps : List (Str × Bool)) : List V := (ps.filter (·.2)).map fun p => V.str p.1
theorem kept_succ {ps : List (Str × Bool)} {i : Nat} {p : Str × Bool} (h : ps[i]? = some p) : kept (ps.take (i + 1)) = kept (ps.take i) ++ (if p.2 = true then [V.str p.1] else []) := by
  obtain ⟨hl, rfl⟩ := List.getElem?_eq_some_iff.mp h
  rw [List.take_add_one, List.getElem?_eq_getElem hl]
  unfold kept
  rw [List.filter_append, List.map_append]
  cases e : (ps[i]).2 with
  | true => simp [e]
  | false => simp [e]
/-! ### the end of a law row: its promise, the bits of its script told -/
theorem walk_bits {l : PySem.W.OpenLaw} {n k : Nat} {q : Program} {loose : List Str} {XP : (Str → Option Value) → Heap → Prop} {YP : World → Heap → Prop} {d : DefRec} {x : Str} (hn : l.most = some n) (hn2 : n ≤ sizeLine) (hdf : d.params.defaults = []) (hr : Room k callerA)
    (F : ∀ (w : World) (mg : Str → Option Value) (fa : Addr) (h : Heap), YP w h → h.Ns mainGlobals mg → mg d.name = some (.ref fa) →
      ∃ (K : PySem.W.Frag) (fd : FuncData) (sp : Sp), K.In h ∧ (∀ (s : Shared) (u : Value), BindsTo s fd ⟨[u], []⟩ [(x, u)]) ∧
        (∀ (H : Hp) (a : Addr) (ns : List Int), ns.length ≤ n → (∀ z ∈ ns, Builtin.Int.intBits z ≤ 1048576) → Only H → SqL K H a (ns.map V.int) → sp [.ref a] H (fun v _ => v = .bl true) fun _ _ _ => False) ∧
        ∀ base : Heap, K.In base → base.Ns mainGlobals mg → FnOk l.prog w K mg base (L2N.CX l.prog w) k fa fd [x] sp) : PySem.W.WalkO q loose XP YP l.row.toRowW d [] (fun f vs => PySem.call f vs) := by
  refine Att.attach_callB hn hdf fun w s₀ s₁ mg mb fa o pm cd doc a vs ns G Y ho hd hcd hmg hobj hints hlen hbits hg => ?_
  obtain ⟨K, fd, sp, KX, hb, hsp, hF⟩ := F w mg fa _ Y G.T.g hmg
  refine law_call KX G.T.g G.T.b G.T.builtins G.T.nolimit hg hobj hints (Nat.le_trans hlen hn2) hr hF hb (fun H hO hS => hsp H a ns hlen hbits hO hS) fun H e s' hc => ?_
  obtain ⟨_, _, _, _, _, _, _, _, _, _, _, _, z⟩ := hc
  exact z
end Z

set_option maxRecDepth 100000
set_option maxHeartbeats 4000000
namespace Z
open PySem PySem.Spec PyProof.Rows L2
open Evl (Ex)
/-- a statement, then the rest, from what the statement leaves -/
theorem bcut {X : Cx} {st : Stmt} {sts : List Stmt} {D : Ends} {σ : St} {H : Hp} (R : St → Hp → Prop) (h : wS X st { D with nx := R } σ H) (q : ∀ σ' H', R σ' H' → wB X sts D σ' H') : wB X (st :: sts) D σ H :=
  bcons (h.imp q (fun _ _ z => z) (fun _ _ z => z) fun _ _ z => z)
theorem takesF {X : Cx} : L2N.Takes X (fun _ _ _ _ => False) := fun _ _ ⟨_, _, _, _, _, _, _, _, _, _, _, _, _, _, _, _, z⟩ => z.elim
/-! ### comprehensions -/
theorem wipe_get {σ : St} {k : Nat} : ∀ {vs : List Nat}, (wipe σ vs)[k]? = if k ∈ vs then (σ[k]?).map (fun _ => none) else σ[k]?
  | [] => by simp [wipe]
  | v :: vs => by
    unfold wipe
    rw [List.getElem?_set]
    by_cases e : v = k
    · subst e
      simp only [if_true, List.mem_cons, true_or, wipe_length]
      by_cases hl : v < σ.length
      · rw [if_pos hl, List.getElem?_eq_getElem hl]; rfl
      · rw [if_neg hl, List.getElem?_eq_none (by omega)]; rfl
    · rw [if_neg e, wipe_get]
      simp only [List.mem_cons, show ¬ k = v from fun z => e z.symm, false_or]
theorem wipe_set {σ : St} {i : Nat} {x : Option V} {vs : List Nat} (hi : i ∈ vs) : wipe ((wipe σ vs).set i x) vs = wipe σ vs := by
  refine List.ext_getElem? fun k => ?_
  rw [wipe_get]
  by_cases hk : k ∈ vs
  · rw [if_pos hk, List.getElem?_set]
    by_cases e : i = k
    · subst e
      rw [if_pos rfl, wipe_length, wipe_get, if_pos hk]
      by_cases hl : i < σ.length
      · rw [if_pos hl, List.getElem?_eq_getElem hl]; rfl
      · rw [if_neg hl, List.getElem?_eq_none (by omega)]
    · rw [if_neg e, wipe_get, if_pos hk]
      cases σ[k]? <;> rfl
  · rw [if_neg hk, List.getElem?_set, if_neg (fun e => hk (by rw [← e]; exact hi)), wipe_get, if_neg hk]
/-- tests of a clause -/
structure wTs (X : Cx) (ifs : List Expr) (σ : St) (H : Hp) (Q : Bool → Hp → Prop) : Prop where
  run : ∃ t : TT, PTs X ifs t ∧ t σ H Q
theorem sTs {X : Cx} {ifs : List Expr} : PTs X ifs (wTs X ifs) := ⟨fun pins s σ H Q I ⟨t, h, q⟩ => h.run pins s σ H Q I q⟩
section
variable {X : Cx} {σ : St} {H : Hp} {c : Expr} {Q : Bool → Hp → Prop}
theorem tsnil (h : Q true H) : wTs X [] σ H Q := ⟨_, pts_nil, h⟩
theorem tsone (h : wT X c σ H Q) : wTs X [c] σ H Q := ⟨_, pts_one sT, h⟩
end
/-- pieces of a block, in whatever block it is -/
structure bG (X : Cx) (scope : Scope) (tg : Expr) (v : V) (σ : St) (H : Hp) (Q : St → Hp → Prop) : Prop where
  run : ∀ (s : Shared) (H0 : Hp) (C : Addr) (cl : List (Str × Addr)) (fp : List Addr), wG (X.blk s H0 scope (compEnvC scope cl C X.env) fp) tg v σ H Q
structure bTs (X : Cx) (scope : Scope) (ifs : List Expr) (σ : St) (H : Hp) (Q : Bool → Hp → Prop) : Prop where
  run : ∀ (s : Shared) (H0 : Hp) (C : Addr) (cl : List (Str × Addr)) (fp : List Addr), wTs (X.blk s H0 scope (compEnvC scope cl C X.env) fp) ifs σ H Q
structure bE (X : Cx) (scope : Scope) (e : Expr) (σ : St) (H : Hp) (Q : VK) : Prop where
  run : ∀ (s : Shared) (H0 : Hp) (C : Addr) (cl : List (Str × Addr)) (fp : List Addr), wE (X.blk s H0 scope (compEnvC scope cl C X.env) fp) e σ H Q
structure hG (X : Cx) (scope : Scope) (tg : Expr) (v : V) (σ : St) (H : Hp) (Q : St → Hp → Prop) : Prop where
  run : ∀ (s : Shared) (H0 : Hp) (C : Addr) (cl : List (Str × Addr)) (fp : List Addr), wG (blkH X s H0 scope (compEnvC scope cl C X.env) fp) tg v σ H Q
structure hTs (X : Cx) (scope : Scope) (ifs : List Expr) (σ : St) (H : Hp) (Q : Bool → Hp → Prop) : Prop where
  run : ∀ (s : Shared) (H0 : Hp) (C : Addr) (cl : List (Str × Addr)) (fp : List Addr), wTs (blkH X s H0 scope (compEnvC scope cl C X.env) fp) ifs σ H Q
structure hE (X : Cx) (scope : Scope) (e : Expr) (σ : St) (H : Hp) (Q : VK) : Prop where
  run : ∀ (s : Shared) (H0 : Hp) (C : Addr) (cl : List (Str × Addr)) (fp : List Addr), wE (blkH X s H0 scope (compEnvC scope cl C X.env) fp) e σ H Q
section
variable {X : Cx} {σ : St} {H : Hp} {elt tg l a b : Expr} {ifs : List Expr} {scope : Scope} {own : List (Str × Nat)} {pos pos' spos p : Pos} {Q : VK} {wi : TI} {D : Ends}
theorem zlc (hc : X.calm = true) (hN : X.N.Nodup) (own : List (Str × Nat)) (ok : BlkOk X.N X.env.scope scope own) (hi : PI X tg l wi)
    (h : tLc wi (bG X scope tg) (bTs X scope ifs) (bE X scope elt) (own.map (·.2)) σ H Q) (hs : ∀ x, foldedSetIterable l X.env x = pure x := by intro _; rfl) : wE X (.ListComp elt [⟨tg, l, ifs, 0⟩] scope pos) σ H Q :=
  ofE (pe_lc hc hN hi ok (fun s H C cl fp => ⟨fun pins s' σ H' v u Q I r h => (h.run s H C cl fp).run pins s' u I r⟩) (fun s H C cl fp => ⟨fun pins s' σ H' Q I h => sTs.run pins s' σ H' Q I (h.run s H C cl fp)⟩) (fun s H C cl fp => ⟨fun pins s' σ H' Q I h => (h.run s H C cl fp).run pins s' I⟩) hs) h
theorem slc {i : Nat} {y : Str} {py : Pos} (hc : X.calm = true) (hN : X.N.Nodup) (hy : X.N[i]? = some y) (hyl : X.env.scope.names.lookup y = some .local) (own : List (Str × Nat)) (ok : BlkOk X.N X.env.scope scope own) (hi : PI X tg l wi)
    (hsw : swapsWith (.ListComp elt [⟨tg, l, ifs, 0⟩] scope pos) (some (.Name y py)) spos.line X.env = pure true)
    (h : tLc wi (bG X scope tg) (bTs X scope ifs) (bE X scope elt) (own.map (·.2)) σ H (fun x H1 => D.nx (σ.set i (some x)) H1)) (hs : ∀ x, foldedSetIterable l X.env x = pure x := by intro _; rfl) : wS X (.Assign [.Name y py] (.ListComp elt [⟨tg, l, ifs, 0⟩] scope pos) spos) D σ H :=
  ofS (ps_setLc hc hN hy hyl hsw hi ok (fun s H C cl fp => ⟨fun pins s' σ H' v u Q I r h => (h.run s H C cl fp).run pins s' u I r⟩) (fun s H C cl fp => ⟨fun pins s' σ H' Q I h => sTs.run pins s' σ H' Q I (h.run s H C cl fp)⟩) (fun s H C cl fp => ⟨fun pins s' σ H' Q I h => (h.run s H C cl fp).run pins s' I⟩) hs) h
/-- the last clause of a comprehension's turn: L the new list, Nx what the turn is to reach -/
abbrev turnB (X : Cx) (scope : Scope) (tg : Expr) (ifs : List Expr) (elt : Expr) (vs : List Nat) (L : Addr) (x : V) (σ : St) (H : Hp) (Nx : Hp → Prop) : Prop :=
  bG X scope tg x (wipe σ vs) H fun σ2 H2 => wipe σ2 vs = wipe σ vs ∧ bTs X scope ifs σ2 H2 fun b H3 => if b = true then bE X scope elt σ2 H3 fun y H4 => ∃ acc, H4 L = some (.lst acc) ∧ acc.length < sizeLine ∧ Nx (upd H4 L (.lst (acc ++ [y]))) else Nx H3
theorem piR1 (hm : X.mg "range" = none) (hg : Gl X "range") (hsa : starEach [a] X.env = [(false, eval a X.env)] := by rfl) : PI X tg (.Call (.Name "range" p) [a] [] pos) (iRng1 (wA X [a])) := pi_range1 hg hm sA hsa
theorem piR2 (hm : X.mg "range" = none) (hg : Gl X "range") (hsa : starEach [a, b] X.env = [(false, eval a X.env), (false, eval b X.env)] := by rfl) (hsb : starEach [b] X.env = [(false, eval b X.env)] := by rfl) : PI X tg (.Call (.Name "range" p) [a, b] [] pos) (iRng2 (wA X [a, b])) := pi_range2 hg hm sA hsa hsb
theorem piL : PI X tg l (iList X.K (wE X l)) := pi_list sE
theorem piT : PI X tg l (iTup X.K (wE X l)) := pi_tup sE
theorem tlR1 {n : Int} {vs : List Nat} (Pv : Addr → Nat → Hp → Prop)
    (h : wA X [a] σ H fun x H1 => x = [.int n] ∧ n < 2 ^ 62 ∧ -(2 ^ 62) ≤ n ∧ ∀ L, H1 L = none → Pv L 0 (upd H1 L (.lst [])) ∧ (∀ (j : Nat) H', (j : Int) < n → Pv L j H' → turnB X scope tg ifs elt vs L (.int (j : Int)) σ H' (Pv L (j + 1))) ∧ ∀ H', Pv L n.toNat H' → Q (.ref L) H') :
    tLc (iRng1 (wA X [a])) (bG X scope tg) (bTs X scope ifs) (bE X scope elt) vs σ H Q :=
  ⟨fun ps pins s I => thn (h.run ps pins s I) fun us s' ⟨x, H1, J, r, e, h1, h2, q⟩ => ⟨x, H1, J, r, n, e, h2, h1, fun L hL => by
    obtain ⟨q1, q2, q3⟩ := q L hL
    exact lc_range (Pv L) q1 (fun i H' hi hP => by rw [Int.zero_add]; exact q2 i H' (by omega) hP) q3⟩⟩
theorem tlR2 {m n : Int} {vs : List Nat} (Pv : Addr → Nat → Hp → Prop)
    (h : wA X [a, b] σ H fun x H1 => x = [.int m, .int n] ∧ (-(2 ^ 62) ≤ m ∧ m < 2 ^ 62 ∧ -(2 ^ 62) ≤ n ∧ n < 2 ^ 62) ∧ ∀ L, H1 L = none → Pv L 0 (upd H1 L (.lst [])) ∧ (∀ (j : Nat) H', m + (j : Int) < n → Pv L j H' → turnB X scope tg ifs elt vs L (.int (m + (j : Int))) σ H' (Pv L (j + 1))) ∧ ∀ H', Pv L (n - m).toNat H' → Q (.ref L) H') :
    tLc (iRng2 (wA X [a, b])) (bG X scope tg) (bTs X scope ifs) (bE X scope elt) vs σ H Q :=
  ⟨fun ps pins s I => thn (h.run ps pins s I) fun us s' ⟨x, H1, J, r, e, h1, q⟩ => ⟨x, H1, J, r, m, n, e, h1, fun L hL => by
    obtain ⟨q1, q2, q3⟩ := q L hL
    exact lc_range (Pv L) q1 (fun i H' hi hP => q2 i H' (by omega) hP) q3⟩⟩
theorem tlL {xs : List V} {vs : List Nat} (Pv : Addr → Nat → Hp → Prop)
    (h : wE X l σ H fun x H1 => ∃ r, x = .ref r ∧ SqL X.K H1 r xs ∧ ∀ L, H1 L = none → Pv L 0 (upd H1 L (.lst [])) ∧ (∀ j H', j ≤ xs.length → Pv L j H' → SqL X.K H' r xs) ∧ (∀ j x H', xs[j]? = some x → Pv L j H' → turnB X scope tg ifs elt vs L x σ H' (Pv L (j + 1))) ∧ ∀ H', Pv L xs.length H' → Q (.ref L) H') :
    tLc (iList X.K (wE X l)) (bG X scope tg) (bTs X scope ifs) (bE X scope elt) vs σ H Q :=
  ⟨fun pins s I => thn (h.run pins s I) fun u s1 ⟨x, H1, I1, r, a, ex, hq, k⟩ => ⟨x, H1, I1, r, a, ex, ⟨xs, hq⟩, fun L hL => by
    obtain ⟨k0, k1, k2, k3⟩ := k L hL
    exact lc_list (Pv L) k0 k1 k2 k3⟩⟩
theorem tlT {xs : List V} {vs : List Nat} (Pv : Addr → Nat → Hp → Prop)
    (h : wE X l σ H fun x H1 => ∃ r, x = .ref r ∧ SqT X.K H1 r xs ∧ ∀ L, H1 L = none → Pv L 0 (upd H1 L (.lst [])) ∧ (∀ j H', j ≤ xs.length → Pv L j H' → SqT X.K H' r xs) ∧ (∀ j x H', xs[j]? = some x → Pv L j H' → turnB X scope tg ifs elt vs L x σ H' (Pv L (j + 1))) ∧ ∀ H', Pv L xs.length H' → Q (.ref L) H') :
    tLc (iTup X.K (wE X l)) (bG X scope tg) (bTs X scope ifs) (bE X scope elt) vs σ H Q :=
  ⟨fun pins s I => thn (h.run pins s I) fun u s1 ⟨x, H1, I1, r, a, ex, hq, k⟩ => ⟨x, H1, I1, r, a, ex, ⟨xs, hq⟩, fun L hL => by
    obtain ⟨k0, k1, k2, k3⟩ := k L hL
    exact lc_tup (Pv L) k0 k1 k2 k3⟩⟩
/-- what a turn must show where the list is told ahead: acc j after j turns -/
abbrev turnA (X : Cx) (scope : Scope) (tg : Expr) (ifs : List Expr) (elt : Expr) (vs : List Nat) (acc : Nat → List V) (j : Nat) (x : V) (σ : St) (H : Hp) : Prop :=
  bG X scope tg x (wipe σ vs) H fun σ2 H2 => wipe σ2 vs = wipe σ vs ∧ Ex H H2 ∧ bTs X scope ifs σ2 H2 fun b H3 => if b = true then bE X scope elt σ2 H3 fun y H4 => acc (j + 1) = acc j ++ [y] ∧ (acc j).length < sizeLine ∧ Ex H H4 else acc (j + 1) = acc j ∧ Ex H H3
theorem bG.imp {v : V} {Q Q' : St → Hp → Prop} (h : bG X scope tg v σ H Q) (q : ∀ σ' H', Q σ' H' → Q' σ' H') : bG X scope tg v σ H Q' :=
  ⟨fun s H0 C cl fp => ⟨fun pins s' u I r => thn ((h.run s H0 C cl fp).run pins s' u I r) fun _ s'' ⟨σ', H', J, z⟩ => ⟨σ', H', J, q _ _ z⟩⟩⟩
theorem bE.imp {Q Q' : VK} (h : bE X scope elt σ H Q) (q : ∀ σ' H', Q σ' H' → Q' σ' H') : bE X scope elt σ H Q' := ⟨fun s H0 C cl fp => (h.run s H0 C cl fp).imp q⟩
theorem bTs.imp {Q Q' : Bool → Hp → Prop} (h : bTs X scope ifs σ H Q) (q : ∀ σ' H', Q σ' H' → Q' σ' H') : bTs X scope ifs σ H Q' :=
  ⟨fun s H0 C cl fp => ⟨_, ⟨fun pins s' σ0 H1 R I (h2 : ∃ (_ : σ0 = σ) (_ : H1 = H), ∀ a b, Q' a b → R a b) => by
    obtain ⟨rfl, rfl, h2⟩ := h2
    exact thn (sTs.run pins s' _ _ Q I (h.run s H0 C cl fp)) fun u s'' ⟨H', J, z⟩ => ⟨H', J, h2 _ _ (q _ _ z)⟩⟩, rfl, rfl, fun _ _ z => z⟩⟩
theorem turn_of {acc : Nat → List V} {j : Nat} {x : V} {vs : List Nat} {L : Addr} {H1 : Hp} (hL : H1 L = none) (hd : Ex H1 H) (hacc : H L = some (.lst (acc j))) (h : turnA X scope tg ifs elt vs acc j x σ H) :
    turnB X scope tg ifs elt vs L x σ H fun H' => Ex H1 H' ∧ H' L = some (.lst (acc (j + 1))) := by
  refine bG.imp h fun σ2 H2 ⟨w, e2, q⟩ => ⟨w, q.imp fun b H3 q3 => ?_⟩
  cases b with
  | false =>
    rw [if_neg Bool.false_ne_true] at q3 ⊢
    exact ⟨hd.trans q3.2, by rw [q3.1]; exact q3.2 _ _ hacc⟩
  | true =>
    rw [if_pos rfl] at q3 ⊢
    refine q3.imp fun y H4 ⟨ea, hs, e4⟩ => ⟨acc j, e4 _ _ hacc, hs, fun b o e => ?_, by rw [ea]; exact upd_same⟩
    have n : b ≠ L := fun z => by rw [z, hL] at e; cases e
    rw [upd_ne n]
    exact e4 _ _ (hd _ _ e)
theorem tmR1 {n : Int} {vs : List Nat} (acc : Nat → List V) (h0 : acc 0 = [])
    (h : wA X [a] σ H fun x H1 => x = [.int n] ∧ n < 2 ^ 62 ∧ -(2 ^ 62) ≤ n ∧ (∀ (j : Nat) H', (j : Int) < n → Ex H1 H' → turnA X scope tg ifs elt vs acc j (.int (j : Int)) σ H') ∧ ∀ L H', H1 L = none → Ex H1 H' → H' L = some (.lst (acc n.toNat)) → Q (.ref L) H') :
    tLc (iRng1 (wA X [a])) (bG X scope tg) (bTs X scope ifs) (bE X scope elt) vs σ H Q :=
  ⟨fun ps pins s I => thn (h.run ps pins s I) fun us s' ⟨x, H1, J, r, e, h1, h2, q2, q3⟩ => ⟨x, H1, J, r, n, e, h2, h1, fun L hL =>
    lc_range (fun j H' => Ex H1 H' ∧ H' L = some (.lst (acc j))) ⟨Ex.new hL, by rw [h0]; exact upd_same⟩ (fun i H' hi hP => by rw [Int.zero_add]; exact turn_of hL hP.1 hP.2 (q2 i H' (by omega) hP.1)) fun H' z => q3 L H' hL z.1 z.2⟩⟩
theorem tmR2 {m n : Int} {vs : List Nat} (acc : Nat → List V) (h0 : acc 0 = [])
    (h : wA X [a, b] σ H fun x H1 => x = [.int m, .int n] ∧ (-(2 ^ 62) ≤ m ∧ m < 2 ^ 62 ∧ -(2 ^ 62) ≤ n ∧ n < 2 ^ 62) ∧ (∀ (j : Nat) H', m + (j : Int) < n → Ex H1 H' → turnA X scope tg ifs elt vs acc j (.int (m + (j : Int))) σ H') ∧ ∀ L H', H1 L = none → Ex H1 H' → H' L = some (.lst (acc (n - m).toNat)) → Q (.ref L) H') :
    tLc (iRng2 (wA X [a, b])) (bG X scope tg) (bTs X scope ifs) (bE X scope elt) vs σ H Q :=
  ⟨fun ps pins s I => thn (h.run ps pins s I) fun us s' ⟨x, H1, J, r, e, h1, q2, q3⟩ => ⟨x, H1, J, r, m, n, e, h1, fun L hL =>
    lc_range (fun j H' => Ex H1 H' ∧ H' L = some (.lst (acc j))) ⟨Ex.new hL, by rw [h0]; exact upd_same⟩ (fun i H' hi hP => turn_of hL hP.1 hP.2 (q2 i H' (by omega) hP.1)) fun H' z => q3 L H' hL z.1 z.2⟩⟩
theorem tmL {xs : List V} {vs : List Nat} (acc : Nat → List V) (h0 : acc 0 = [])
    (h : wE X l σ H fun x H1 => ∃ r, x = .ref r ∧ SqL X.K H1 r xs ∧ (∀ j x H', xs[j]? = some x → Ex H1 H' → turnA X scope tg ifs elt vs acc j x σ H') ∧ ∀ L H', H1 L = none → Ex H1 H' → H' L = some (.lst (acc xs.length)) → Q (.ref L) H') :
    tLc (iList X.K (wE X l)) (bG X scope tg) (bTs X scope ifs) (bE X scope elt) vs σ H Q :=
  ⟨fun pins s I => thn (h.run pins s I) fun u s1 ⟨x, H1, I1, r, p, ex, hq, q2, q3⟩ => ⟨x, H1, I1, r, p, ex, ⟨xs, hq⟩, fun L hL =>
    lc_list (fun j H' => Ex H1 H' ∧ H' L = some (.lst (acc j))) ⟨Ex.new hL, by rw [h0]; exact upd_same⟩ (fun i H' _ z => Evl.ex_l z.1 hq) (fun i x H' hx hP => turn_of hL hP.1 hP.2 (q2 i x H' hx hP.1)) fun H' z => q3 L H' hL z.1 z.2⟩⟩
theorem tmT {xs : List V} {vs : List Nat} (acc : Nat → List V) (h0 : acc 0 = [])
    (h : wE X l σ H fun x H1 => ∃ r, x = .ref r ∧ SqT X.K H1 r xs ∧ (∀ j x H', xs[j]? = some x → Ex H1 H' → turnA X scope tg ifs elt vs acc j x σ H') ∧ ∀ L H', H1 L = none → Ex H1 H' → H' L = some (.lst (acc xs.length)) → Q (.ref L) H') :
    tLc (iTup X.K (wE X l)) (bG X scope tg) (bTs X scope ifs) (bE X scope elt) vs σ H Q :=
  ⟨fun pins s I => thn (h.run pins s I) fun u s1 ⟨x, H1, I1, r, p, ex, hq, q2, q3⟩ => ⟨x, H1, I1, r, p, ex, ⟨xs, hq⟩, fun L hL =>
    lc_tup (fun j H' => Ex H1 H' ∧ H' L = some (.lst (acc j))) ⟨Ex.new hL, by rw [h0]; exact upd_same⟩ (fun i H' _ z => Evl.ex_t z.1 hq) (fun i x H' hx hP => turn_of hL hP.1 hP.2 (q2 i x H' hx hP.1)) fun H' z => q3 L H' hL z.1 z.2⟩⟩
/-! ### where an exception is handled -/
abbrev turnH (X : Cx) (scope : Scope) (tg : Expr) (ifs : List Expr) (elt : Expr) (vs : List Nat) (acc : Nat → List V) (j : Nat) (x : V) (σ : St) (H : Hp) : Prop :=
  hG X scope tg x (wipe σ vs) H fun σ2 H2 => wipe σ2 vs = wipe σ vs ∧ Ex H H2 ∧ hTs X scope ifs σ2 H2 fun b H3 => if b = true then hE X scope elt σ2 H3 fun y H4 => acc (j + 1) = acc j ++ [y] ∧ (acc j).length < sizeLine ∧ Ex H H4 else acc (j + 1) = acc j ∧ Ex H H3
theorem hG.imp {v : V} {Q Q' : St → Hp → Prop} (h : hG X scope tg v σ H Q) (q : ∀ σ' H', Q σ' H' → Q' σ' H') : hG X scope tg v σ H Q' :=
  ⟨fun s H0 C cl fp => ⟨fun pins s' u I r => thn ((h.run s H0 C cl fp).run pins s' u I r) fun _ s'' ⟨σ', H', J, z⟩ => ⟨σ', H', J, q _ _ z⟩⟩⟩
theorem hE.imp {Q Q' : VK} (h : hE X scope elt σ H Q) (q : ∀ σ' H', Q σ' H' → Q' σ' H') : hE X scope elt σ H Q' := ⟨fun s H0 C cl fp => (h.run s H0 C cl fp).imp q⟩
theorem hTs.imp {Q Q' : Bool → Hp → Prop} (h : hTs X scope ifs σ H Q) (q : ∀ σ' H', Q σ' H' → Q' σ' H') : hTs X scope ifs σ H Q' :=
  ⟨fun s H0 C cl fp => ⟨_, ⟨fun pins s' σ0 H1 R I (h2 : ∃ (_ : σ0 = σ) (_ : H1 = H), ∀ a b, Q' a b → R a b) => by
    obtain ⟨rfl, rfl, h2⟩ := h2
    exact thn (sTs.run pins s' _ _ Q I (h.run s H0 C cl fp)) fun u s'' ⟨H', J, z⟩ => ⟨H', J, h2 _ _ (q _ _ z)⟩⟩, rfl, rfl, fun _ _ z => z⟩⟩
theorem turn_ofH {acc : Nat → List V} {j : Nat} {x : V} {vs : List Nat} {L : Addr} {H1 : Hp} (hL : H1 L = none) (hd : Ex H1 H) (hacc : H L = some (.lst (acc j))) (h : turnH X scope tg ifs elt vs acc j x σ H) :
    hG X scope tg x (wipe σ vs) H fun σ2 H2 => wipe σ2 vs = wipe σ vs ∧ hTs X scope ifs σ2 H2 fun b H3 => if b = true then hE X scope elt σ2 H3 fun y H4 => ∃ acc', H4 L = some (.lst acc') ∧ acc'.length < sizeLine ∧ (Ex H1 (upd H4 L (.lst (acc' ++ [y]))) ∧ upd H4 L (.lst (acc' ++ [y])) L = some (.lst (acc (j + 1)))) else Ex H1 H3 ∧ H3 L = some (.lst (acc (j + 1))) := by
  refine hG.imp h fun σ2 H2 ⟨w, e2, q⟩ => ⟨w, q.imp fun b H3 q3 => ?_⟩
  cases b with
  | false =>
    rw [if_neg Bool.false_ne_true] at q3 ⊢
    exact ⟨hd.trans q3.2, by rw [q3.1]; exact q3.2 _ _ hacc⟩
  | true =>
    rw [if_pos rfl] at q3 ⊢
    refine q3.imp fun y H4 ⟨ea, hs, e4⟩ => ⟨acc j, e4 _ _ hacc, hs, fun b o e => ?_, by rw [ea]; exact upd_same⟩
    have n : b ≠ L := fun z => by rw [z, hL] at e; cases e
    rw [upd_ne n]
    exact e4 _ _ (hd _ _ e)
theorem slcA {i : Nat} {y : Str} {py : Pos} {xs : List V} {q : Addr × Obj} {cls : Value} {d : Option Addr} (hx : HX X q cls d) (hN : X.N.Nodup) (hy : X.N[i]? = some y) (hyl : X.env.scope.names.lookup y = some .local) (own : List (Str × Nat))
    (ok : BlkOk X.N X.env.scope scope own) (hsw : swapsWith (.ListComp elt [⟨tg, l, ifs, 0⟩] scope pos) (some (.Name y py)) spos.line X.env = pure true) (acc : Nat → List V) (h0 : acc 0 = [])
    (h : wE X l σ H fun x H1 => ∃ r, x = .ref r ∧ SqL X.K H1 r xs ∧ (∀ j x H', xs[j]? = some x → Ex H1 H' → turnH X scope tg ifs elt (own.map (·.2)) acc j x σ H') ∧ ∀ L H', H1 L = none → Ex H1 H' → H' L = some (.lst (acc xs.length)) → D.nx (σ.set i (some (.ref L))) H')
    (hs : ∀ x, foldedSetIterable l X.env x = pure x := by intro _; rfl) : wS X (.Assign [.Name y py] (.ListComp elt [⟨tg, l, ifs, 0⟩] scope pos) spos) D σ H := by
  refine slcH (g := hG X scope tg) (tt := hTs X scope ifs) (te := hE X scope elt) hx hN hy hyl hsw ok pi_listH (fun s H C cl fp => ⟨⟨fun pins s' σ H' v u Q I r h => (h.run s H C cl fp).run pins s' u I r⟩, ⟨fun pins s' σ H' Q I h => sTs.run pins s' σ H' Q I (h.run s H C cl fp)⟩, ⟨fun pins s' σ H' Q I h => (h.run s H C cl fp).run pins s' I⟩⟩) ?_ hs
  refine ⟨fun pins s I => thn (h.run pins s I) fun u s1 ⟨x, H1, I1, r, p, ex, hq, q2, q3⟩ => ⟨x, H1, I1, r, p, ex, ⟨xs, hq⟩, fun L hL =>
    lc_list (fun j H' => Ex H1 H' ∧ H' L = some (.lst (acc j))) ⟨Ex.new hL, by rw [h0]; exact upd_same⟩ (fun i H' _ z => Evl.ex_l z.1 hq) (fun i x H' hx hP => turn_ofH hL hP.1 hP.2 (q2 i x H' hx hP.1)) fun H' z => q3 L H' hL z.1 z.2⟩⟩
end
end Z

set_option maxRecDepth 100000
set_option maxHeartbeats 4000000
namespace Z
open PySem PySem.Spec PyProof.Rows L2
open Evl (Ex)
section
variable {X : Cx} {σ : St} {H : Hp} {a b c : Expr} {pos : Pos} {Q : VK}
/-! ### more steps -/
theorem zchain {op op' : CmpOp} (h : wE X a σ H fun x H1 => wE X b σ H1 fun y H2 => wO X (compareOp op) x y H2 fun z H3 => ∃ k, z = .bl k ∧ (if k = true then wE X c σ H3 fun v H4 => wO X (compareOp op') y v H4 Q else Q (.bl false) H3))
    (hm : lastMarks [op, op'] [b, c] = false := by with_unfolding_all rfl) : wE X (.Compare a [op, op'] [b, c] pos) σ H Q := ofE (pe_chain sO sO sE sE sE hm) h
theorem zchainT {op op' : CmpOp} {Q : Bool → Hp → Prop} (h : wE X a σ H fun x H1 => wE X b σ H1 fun y H2 => wO X (compareOp op) x y H2 fun z H3 => ∃ k, z = .bl k ∧ (if k = true then wE X c σ H3 fun v H4 => wO X (compareOp op') y v H4 fun u H5 => ∃ k, u = .bl k ∧ Q k H5 else ∃ k', V.bl false = .bl k' ∧ Q k' H3))
    (hm : lastMarks [op, op'] [b, c] = false := by with_unfolding_all rfl) : wT X (.Compare a [op, op'] [b, c] pos) σ H Q := ofT (pt_chain sO sO sE sE sE hm) h
theorem zneg (h : wE X a σ H fun x H1 => ∃ i, x = .int i ∧ Q (.int (-i)) H1) : wE X (.UnaryOp .USub a pos) σ H Q := ofE (pe_un un_neg sE) h
/-- {} -/
theorem zdnew (h : ∀ p H2, H p = none → Ex H H2 → H2 p = some (.dK []) → Q (.ref p) H2) : wE X (.Dict [] [] pos) σ H Q := ofE pe_dnewK fun p hp => h p _ hp (Ex.new hp) upd_same
end
/-- an exception of a class without an own __init__, made with a text -/
theorem mplain {X : Cx} {σ : St} {H : Hp} {x m : Str} {j : Nat} {C : Addr} {p p2 pos : Pos} {Q : XK} (e : PySem.W.excIn X.K C He.veBase "ValueError.__new__" = true ∧ PySem.W.keepIn X.K (.ref C) = true ∧ PySem.W.subIn X.K (.ref C) (.type "BaseException") = some true ∧ PySem.W.typeIn X.K (.ref C) = some (.type "type"))
    (gC : X.mg x = some (.ref C)) (hg : Gl X x) (h : Q (.ref C) none H) (hdb : (x == ("__debug__" : Str)) = false := by decide) : wM X (.Call (.Name x p) [.Constant (.str m) j p2] [] pos) σ H Q :=
  mown F.excBase_ValueError e.1 gC e.2.1 (raises_own e.2.2.1 e.2.2.2) hg h hdb
theorem Ex.past {H H' : Hp} {L : Addr} {o : HO} (h : Ex H H') (hL : H L = none) : Ex H (upd H' L o) := fun b z e => by
  rw [upd_ne (fun q => by rw [q, hL] at e; cases e)]
  exact h b z e
/-- an item of a display of numbers -/
theorem atN {ns : List Int} {k : Int} (h0 : 0 ≤ k) (h : k < (ns.length : Int)) : ∃ v ∈ ns, atI (ns.map V.int) k = some (.int v) := by
  obtain ⟨j, rfl⟩ : ∃ j : Nat, k = (j : Int) := ⟨k.toNat, by omega⟩
  have hl : j < ns.length := by omega
  exact ⟨ns[j], List.getElem_mem _, atI_nat (by rw [List.getElem?_map, List.getElem?_eq_getElem hl]; rfl)⟩
/-- a list of numbers put together by turns -/
def accM (f : Nat → Int) (j : Nat) : List V := ((List.range j).map f).map V.int
theorem accM_succ (f : Nat → Int) (j : Nat) : accM f (j + 1) = accM f j ++ [.int (f j)] := by unfold accM; rw [List.range_succ]; simp
theorem accM_len (f : Nat → Int) (j : Nat) : (accM f j).length = j := by unfold accM; simp
/-- two lists of the same numbers are not unlike -/
theorem same_ne {X : Cx} {H : Hp} {Q : VK} {j : Nat} {t u : Addr} {xs : List Int} (hr : Room j X.A) (ht : SqL X.K H t (xs.map V.int)) (hu : SqL X.K H u (xs.map V.int)) (q : Q (.bl false) H) : wO X (compareOp .NotEq) (.ref t) (.ref u) H Q :=
  oneD hr (Dp.ints ht) (Dp.ints hu) (PySem.W.ke_shaped_ints xs) (PySem.W.ke_shaped_ints xs) (by rw [SeqAt.eqv_refl _ (SeqAt.canLay_of_shaped (PySem.W.ke_shaped_ints xs))]; exact q)
/-- .. data of any shape -/
theorem data_ne {X : Cx} {H : Hp} {Q : VK} {j : Nat} {t u : V} {d : PyData} (hr : Room j X.A) (ht : Dp X.K H t d) (hu : Dp X.K H u d) (hs : SeqAt.shaped d = true) (q : Q (.bl false) H) : wO X (compareOp .NotEq) t u H Q :=
  oneD hr ht hu hs hs (by rw [SeqAt.eqv_refl _ (SeqAt.canLay_of_shaped hs)]; exact q)
theorem data_eq {X : Cx} {H : Hp} {Q : VK} {j : Nat} {t u : V} {d : PyData} (hr : Room j X.A) (ht : Dp X.K H t d) (hu : Dp X.K H u d) (hs : SeqAt.shaped d = true) (q : Q (.bl true) H) : wO X (compareOp .Eq) t u H Q :=
  oeqD hr ht hu hs hs (by rw [SeqAt.eqv_refl _ (SeqAt.canLay_of_shaped hs)]; exact q)
/-- for over a list that the body leaves as it is, the invariant told behind the list -/
theorem lforE {X : Cx} {σ : St} {H : Hp} {tg l : Expr} {body : List Stmt} {pos : Pos} {D : Ends} (hp : PassesOwn (model X.prog X.w) X.A X.env X.xe) (hc : X.calm = true)
    (h : wE X l σ H fun x H1 => ∃ (a : Addr) (xs : List V), x = .ref a ∧ (SqL X.K H1 a xs ∧ True) ∧ ∃ Pv : Nat → St → Hp → Prop, Pv 0 σ H1 ∧ (∀ i σ H, i ≤ xs.length → Pv i σ H → SqL X.K H a xs) ∧
      (∀ i x σ H, xs[i]? = some x → Pv i σ H → wG X tg x σ H fun σ2 H2 => wB X body { D with nx := Pv (i + 1), ct := Pv (i + 1), bk := D.nx } σ2 H2) ∧ ∀ σ H, Pv xs.length σ H → D.nx σ H)
    (hs : ∀ x, foldedSetIterable l X.env x = pure x := by intro _; rfl) : wS X (.For tg l body [] pos) D σ H :=
  lfor hp hc (pi_list sE) ⟨fun pins s I => thn (h.run pins s I) fun u s1 ⟨x, H1, I1, r, a, xs, ex, ⟨hq, _⟩, Pv, h0, hl, ht, hd⟩ => ⟨x, H1, I1, r, a, ex, ⟨xs, hq⟩, for_list Pv h0 hl ht hd⟩⟩ hs
/-! ### kinds -/
/-- a thing of no whole number's kind (bool among them) -/
def NotWhole (K : PySem.W.Frag) (H : Hp) (v : V) : Prop := ∃ (t : Value) (k1 k2 : Bool), TyX K H v t ∧ PySem.W.kitOne K t (.type "int") = some k1 ∧ PySem.W.kitOne K t (.type "bool") = some k2 ∧ (k1 && !k2) = false
theorem nw_bl {K : PySem.W.Frag} {H : Hp} (b : Bool) : NotWhole K H (.bl b) := ⟨_, true, true, .base (.bl b), kit_ty rfl, kit_ty rfl, rfl⟩
theorem nw_non {K : PySem.W.Frag} {H : Hp} : NotWhole K H .non := ⟨_, false, false, .base .non, kit_ty rfl, kit_ty rfl, rfl⟩
theorem nw_str {K : PySem.W.Frag} {H : Hp} (x : Str) : NotWhole K H (.str x) := ⟨_, false, false, .base (.str x), kit_ty rfl, kit_ty rfl, rfl⟩
theorem nw_lst {K : PySem.W.Frag} {H : Hp} {a : Addr} {xs : List V} (h : H a = some (.lst xs)) : NotWhole K H (.ref a) := ⟨_, false, false, .base (.lst h), kit_ty rfl, kit_ty rfl, rfl⟩
theorem nw_tup {K : PySem.W.Frag} {H : Hp} {a : Addr} {xs : List V} (h : H a = some (.tup xs)) : NotWhole K H (.ref a) := ⟨_, false, false, .base (.tup h), kit_ty rfl, kit_ty rfl, rfl⟩
theorem nw_dK {K : PySem.W.Frag} {H : Hp} {a : Addr} {kvs : List (Key × V)} (h : H a = some (.dK kvs)) : NotWhole K H (.ref a) := ⟨_, false, false, .base (.dK h), kit_ty rfl, kit_ty rfl, rfl⟩
/-- whether a thing is a whole number from lo to hi -/
inductive Asked (K : PySem.W.Frag) (H : Hp) (lo hi : Int) : V → Bool → Prop
  | int (n : Int) : Asked K H lo hi (.int n) (decide (lo ≤ n ∧ n ≤ hi))
  | odd {v : V} (h : NotWhole K H v) : Asked K H lo hi v false
end Z

set_option maxRecDepth 100000
set_option maxHeartbeats 4000000
namespace Z
open PySem PySem.Spec PyProof.Rows L2
open Evl (Ex)
/-! ### enumerate of a text -/
def Ites (x : Str) : It :=
  ⟨fun i _ => i < x.cps.size, fun i H v H' => ∃ T c, x.cps[i]? = some c ∧ v = .ref T ∧ H T = none ∧ H' = upd H T (.tup [.int (i : Nat), .str ⟨#[c]⟩]), fun i _ => i = x.cps.size⟩
theorem turn_enumS {P : Program} {w : World} {K : PySem.W.Frag} {elts : List Expr} {kk : Nat} {tpos : Pos} (x : Str) (t : Tok) (ty : String) (hty : ty = "str_ascii_iterator" ∨ ty = "str_iterator") (e it : Addr) :
    Turn P w K (.Tuple elts kk tpos) (Ites x) [e, it] e (fun i h => (∃ old, IsEnum h e it ((i : Nat) : Int) old) ∧ h.IsStrIter it ty x t i ∧ e ≠ it) where
  mem := List.mem_cons_self
  obj := fun i h ⟨⟨old, he⟩, ⟨o, ho, hc, hd⟩, _⟩ b hb => by
    rcases List.mem_cons.mp hb with rfl | z
    · exact ⟨_, he, fun v q => nomatch q⟩
    · rw [List.mem_singleton.mp z]; exact ⟨o, ho, fun v q => by rw [hd] at q; cases q⟩
  keep := fun i h h' ⟨⟨old, he⟩, ⟨o, ho, r⟩, hne⟩ k => ⟨⟨old, k e List.mem_cons_self _ he⟩, ⟨o, k it (List.mem_cons_of_mem _ List.mem_cons_self) o ho, r⟩, hne⟩
  item := fun X hP hw hK hc i pins s σ H E I hf st hg => by
    subst hP hw hK
    obtain ⟨⟨old, he⟩, hit, hne⟩ := st
    have D : Draws X.prog X.w X.A.in1 it [it] x.cps.size (SignAt x) (fun i h => h.IsStrIter it ty x t i) := by
      rcases hty with q | q
      · rw [q]; exact Draws.strAscii (A := X.A.in1) (I.ok.hd hc) it x t
      · rw [q]; exact Draws.strWide (A := X.A.in1) (I.ok.hd hc) it x t
    have hel : e < s.heap.objs.size := Heap.lt_size he
    have hil : it < s.heap.objs.size := by obtain ⟨_, q, _⟩ := hit; exact Heap.lt_size q
    refine wpAny_pyNext_enum_itemD D he hit hg hne (by simpa using hne) fun y h' tk hy ho hit' hT hsz hk => ?_
    obtain ⟨c, u, hcx, rfl⟩ := hy
    refine ⟨_, rfl, wpAny_letOwnedTupleGo_enum (s := { s with heap := h', toks := tk + 1 }) ho fun h'' he' sb => ?_⟩
    have hT2 : h''.get? s.heap.objs.size = some { cls := .type "tuple", data := .seq #[.int i tk, .str ⟨#[c]⟩ u] } := (sb.2 _ (Nat.ne_of_gt hel)).trans hT
    have new : ObjOk X.prog X.w (upd H s.heap.objs.size (.tup [.int (i : Nat), .str ⟨#[c]⟩])) h'' s.heap.objs.size (.tup [.int (i : Nat), .str ⟨#[c]⟩]) :=
      ⟨by show 2 ≤ sizeLine; decide, [.int i tk, .str ⟨#[c]⟩ u], .cons ⟨_, rfl⟩ (.cons ⟨_, rfl⟩ .nil), ⟨_, hT2, rfl, _, rfl⟩⟩
    have I1 : Inv X pins σ (upd H s.heap.objs.size (.tup [.int (i : Nat), .str ⟨#[c]⟩])) { s with heap := h'', toks := tk + 1 } :=
      I.turnedNew (ch := [e, it]) (fun b ob hb q => (sb.2 b (fun z => hb (by simp [z]))).trans (hk b ob (fun z => hb (by simp [z])) (fun z => hb (by simp [z])) q)) hf (Nat.le_refl _) new
    refine ⟨.ref s.heap.objs.size, _, I1, rfl, ⟨_, c, hcx, rfl, I.hok.fresh (Nat.le_refl _), rfl⟩, ⟨⟨.str ⟨#[c]⟩ u, ?_⟩, ?_, hne⟩, fun b hb => ?_⟩
    · rw [show ((i + 1 : Nat) : Int) = (i : Int) + 1 from by omega]; exact he'
    · obtain ⟨o, q, r⟩ := hit'
      exact ⟨o, (sb.2 it (Ne.symm hne)).trans q, r⟩
    · have hb' : b < s.heap.objs.size := by
        rcases List.mem_cons.mp hb with rfl | z
        · exact hel
        · rw [List.mem_singleton.mp z]; exact hil
      rw [upd_ne (Nat.ne_of_lt hb')]
      exact (hf b hb).1
  done := fun X hP hw hK hc i pins s σ H E I hf st hg => by
    subst hP hw hK
    obtain ⟨⟨old, he⟩, hit, hne⟩ := st
    obtain ⟨f0, f1, f2, f3, f4, f5⟩ := hf it (List.mem_cons_of_mem _ List.mem_cons_self)
    have D : Draws X.prog X.w X.A.in1 it [it] x.cps.size (SignAt x) (fun i h => h.IsStrIter it ty x t i) := by
      rcases hty with q | q
      · rw [q]; exact Draws.strAscii (A := X.A.in1) (I.ok.hd hc) it x t
      · rw [q]; exact Draws.strWide (A := X.A.in1) (I.ok.hd hc) it x t
    have hi : i = x.cps.size := hg
    subst hi
    exact wpAny_pyNext_enum_endD D he hit fun h' eb => ⟨rfl, I.turned (t' := s.toks) (fun b o hb q => eb b o hb q) f0 f1 f3 f4 f5⟩
  self := fun A i s Q E ⟨⟨_, he⟩, _⟩ h => wpAny_pyIter_enum he h
def iEnumS (ta : TA) : TI := fun σ H R => ta σ H fun vs H1 => ∃ x, vs = [.str x] ∧ R (Ites x) H1
section
variable {X : Cx} {σ : St} {H : Hp} {e o : Expr} {es : List Expr} {pos p apos p2 tpos : Pos} {Q : VK} {D : Ends} {kk : Nat} {elts : List Expr}
theorem pi_enumS (hm : X.mg "enumerate" = none) (hg : Gl X "enumerate") (hs : starEach [e] X.env = [(false, eval e X.env)] := by rfl) : PI X (.Tuple elts kk tpos) (.Call (.Name "enumerate" p) [e] [] pos) (iEnumS (wA X [e])) := by
  refine ⟨fun pins s σ H R I h => ?_⟩
  refine Call_ (ld_blt I hg hm boot_enumerate (PyProof.Rows.callWith_type1 (thn (h.run pos pins s I) fun us s1 ⟨vs, H1, I1, r1, x, ex, q⟩ => ?_) hs rfl))
  subst ex
  cases r1 with
  | cons r rr =>
    cases rr
    obtain ⟨t, rfl⟩ := r
    refine call_enumerate_str fun h' he hit hsz hk => wpAny_pyIter_enum he ?_
    have I2 : Inv X pins σ H1 { s1 with heap := h' } := I1.kept (t' := s1.toks) hk
    refine ⟨s1.heap.objs.size + 1, [s1.heap.objs.size + 1, s1.heap.objs.size], _, _, H1, rfl, I2, turn_enumS x t (strIterType x) (by unfold strIterType; split <;> simp) (s1.heap.objs.size + 1) s1.heap.objs.size, ⟨⟨.none, he⟩, hit, Nat.succ_ne_self _⟩, fun b hb => ?_, q⟩
    have hle : s1.heap.objs.size ≤ b := by
      rcases List.mem_cons.mp hb with z | z
      · rw [z]; exact Nat.le_add_right _ _
      · rw [List.mem_singleton.mp z]; exact Nat.le_refl _
    exact I1.fpOk hle (I1.hok.fresh hle)
end
end Z

set_option maxRecDepth 100000
set_option maxHeartbeats 4000000
namespace Z
open PySem PySem.Spec PyProof.Rows L2
open Evl (Ex)
section
variable {X : Cx} {σ : St} {H : Hp} {a b c e o i tg l : Expr} {es : List Expr} {st : Stmt} {body : List Stmt} {pos pos' p p1 p2 apos tpos : Pos} {Q : VK} {D : Ends} {kk : Nat} {elts : List Expr}
/-! ### built-ins -/
theorem kisiT {x : V} {tp : Addr} {cs : List V} {t : Value} {us : List Value} {b : Bool} (hT : H tp = some (.tup cs)) (hp : Paired ClsV cs us) (ty : TyX X.K H x t) (hk : PySem.W.kitAny X.K t us = some b) (h : Q (.bl b) H) : wK X (.builtin "isinstance") [x, .ref tp] H Q :=
  ofK call_isiT ⟨x, tp, cs, t, us, b, rfl, hT, hp, ty, hk, h⟩
theorem kall {p : Addr} {bs : List Bool} (hc : X.calm = true) (hp : SqL X.K H p (bs.map V.bl)) (h : Q (.bl (bs.all id)) H) : wK X (.builtin "all") [.ref p] H Q := ofK (cr_all hc) ⟨p, bs, rfl, hp, h⟩
theorem ksum {p : Addr} {ns : List Int} (hc : X.calm = true) (hp : SqL X.K H p (ns.map V.int)) (h : Q (.int ns.sum) H) : wK X (.builtin "sum") [.ref p] H Q := ofK (cr_sum hc) ⟨p, ns, rfl, hp, h⟩
theorem kdivmod {m n : Int} (hc : CDiv m n) (h : ∀ p H2, H p = none → Ex H H2 → H2 p = some (.tup [.int (m / n), .int (m % n)]) → Q (.ref p) H2) : wK X (.builtin "divmod") [.int m, .int n] H Q :=
  ofK call_divmod ⟨m, n, rfl, hc, fun p hp => h p _ hp (Ex.new hp) upd_same⟩
theorem kabs {m : Int} (h : Q (.int (if m < 0 then -m else m)) H) : wK X (.builtin "abs") [.int m] H Q := ofK call_abs ⟨m, rfl, h⟩
theorem kord {x : Str} (hx : x.length = 1) (h : Q (.int (x.cps.getD 0 0 : Nat)) H) : wK X (.builtin "ord") [.str x] H Q := ofK call_ord ⟨x, rfl, hx, h⟩
theorem orep {p : Addr} {xs : List V} {k : Int} (hp : H p = some (.lst xs)) (h0 : -(2 ^ 63) ≤ k) (h1 : k < 2 ^ 63) (hz : xs.length * k.toNat ≤ sizeLine) (h : ∀ q H2, H q = none → Ex H H2 → H2 q = some (.lst (List.replicate k.toNat xs).flatten) → Q (.ref q) H2) : wO X (binaryOp .Mult) (.ref p) (.int k) H Q :=
  ofO op_rep ⟨p, k, xs, rfl, rfl, hp, h0, h1, hz, fun q hq => h q _ hq (Ex.new hq) upd_same⟩
theorem oin {n : Nat} {z : Str} (h : Q (.bl (decide (n ∈ z.cps.toList))) H) : wO X (compareOp .In) (.str ⟨#[n]⟩) (.str z) H Q := ofO op_in_sign ⟨n, z, rfl, rfl, h⟩
theorem onin {n : Nat} {z : Str} (h : Q (.bl (!decide (n ∈ z.cps.toList))) H) : wO X (compareOp .NotIn) (.str ⟨#[n]⟩) (.str z) H Q := ofO op_notIn_sign ⟨n, z, rfl, rfl, h⟩
/-! ### methods of a text -/
theorem zjoin (h : wE X o σ H fun x H1 => (∃ a, x = .str a) ∧ wE X e σ H1 fun y H2 => ∃ a p, ∃ ys : List Str, x = .str a ∧ y = .ref p ∧ (SqL X.K H2 p (ys.map V.str) ∨ SqT X.K H2 p (ys.map V.str)) ∧ (ys.map (·.length)).sum + ys.length * a.length ≤ 16777216 ∧ Q (.str (Txt.join a ys)) H2)
    (hs : starEach [e] X.env = [(false, eval e X.env)] := by rfl) (hbase : attributeBase o "join" X.env (eval o X.env) = eval o X.env := by rfl) (hline : (apos.endLine == pos.line) = true := by rfl) : wE X (.Call (.Attribute o "join" apos) [e] [] pos) σ H Q := by
  refine ofE (pe_join sE sE hs hbase hline) ⟨fun pins s I => thn (h.run pins s I) fun u s1 ⟨x, H1, I1, r1, hx, q⟩ => ⟨x, H1, I1, r1, hx, ⟨fun pins2 s2 J => thn (q.run pins2 s2 J) fun u2 s3 ⟨y, H2, I2, r2, a, p, ys, e1, e2, q2⟩ => ⟨y, H2, I2, r2, a, p, ys, e1, by rw [e2], q2⟩⟩⟩⟩
theorem zsindex (h : wE X o σ H fun x H1 => (∃ a, x = .str a) ∧ wE X e σ H1 fun y H2 => ∃ a b i rest, x = .str a ∧ y = .str b ∧ Builtin.Str.occurrences a b 0 a.length 1 = i :: rest ∧ Q (.int (i : Nat)) H2)
    (hs : starEach [e] X.env = [(false, eval e X.env)] := by rfl) (hbase : attributeBase o "index" X.env (eval o X.env) = eval o X.env := by rfl) (hline : (apos.endLine == pos.line) = true := by rfl) : wE X (.Call (.Attribute o "index" apos) [e] [] pos) σ H Q := by
  refine ofE (pe_m1 PySem.F.slot_str_index PySem.F.type_str_index mt_sindex sE sE hs hbase hline) ⟨fun pins s I => thn (h.run pins s I) fun u s1 ⟨x, H1, I1, r1, hx, q⟩ => ⟨x, H1, I1, r1, hx, ⟨fun pins2 s2 J => thn (q.run pins2 s2 J) fun u2 s3 ⟨y, H2, I2, r2, a, b, i, rest, e1, e2, q2⟩ => ⟨y, H2, I2, r2, a, b, i, rest, e1, by rw [e2], q2⟩⟩⟩⟩
/-! ### slices -/
structure wP (X : Cx) (e : Option Expr) (σ : St) (H : Hp) (Q : Option Int → Hp → Prop) : Prop where
  run : ∃ t : TO, PO X e t ∧ t σ H Q
structure wSl (X : Cx) (x : V) (lo hi : Option Int) (H : Hp) (Q : VK) : Prop where
  run : ∃ r : V → Option Int → Option Int → Hp → VK → Prop, SlR X r ∧ r x lo hi H Q
theorem sP {e : Option Expr} : PO X e (wP X e) := ⟨fun pins s σ H Q I ⟨t, h, q⟩ => h.run pins s σ H Q I q⟩
theorem pnon {Q : Option Int → Hp → Prop} (h : Q none H) : wP X none σ H Q := ⟨_, po_none, h⟩
theorem psom {Q : Option Int → Hp → Prop} (h : wE X e σ H fun x H1 => ∃ i, x = .int i ∧ Q (some i) H1) : wP X (some e) σ H Q := ⟨_, po_some sE, h⟩
theorem sSl : SlR X (wSl X) := fun pins s σ H x v vl vu lo hi sl Q I rx hs pl pu ⟨r, h, q⟩ => h pins s σ H x v vl vu lo hi sl Q I rx hs pl pu q
theorem zsl {lo hi : Option Expr} (h : wE X e σ H fun x H1 => wP X lo σ H1 fun l H2 => wP X hi σ H2 fun u H3 => wSl X x l u H3 Q) : wE X (.Subscript e (.Slice lo hi none p2) pos) σ H Q := ofE (pe_slice sSl sE sP sP) h
theorem slL {q : Addr} {xs : List V} {lo hi : Option Int} (hq : SqL X.K H q xs) (h : ∀ p H2, H p = none → Ex H H2 → H2 p = some (.lst (cutV xs lo hi)) → Q (.ref p) H2) : wSl X (.ref q) lo hi H Q := ⟨_, sl_list, q, xs, rfl, hq, fun p hp => h p _ hp (Ex.new hp) upd_same⟩
theorem slT {q : Addr} {xs : List V} {lo hi : Option Int} (hq : SqT X.K H q xs) (hw : ¬ (HT.sIx xs.length 0 lo = 0 ∧ HT.sIx xs.length xs.length hi = xs.length)) (h : ∀ p H2, H p = none → Ex H H2 → H2 p = some (.tup (cutV xs lo hi)) → Q (.ref p) H2) : wSl X (.ref q) lo hi H Q := ⟨_, sl_tup, q, xs, rfl, hq, hw, fun p hp => h p _ hp (Ex.new hp) upd_same⟩
theorem slS {z : Str} {lo hi : Option Int} (hz : z.length ≤ sizeLine) (h : Q (.str (cutS z lo hi)) H) : wSl X (.str z) lo hi H Q := ⟨_, sl_str, z, rfl, hz, h⟩
/-! ### o[i] = .. -/
structure wSe (X : Cx) (o i v : V) (H : Hp) (Q : Hp → Prop) : Prop where
  run : ∃ t : TSet, PSet X t ∧ t o i v H Q
theorem sSe : PSet X (wSe X) := fun pins s σ H o i v ov iv u Q I ro ri rv ⟨t, h, q⟩ => h pins s σ H o i v ov iv u Q I ro ri rv q
theorem gsub {v : V} {Q : St → Hp → Prop} (h : wE X o σ H fun x H1 => wE X i σ H1 fun y H2 => wSe X x y v H2 fun H3 => Q σ H3)
    (ha : ∀ v, assign (.Subscript o i pos) X.env v = (do
      let ov ← holding [v] (eval o X.env)
      let iv ← holding [v, ov] (eval i X.env)
      standAt pos
      holding [v, ov, iv] (setItem ov iv v)
      release [v, ov, iv] []) := by intro _; rfl) : wG X (.Subscript o i pos) v σ H Q := ofG (pg_sub sE sE sSe ha) h
theorem seL {q : Addr} {xs : List V} {k : Int} {j : Nat} {v : V} {Q : Hp → Prop} (hq : H q = some (.lst xs)) (hj : ixN xs.length k = some j) (h : Q (upd H q (.lst (xs.set j v)))) : wSe X (.ref q) (.int k) v H Q := ⟨_, set_list, q, xs, k, j, rfl, rfl, hq, hj, h⟩
/-! ### for over enumerate -/
theorem lforEn (hm : X.mg "enumerate" = none) (hp : PassesOwn (model X.prog X.w) X.A X.env X.xe) (hc : X.calm = true) (hg : Gl X "enumerate")
    (h : wA X [e] σ H fun vs H1 => ∃ (a : Addr) (xs : List V), vs = [.ref a] ∧ (SqL X.K H1 a xs ∧ True) ∧ ∃ Pv : Nat → St → Hp → Prop, Pv 0 σ H1 ∧ (∀ i σ H, i ≤ xs.length → Pv i σ H → SqL X.K H a xs) ∧
      (∀ i x σ H T H2, xs[i]? = some x → Pv i σ H → H T = none → Ex H H2 → H2 T = some (.tup [.int ((i : Nat) : Int), x]) → wG X (.Tuple elts kk tpos) (.ref T) σ H2 fun σ2 H2 => wB X body { D with nx := Pv (i + 1), ct := Pv (i + 1), bk := D.nx } σ2 H2) ∧ ∀ σ H, Pv xs.length σ H → D.nx σ H)
    (hs : ∀ x, foldedSetIterable (.Call (.Name "enumerate" p) [e] [] pos') X.env x = pure x := by intro _; rfl) (hsa : starEach [e] X.env = [(false, eval e X.env)] := by rfl) : wS X (.For (.Tuple elts kk tpos) (.Call (.Name "enumerate" p) [e] [] pos') body [] pos) D σ H := by
  refine lfor hp hc (pi_enum hg hm sA hsa) ⟨fun ps pins s I => thn (h.run ps pins s I) fun u s1 ⟨vs, H1, I1, r, a, xs, ex, ⟨hq, _⟩, Pv, h0, hl, ht, hd⟩ => ⟨vs, H1, I1, r, a, xs, ex, hq, ?_⟩⟩ hs
  refine ⟨fun i m σ H => m = xs.length - i ∧ i ≤ xs.length ∧ Pv i σ H, ⟨xs.length, by simp, Nat.zero_le _, h0⟩, ?_⟩
  rintro i m σ H ⟨rfl, hi, z⟩
  have q := hl i σ H hi z
  by_cases hlt : i < xs.length
  · refine .inr ⟨⟨xs, xs[i], q, by simp [hlt]⟩, Pv (i + 1), fun σ' H' p' => ⟨xs.length - (i + 1), by omega, rfl, hlt, p'⟩, ?_⟩
    rintro v H' ⟨T, x, rfl, hT, rfl, hx⟩
    exact ht i x σ H T _ (hx xs q) z hT (Ex.new hT) upd_same
  · have e : i = xs.length := by omega
    subst e
    exact .inl ⟨⟨xs, q, Nat.le_refl _⟩, hd σ H z⟩
theorem lforEnS (hm : X.mg "enumerate" = none) (hp : PassesOwn (model X.prog X.w) X.A X.env X.xe) (hc : X.calm = true) (hg : Gl X "enumerate") (Pv : Nat → St → Hp → Prop)
    (h : wA X [e] σ H fun vs H1 => ∃ x : Str, vs = [.str x] ∧ (True ∧ Pv 0 σ H1) ∧
      (∀ i c σ H T H2, x.cps[i]? = some c → Pv i σ H → H T = none → Ex H H2 → H2 T = some (.tup [.int ((i : Nat) : Int), .str ⟨#[c]⟩]) → wG X (.Tuple elts kk tpos) (.ref T) σ H2 fun σ2 H2 => wB X body { D with nx := Pv (i + 1), ct := Pv (i + 1), bk := D.nx } σ2 H2) ∧ ∀ σ H, Pv x.cps.size σ H → D.nx σ H)
    (hs : ∀ x, foldedSetIterable (.Call (.Name "enumerate" p) [e] [] pos') X.env x = pure x := by intro _; rfl) (hsa : starEach [e] X.env = [(false, eval e X.env)] := by rfl) : wS X (.For (.Tuple elts kk tpos) (.Call (.Name "enumerate" p) [e] [] pos') body [] pos) D σ H := by
  refine lfor hp hc (pi_enumS hm hg hsa) ⟨fun ps pins s I => thn (h.run ps pins s I) fun u s1 ⟨vs, H1, I1, r, x, ex, ⟨_, h0⟩, ht, hd⟩ => ⟨vs, H1, I1, r, x, ex, ?_⟩⟩ hs
  refine ⟨fun i m σ H => m = x.cps.size - i ∧ i ≤ x.cps.size ∧ Pv i σ H, ⟨x.cps.size, by simp, Nat.zero_le _, h0⟩, ?_⟩
  rintro i m σ H ⟨rfl, hi, z⟩
  by_cases hlt : i < x.cps.size
  · refine .inr ⟨hlt, Pv (i + 1), fun σ' H' p' => ⟨x.cps.size - (i + 1), by omega, rfl, hlt, p'⟩, ?_⟩
    rintro v H' ⟨T, c, hx, rfl, hT, rfl⟩
    exact ht i c σ H T _ hx z hT (Ex.new hT) upd_same
  · have e : i = x.cps.size := by omega
    subst e
    exact .inl ⟨rfl, hd σ H z⟩
/-! ### comprehensions over a range by steps, over a text -/
theorem piR3 (hm : X.mg "range" = none) (hg : Gl X "range") (hs : starEach [a, b, c] X.env = (false, eval a X.env) :: starEach [b, c] X.env := by rfl) (hpl : (backTo pos (starEach [b, c] X.env)).any (·.1) = false := by rfl) : PI X tg (.Call (.Name "range" p) [a, b, c] [] pos) (iRng3 (wA X [a, b, c])) := pi_range3 hg hm sA hs hpl
theorem piS : PI X tg l (iStr (wE X l)) := pi_str sE
variable {elt : Expr} {ifs : List Expr} {scope : Scope} {vs : List Nat}
theorem tmR3 {m n k : Int} {z : Nat} (acc : Nat → List V) (h0 : acc 0 = [])
    (h : wA X [a, b, c] σ H fun x H1 => x = [.int m, .int n, .int k] ∧ RgC m n k z ∧ (∀ (j : Nat) H', j < z → Ex H1 H' → turnA X scope tg ifs elt vs acc j (.int (m + (j : Int) * k)) σ H') ∧ ∀ L H', H1 L = none → Ex H1 H' → H' L = some (.lst (acc z)) → Q (.ref L) H') :
    tLc (iRng3 (wA X [a, b, c])) (bG X scope tg) (bTs X scope ifs) (bE X scope elt) vs σ H Q := by
  refine ⟨fun ps pins s I => thn (h.run ps pins s I) fun us s' ⟨x, H1, J, r, e, h1, q2, q3⟩ => ⟨x, H1, J, r, m, n, k, z, e, h1, fun L hL => ?_⟩⟩
  refine ⟨fun j d H' => d = z - j ∧ j ≤ z ∧ (Ex H1 H' ∧ H' L = some (.lst (acc j))), ⟨z, by simp, Nat.zero_le _, Ex.new hL, by rw [h0]; exact upd_same⟩, ?_⟩
  rintro j d H' ⟨rfl, hj, e1, e2⟩
  by_cases hlt : j < z
  · refine .inr ⟨hlt, fun H' => Ex H1 H' ∧ H' L = some (.lst (acc (j + 1))), fun H' p' => ⟨z - (j + 1), by omega, rfl, hlt, p'⟩, ?_⟩
    rintro x H2 ⟨rfl, rfl⟩
    exact turn_of hL e1 e2 (q2 j _ hlt e1)
  · have e : j = z := by omega
    subst e
    exact .inl ⟨Nat.le_refl _, q3 L H' hL e1 e2⟩
theorem tmS {x : Str} (acc : Nat → List V) (h0 : acc 0 = [])
    (h : wE X l σ H fun y H1 => y = .str x ∧ (∀ (j : Nat) c H', x.cps[j]? = some c → Ex H1 H' → turnA X scope tg ifs elt vs acc j (.str ⟨#[c]⟩) σ H') ∧ ∀ L H', H1 L = none → Ex H1 H' → H' L = some (.lst (acc x.cps.size)) → Q (.ref L) H') :
    tLc (iStr (wE X l)) (bG X scope tg) (bTs X scope ifs) (bE X scope elt) vs σ H Q := by
  refine ⟨fun pins s I => thn (h.run pins s I) fun us s' ⟨y, H1, J, r, e, q2, q3⟩ => ⟨y, H1, J, r, x, e, fun L hL => ?_⟩⟩
  refine ⟨fun j d H' => d = x.cps.size - j ∧ j ≤ x.cps.size ∧ (Ex H1 H' ∧ H' L = some (.lst (acc j))), ⟨x.cps.size, by simp, Nat.zero_le _, Ex.new hL, by rw [h0]; exact upd_same⟩, ?_⟩
  rintro j d H' ⟨rfl, hj, e1, e2⟩
  by_cases hlt : j < x.cps.size
  · refine .inr ⟨hlt, fun H' => Ex H1 H' ∧ H' L = some (.lst (acc (j + 1))), fun H' p' => ⟨x.cps.size - (j + 1), by omega, rfl, hlt, p'⟩, ?_⟩
    rintro y H2 ⟨rfl, c, hc, rfl⟩
    exact turn_of hL e1 e2 (q2 j c _ hc e1)
  · have e : j = x.cps.size := by omega
    subst e
    exact .inl ⟨Nat.le_refl _, q3 L H' hL e1 e2⟩
end
end Z

set_option maxRecDepth 100000
set_option maxHeartbeats 4000000
namespace Z
open PySem PySem.Spec PyProof.Rows L2
/-! ### the check of sixteen bits, byte by byte and bit by bit -/
/-- a turn of the program's -/
def pStep (f : Nat) : Nat := if f / 32768 = 1 then (f * 2 % 65536) ^^^ 4129 else f * 2 % 65536
/-- a turn of the law's: the k-th bit of b from above -/
def lStep (b f k : Nat) : Nat := if (f / 32768 + b / 2 ^ (7 - k)) % 2 = 1 then (f * 2 % 65536) ^^^ 4129 else f * 2 % 65536
def pTurns (f : Nat) : Nat → Nat
  | 0 => f
  | i + 1 => pStep (pTurns f i)
def lTurns (b f : Nat) : Nat → Nat
  | 0 => f
  | i + 1 => lStep b (lTurns b f i) i
theorem pStep_lt (f : Nat) : pStep f < 65536 := by
  unfold pStep
  have h : f * 2 % 65536 < 2 ^ 16 := Nat.mod_lt _ (by decide)
  split
  · exact Nat.xor_lt_two_pow h (by decide)
  · exact h
theorem lStep_lt (b f k : Nat) : lStep b f k < 65536 := by
  unfold lStep
  have h : f * 2 % 65536 < 2 ^ 16 := Nat.mod_lt _ (by decide)
  split
  · exact Nat.xor_lt_two_pow h (by decide)
  · exact h
theorem pTurns_lt {f : Nat} (h : f < 65536) : ∀ i, pTurns f i < 65536
  | 0 => h
  | i + 1 => pStep_lt _
theorem lTurns_lt {b f : Nat} (h : f < 65536) : ∀ i, lTurns b f i < 65536
  | 0 => h
  | i + 1 => lStep_lt _ _ _
theorem turns_eq {b f : Nat} (hb : b < 256) (hf : f < 65536) : ∀ i, i ≤ 8 → pTurns (f ^^^ (b * 256)) i = lTurns b f i ^^^ (b * 2 ^ (8 + i) % 65536)
  | 0, _ => by
    show f ^^^ (b * 256) = f ^^^ (b * 256 % 65536)
    rw [Nat.mod_eq_of_lt (by omega)]
  | i + 1, hi => by
    have ih := turns_eq hb hf i (by omega)
    have hL := lTurns_lt (b := b) hf i
    show pStep (pTurns (f ^^^ (b * 256)) i) = lStep b (lTurns b f i) i ^^^ _
    rw [ih]
    generalize hl : lTurns b f i = L at hL ⊢
    have hB : b * 2 ^ (8 + i) % 65536 < 65536 := Nat.mod_lt _ (by decide)
    have e1 : (b * 2 ^ (8 + i) % 65536) / 32768 = b / 2 ^ (7 - i) % 2 := by
      have : i = 0 ∨ i = 1 ∨ i = 2 ∨ i = 3 ∨ i = 4 ∨ i = 5 ∨ i = 6 ∨ i = 7 := by omega
      rcases this with rfl | rfl | rfl | rfl | rfl | rfl | rfl | rfl <;> simp only [Nat.reduceAdd, Nat.reduceSub, Nat.reducePow] <;> omega
    have e2 : (b * 2 ^ (8 + i) % 65536) * 2 % 65536 = b * 2 ^ (8 + (i + 1)) % 65536 := by
      rw [show 8 + (i + 1) = (8 + i) + 1 from by omega, Nat.pow_succ, ← Nat.mul_assoc]
      omega
    generalize b * 2 ^ (8 + i) % 65536 = B at hB e1 e2 ⊢
    have d : (L ^^^ B) / 32768 = (L / 32768) ^^^ (B / 32768) := by
      have := Nat.shiftRight_xor_distrib (a := L) (b := B) (i := 15)
      simpa [Nat.shiftRight_eq_div_pow] using this
    have m : (L ^^^ B) * 2 % 65536 = (L * 2 % 65536) ^^^ (B * 2 % 65536) := by
      have h1 := Nat.shiftLeft_xor_distrib (a := L) (b := B) (i := 1)
      have h2 := Nat.xor_mod_two_pow (a := L * 2) (b := B * 2) (n := 16)
      simp only [Nat.shiftLeft_eq, Nat.pow_one] at h1
      rw [h1]
      exact h2
    have c1 : L / 32768 = 0 ∨ L / 32768 = 1 := by omega
    have c2 : B / 32768 = 0 ∨ B / 32768 = 1 := by omega
    unfold pStep lStep
    rw [d, m, e2, Nat.add_mod, ← e1]
    rcases c1 with c1 | c1 <;> rcases c2 with c2 | c2 <;> rw [c1, c2]
    · rfl
    · show (_ ^^^ _) ^^^ 4129 = (_ ^^^ 4129) ^^^ _
      rw [Nat.xor_assoc, Nat.xor_comm _ 4129, ← Nat.xor_assoc]
    · show (_ ^^^ _) ^^^ 4129 = (_ ^^^ 4129) ^^^ _
      rw [Nat.xor_assoc, Nat.xor_comm _ 4129, ← Nat.xor_assoc]
    · rfl
/-- a byte taken in -/
def crcB (f b : Nat) : Nat := pTurns (f ^^^ (b * 256)) 8
theorem crcB_law {b f : Nat} (hb : b < 256) (hf : f < 65536) : lTurns b f 8 = crcB f b := by
  unfold crcB
  rw [turns_eq hb hf 8 (Nat.le_refl _)]
  rw [show b * 2 ^ (8 + 8) % 65536 = 0 from by omega, Nat.xor_zero]
theorem crcB_lt (f b : Nat) : crcB f b < 65536 := pStep_lt _
/-- the check of a row from f on -/
def crc (f : Nat) : List Int → Nat
  | [] => f
  | b :: r => crc (crcB f b.toNat) r
theorem crc_lt {f : Nat} (h : f < 65536) : ∀ xs : List Int, crc f xs < 65536
  | [] => h
  | b :: r => crc_lt (crcB_lt _ _) r
theorem crc_take {f : Nat} : ∀ {xs : List Int} {i : Nat} {b : Int}, xs[i]? = some b → crc f (xs.take (i + 1)) = crcB (crc f (xs.take i)) b.toNat
  | x :: xs, 0, b, h => by simp at h; subst h; rfl
  | x :: xs, i + 1, b, h => by
    have := crc_take (f := crcB f x.toNat) (xs := xs) (i := i) (b := b) (by simpa using h)
    exact this
theorem crc_app (f : Nat) : ∀ xs ys : List Int, crc f (xs ++ ys) = crc (crc f xs) ys
  | [], _ => rfl
  | x :: xs, ys => crc_app (crcB f x.toNat) xs ys
end Z
namespace Z
open PySem PySem.Spec PyProof.Rows L2
open Evl (Ex)
/-- a test whose answer is told ahead, the heap grown -/
theorem tcutE {X : Cx} {c : Expr} {σ : Z.St} {H : Hp} {Q : Bool → Hp → Prop} (k : Bool) (h : wT X c σ H fun k' H' => k' = k ∧ Ex H H') (q : ∀ H', Ex H H' → Q k H') : wT X c σ H Q := h.imp fun v H' ⟨a, b⟩ => by rw [a]; exact q H' b
theorem ecutE {X : Cx} {c : Expr} {σ : Z.St} {H : Hp} {Q : VK} (v : V) (h : wE X c σ H fun v' H' => v' = v ∧ Ex H H') (q : ∀ H', Ex H H' → Q v H') : wE X c σ H Q := h.imp fun v' H' ⟨a, b⟩ => by rw [a]; exact q H' b
/-! ### kinds stay -/
theorem TyOf.ex {K : PySem.W.Frag} {H H' : Hp} (e : Ex H H') {v : V} {t : Value} (h : TyOf K H v t) : TyOf K H' v t := by
  cases h with
  | non => exact .non
  | bl x => exact .bl x
  | int i => exact .int i
  | str x => exact .str x
  | flt x => exact .flt x
  | lst q => exact .lst (e _ _ q)
  | frz q => exact .frz (e _ _ q)
  | tup q => exact .tup (e _ _ q)
  | dK q => exact .dK (e _ _ q)
  | dT q => exact .dT (e _ _ q)
  | ins q c a b d f => exact .ins (e _ _ q) c a b d f
theorem TyX.ex {K : PySem.W.Frag} {H H' : Hp} (e : Ex H H') {v : V} {t : Value} (h : TyX K H v t) : TyX K H' v t := by
  cases h with
  | base q => exact .base (TyOf.ex e q)
  | byt b => exact .byt b
  | set q => exact .set (e _ _ q)
  | kList q c => exact .kList q c
  | kTuple q c => exact .kTuple q c
  | kDict q c => exact .kDict q c
  | fTuple q => exact .fTuple (e _ _ q)
  | fDict q => exact .fDict (e _ _ q)
theorem NotWhole.ex {K : PySem.W.Frag} {H H' : Hp} (e : Ex H H') {v : V} (h : NotWhole K H v) : NotWhole K H' v := by
  obtain ⟨t, k1, k2, a, b, c, d⟩ := h
  exact ⟨t, k1, k2, TyX.ex e a, b, c, d⟩
theorem Asked.ex {K : PySem.W.Frag} {H H' : Hp} (e : Ex H H') {lo hi : Int} {v : V} {b : Bool} (h : Asked K H lo hi v b) : Asked K H' lo hi v b := by
  cases h with
  | int n => exact .int n
  | odd q => exact .odd (NotWhole.ex e q)
/-- things asked one by one -/
inductive AskedAll (K : PySem.W.Frag) (H : Hp) (lo hi : Int) : List V → List Bool → Prop
  | nil : AskedAll K H lo hi [] []
  | cons {v : V} {b : Bool} {vs : List V} {bs : List Bool} : Asked K H lo hi v b → AskedAll K H lo hi vs bs → AskedAll K H lo hi (v :: vs) (b :: bs)
theorem AskedAll.length {K : PySem.W.Frag} {H : Hp} {lo hi : Int} : ∀ {vs : List V} {bs : List Bool}, AskedAll K H lo hi vs bs → vs.length = bs.length
  | _, _, .nil => rfl
  | _, _, .cons _ t => by rw [List.length_cons, List.length_cons, t.length]
theorem AskedAll.get {K : PySem.W.Frag} {H : Hp} {lo hi : Int} : ∀ {vs : List V} {bs : List Bool} {i : Nat} {v : V}, AskedAll K H lo hi vs bs → vs[i]? = some v → ∃ b, bs[i]? = some b ∧ Asked K H lo hi v b
  | _, _, 0, _, .cons a _, h => by simp at h; subst h; exact ⟨_, rfl, a⟩
  | _, _, i + 1, _, .cons _ t, h => by obtain ⟨b, h1, h2⟩ := t.get (i := i) (by simpa using h); exact ⟨b, by simpa using h1, h2⟩
theorem AskedAll.ints {K : PySem.W.Frag} {H : Hp} {lo hi : Int} : ∀ {ns : List Int}, (∀ n ∈ ns, lo ≤ n ∧ n ≤ hi) → AskedAll K H lo hi (ns.map V.int) (ns.map fun _ => true)
  | [], _ => .nil
  | n :: ns, h => .cons (by have := Asked.int (K := K) (H := H) (lo := lo) (hi := hi) n; rwa [decide_eq_true (h n List.mem_cons_self)] at this) (AskedAll.ints fun m hm => h m (List.mem_cons_of_mem _ hm))
/-- whether a thing is a row of bytes: a list or tuple, each of its items a whole number from 0 to 255 -/
inductive RowAsk (K : PySem.W.Frag) (H : Hp) : V → Bool → Prop
  | lst {l : Addr} {xs : List V} {bs : List Bool} (h : H l = some (.lst xs)) (a : AskedAll K H 0 255 xs bs) (hz : xs.length ≤ sizeLine) : RowAsk K H (.ref l) (bs.all id)
  | tup {l : Addr} {xs : List V} {bs : List Bool} (h : H l = some (.tup xs)) (a : AskedAll K H 0 255 xs bs) (hz : xs.length ≤ sizeLine) : RowAsk K H (.ref l) (bs.all id)
  | not {v : V} {t : Value} (ty : TyX K H v t) (k : PySem.W.kitAny K t [.type "list", .type "tuple"] = some false) : RowAsk K H v false
end Z

set_option maxRecDepth 100000
set_option maxHeartbeats 4000000
namespace Z
open PySem PySem.Spec PyProof.Rows L2
open Evl (Ex)
section
variable {X : Cx} {σ : Z.St} {H : Hp} {a b e o : Expr} {st : Stmt} {D : Ends} {p p1 p2 p3 pos apos : Pos} {Q : VK}
/-- a statement cut behind top_name -/
theorem scut (R : Z.St → Hp → Prop) (h : wS X st { D with nx := R } σ H) (q : ∀ σ' H', R σ' H' → D.nx σ' H') : wS X st D σ H :=
  h.imp q (fun _ _ z => z) (fun _ _ z => z) fun _ _ z => z
theorem vcut (R : VK) (h : wE X e σ H R) (q : ∀ v H', R v H' → Q v H') : wE X e σ H Q := h.imp q
/-! ### list(range(..)), l.clear(), x in a tuple or list -/
theorem zlrg1 (hc : X.calm = true) (hg1 : Gl X "list") (hm1 : X.mg "list" = none) (hg2 : Gl X "range") (hm2 : X.mg "range" = none)
    (h : wE X a σ H fun x H1 => ∃ n, x = .int n ∧ RgOk 0 n ∧ ∀ q H2, H1 q = none → Ex H1 H2 → H2 q = some (.lst (rgV 0 n)) → Q (.ref q) H2)
    (na : starEach [.Call (.Name "range" p1) [a] [] p2] X.env = (false, eval (.Call (.Name "range" p1) [a] [] p2) X.env) :: starEach [] X.env := by rfl) (nb : starEach [a] X.env = (false, eval a X.env) :: starEach [] X.env := by rfl) :
    wE X (.Call (.Name "list" p) [.Call (.Name "range" p1) [a] [] p2] [] pos) σ H Q := by
  refine ofE (pe_listRg hc hg1 hm1 (prg_1 hg2 hm2 sE nb) na) ?_
  exact h.imp fun x H1 ⟨n, e, ok, q⟩ => ⟨n, e, ok, fun l hl => q l _ hl (Ex.new hl) upd_same⟩
theorem zclr (h : wE X o σ H fun x H1 => ∃ l xs, x = .ref l ∧ H1 l = some (.lst xs) ∧ Q .non (upd H1 l (.lst [])))
    (he : ∀ t : TE, PE X o t → PE X (.Call (.Attribute o "clear" apos) [] [] pos) (tBM0 X.K "list" rClear t) := by intro t ht; exact pe_bm0 PySem.F.plainAttrs_list PySem.F.slot_list_clear PySem.F.type_list_clear mt_clear ht) : wE X (.Call (.Attribute o "clear" apos) [] [] pos) σ H Q := by
  refine ofE (he _ sE) ⟨fun pins s I => thn (h.run pins s I) fun u s1 ⟨x, H1, I1, r1, l, xs, ex, hl, q⟩ => ⟨x, H1, I1, r1, ?_⟩⟩
  subst ex
  exact ⟨.inl ⟨rfl, xs, SqL.of hl⟩, l, xs, rfl, rfl, hl, q⟩
theorem oinF {x : V} {l : Addr} {xs : List V} (hp : SqL X.K H l xs ∨ SqT X.K H l xs) (fx : flatV x = true) (fs : xs.all flatV = true) (h : Q (.bl (inV x xs)) H) : wO X (compareOp .In) x (.ref l) H Q := ofO op_in_seq ⟨l, xs, rfl, hp, fx, fs, h⟩
theorem oninF {x : V} {l : Addr} {xs : List V} (hp : SqL X.K H l xs ∨ SqT X.K H l xs) (fx : flatV x = true) (fs : xs.all flatV = true) (h : Q (.bl (!inV x xs)) H) : wO X (compareOp .NotIn) x (.ref l) H Q := ofO op_notIn_seq ⟨l, xs, rfl, hp, fx, fs, h⟩
/-- x in a tuple of data -/
theorem oninT {k : Nat} {x y : V} {d : PyData} {ds : List PyData} (hr : Room k X.A) (hx : Dp X.K H x d) (hy : Dp X.K H y (.tuple ds)) (s1 : SeqAt.shaped d = true) (s2 : SeqAt.shaped (.tuple ds) = true) (hd : PyData.depthAll ds ≤ 60) (h : Q (.bl (!ds.any fun z => PyData.eqv z d)) H) : wO X (compareOp .NotIn) x y H Q := by
  refine ⟨fun pins s σ v u I rx ry => ?_⟩
  obtain ⟨as, r1⟩ := Dp.reads I d x v hx rx
  obtain ⟨bs, r2⟩ := Dp.reads I (.tuple ds) y u hy ry
  exact SeqAt.notIn_tuple_reads r2 r1 (SeqAt.canLay_of_shaped s2) (SeqAt.canLay_of_shaped s1) (by have := hr.units; have := Nat.min_le_left (PyData.depthAll ds) d.depth; omega) ⟨.bl _, H, I, rfl, h⟩
end
end Z

set_option maxRecDepth 100000
set_option maxHeartbeats 4000000
namespace Z
open PySem PySem.Spec PyProof.Rows L2
open Evl (Ex)
/-! ### comprehensions whose items are made anew: G j ws: what is known of the items ws after j turns -/
theorem del_ex (H : Hp) (L : Addr) : Ex (del H L) H := fun b o e => by
  by_cases h : b = L
  · subst h; rw [del_same] at e; cases e
  · rw [del_ne h] at e; exact e
theorem del_mono {H H' : Hp} {L : Addr} (h : ∀ b o, b ≠ L → H b = some o → H' b = some o) : Ex (del H L) (del H' L) := fun b o e => by
  by_cases hb : b = L
  · subst hb; rw [del_same] at e; cases e
  · rw [del_ne hb] at e ⊢; exact h b o hb e
theorem del_at {H : Hp} {L b : Addr} {o : HO} (h : H b = some o) (n : b ≠ L) : del H L b = some o := by rw [del_ne n]; exact h
theorem ne_new {H : Hp} {L b : Addr} {o : HO} (h : H L = some o) (n : H b = none) : b ≠ L := fun e => by rw [e, h] at n; cases n
section
variable {X : Cx} {σ : Z.St} {H : Hp} {elt tg l a b : Expr} {ifs : List Expr} {scope : Scope} {Q : VK}
abbrev turnG (X : Cx) (scope : Scope) (tg : Expr) (ifs : List Expr) (elt : Expr) (vs : List Nat) (G : Nat → List V → Hp → Prop) (L : Addr) (ws : List V) (j : Nat) (x : V) (σ : Z.St) (H : Hp) : Prop :=
  bG X scope tg x (wipe σ vs) H fun σ2 H2 => wipe σ2 vs = wipe σ vs ∧ Ex H H2 ∧ bTs X scope ifs σ2 H2 fun b H3 => if b = true then bE X scope elt σ2 H3 fun y H4 => ws.length < sizeLine ∧ Ex H H4 ∧ G (j + 1) (ws ++ [y]) (del H4 L) else Ex H H3 ∧ G (j + 1) ws (del H3 L)
theorem turnG_of {G : Nat → List V → Hp → Prop} (hG : ∀ j ws H H', G j ws H → Ex H H' → G j ws H') {j : Nat} {x : V} {vs : List Nat} {L : Addr} {ws : List V} {H1 : Hp} (hL : H1 L = none) (hd : Ex H1 H) (hacc : H L = some (.lst ws)) (h : turnG X scope tg ifs elt vs G L ws j x σ H) :
    turnB X scope tg ifs elt vs L x σ H fun H' => Ex H1 H' ∧ ∃ ws, H' L = some (.lst ws) ∧ G (j + 1) ws (del H' L) := by
  refine bG.imp h fun σ2 H2 ⟨w, e2, q⟩ => ⟨w, q.imp fun b H3 q3 => ?_⟩
  cases b with
  | false =>
    rw [if_neg Bool.false_ne_true] at q3 ⊢
    exact ⟨hd.trans q3.1, ws, q3.1 _ _ hacc, q3.2⟩
  | true =>
    rw [if_pos rfl] at q3 ⊢
    refine q3.imp fun y H4 ⟨hs, e4, g⟩ => ⟨ws, e4 _ _ hacc, hs, fun b o e => ?_, _, upd_same, hG _ _ _ _ g (del_mono fun b o n e => by rw [upd_ne n]; exact e)⟩
    have n : b ≠ L := fun z => by rw [z, hL] at e; cases e
    rw [upd_ne n]
    exact e4 _ _ (hd _ _ e)
theorem tnL {xs : List V} {vs : List Nat} (G : Nat → List V → Hp → Prop) (hG : ∀ j ws H H', G j ws H → Ex H H' → G j ws H') (h0 : ∀ H, G 0 [] H)
    (h : wE X l σ H fun x H1 => ∃ r, x = .ref r ∧ SqL X.K H1 r xs ∧ (∀ j x H' L ws, xs[j]? = some x → Ex H1 H' → H1 L = none → H' L = some (.lst ws) → G j ws (del H' L) → turnG X scope tg ifs elt vs G L ws j x σ H') ∧ ∀ L H' ws, H1 L = none → Ex H1 H' → H' L = some (.lst ws) → G xs.length ws H' → Q (.ref L) H') :
    tLc (iList X.K (wE X l)) (bG X scope tg) (bTs X scope ifs) (bE X scope elt) vs σ H Q :=
  ⟨fun pins s I => thn (h.run pins s I) fun u s1 ⟨x, H1, I1, r, p, ex, hq, q2, q3⟩ => ⟨x, H1, I1, r, p, ex, ⟨xs, hq⟩, fun L hL =>
    lc_list (fun j H' => Ex H1 H' ∧ ∃ ws, H' L = some (.lst ws) ∧ G j ws (del H' L)) ⟨Ex.new hL, [], upd_same, h0 _⟩ (fun i H' _ z => Evl.ex_l z.1 hq) (fun i x H' hx ⟨e, ws, hw, g⟩ => turnG_of (G := G) hG hL e hw (q2 i x H' L ws hx e hL hw g)) fun H' ⟨e, ws, hw, g⟩ => q3 L H' ws hL e hw (hG _ _ _ _ g (del_ex _ _))⟩⟩
theorem tnT {xs : List V} {vs : List Nat} (G : Nat → List V → Hp → Prop) (hG : ∀ j ws H H', G j ws H → Ex H H' → G j ws H') (h0 : ∀ H, G 0 [] H)
    (h : wE X l σ H fun x H1 => ∃ r, x = .ref r ∧ SqT X.K H1 r xs ∧ (∀ j x H' L ws, xs[j]? = some x → Ex H1 H' → H1 L = none → H' L = some (.lst ws) → G j ws (del H' L) → turnG X scope tg ifs elt vs G L ws j x σ H') ∧ ∀ L H' ws, H1 L = none → Ex H1 H' → H' L = some (.lst ws) → G xs.length ws H' → Q (.ref L) H') :
    tLc (iTup X.K (wE X l)) (bG X scope tg) (bTs X scope ifs) (bE X scope elt) vs σ H Q :=
  ⟨fun pins s I => thn (h.run pins s I) fun u s1 ⟨x, H1, I1, r, p, ex, hq, q2, q3⟩ => ⟨x, H1, I1, r, p, ex, ⟨xs, hq⟩, fun L hL =>
    lc_tup (fun j H' => Ex H1 H' ∧ ∃ ws, H' L = some (.lst ws) ∧ G j ws (del H' L)) ⟨Ex.new hL, [], upd_same, h0 _⟩ (fun i H' _ z => Evl.ex_t z.1 hq) (fun i x H' hx ⟨e, ws, hw, g⟩ => turnG_of (G := G) hG hL e hw (q2 i x H' L ws hx e hL hw g)) fun H' ⟨e, ws, hw, g⟩ => q3 L H' ws hL e hw (hG _ _ _ _ g (del_ex _ _))⟩⟩
theorem tnR1 {n : Int} {vs : List Nat} (G : Nat → List V → Hp → Prop) (hG : ∀ j ws H H', G j ws H → Ex H H' → G j ws H') (h0 : ∀ H, G 0 [] H)
    (h : wA X [a] σ H fun x H1 => x = [.int n] ∧ n < 2 ^ 62 ∧ -(2 ^ 62) ≤ n ∧ (∀ (j : Nat) H' L ws, (j : Int) < n → Ex H1 H' → H1 L = none → H' L = some (.lst ws) → G j ws (del H' L) → turnG X scope tg ifs elt vs G L ws j (.int (j : Int)) σ H') ∧ ∀ L H' ws, H1 L = none → Ex H1 H' → H' L = some (.lst ws) → G n.toNat ws H' → Q (.ref L) H') :
    tLc (iRng1 (wA X [a])) (bG X scope tg) (bTs X scope ifs) (bE X scope elt) vs σ H Q :=
  ⟨fun ps pins s I => thn (h.run ps pins s I) fun us s' ⟨x, H1, J, r, e, h1, h2, q2, q3⟩ => ⟨x, H1, J, r, n, e, h2, h1, fun L hL =>
    lc_range (fun j H' => Ex H1 H' ∧ ∃ ws, H' L = some (.lst ws) ∧ G j ws (del H' L)) ⟨Ex.new hL, [], upd_same, h0 _⟩ (fun i H' hi ⟨e, ws, hw, g⟩ => by rw [Int.zero_add]; exact turnG_of (G := G) hG hL e hw (q2 i H' L ws (by omega) e hL hw g)) fun H' ⟨e, ws, hw, g⟩ => q3 L H' ws hL e hw (hG _ _ _ _ g (del_ex _ _))⟩⟩
end
/-! ### lists of rows -/
inductive RowsAt (H : Hp) : List V → List (List Int) → Prop
  | nil : RowsAt H [] []
  | cons {l : Addr} {xs : List Int} {vs : List V} {ls : List (List Int)} : H l = some (.lst (xs.map V.int)) → RowsAt H vs ls → RowsAt H (.ref l :: vs) (xs :: ls)
theorem RowsAt.ex {H H' : Hp} (e : Ex H H') : ∀ {vs : List V} {ls : List (List Int)}, RowsAt H vs ls → RowsAt H' vs ls
  | _, _, .nil => .nil
  | _, _, .cons h t => .cons (e _ _ h) (t.ex e)
theorem RowsAt.length {H : Hp} : ∀ {vs : List V} {ls : List (List Int)}, RowsAt H vs ls → vs.length = ls.length
  | _, _, .nil => rfl
  | _, _, .cons _ t => by rw [List.length_cons, List.length_cons, t.length]
theorem RowsAt.get {H : Hp} : ∀ {vs : List V} {ls : List (List Int)} {i : Nat} {v : V}, RowsAt H vs ls → vs[i]? = some v → ∃ l xs, v = .ref l ∧ ls[i]? = some xs ∧ H l = some (.lst (xs.map V.int))
  | _, _, 0, _, .cons h _, e => by simp at e; exact ⟨_, _, e.symm, rfl, h⟩
  | _, _, i + 1, _, .cons _ t, e => by obtain ⟨l, xs, e1, e2, e3⟩ := t.get (i := i) (by simpa using e); exact ⟨l, xs, e1, by simpa using e2, e3⟩
theorem RowsAt.app {H : Hp} : ∀ {vs us : List V} {ls ms : List (List Int)}, RowsAt H vs ls → RowsAt H us ms → RowsAt H (vs ++ us) (ls ++ ms)
  | _, _, _, _, .nil, g => g
  | _, _, _, _, .cons h t, g => .cons h (t.app g)
theorem RowsAt.one {H : Hp} {vs : List V} {ls : List (List Int)} {l : Addr} {xs : List Int} (h : RowsAt H vs ls) (g : H l = some (.lst (xs.map V.int))) : RowsAt H (vs ++ [.ref l]) (ls ++ [xs]) := h.app (.cons g .nil)
theorem take_map_succ {α β : Type} {f : α → β} {ks : List α} {j : Nat} {k : α} (h : ks[j]? = some k) : (ks.take (j + 1)).map f = (ks.take j).map f ++ [f k] := by
  rw [List.take_add_one, h, List.map_append]
  rfl
end Z

set_option maxRecDepth 100000
set_option maxHeartbeats 4000000
namespace Z
open PySem PySem.Spec PyProof.Rows L2
open Evl (Ex)
/-! ### texts: times a number, made of a number, read as one, methods -/
section
variable {X : Cx} {σ : Z.St} {H : Hp} {a b e e2 o : Expr} {st : Stmt} {D : Ends} {p p1 p2 p3 pos pos2 apos tpos : Pos} {Q : VK} {elts : List Expr} {kk : Nat} {body : List Stmt}
theorem osmul {x : Str} {n : Int} (hok : MulOk x n) (h : Q (.str (Txt.mul x n)) H) : wO X (binaryOp .Mult) (.str x) (.int n) H Q := by
  refine ⟨fun pins s σ v u I rx ry => ?_⟩
  obtain ⟨t, rfl⟩ := rx
  obtain ⟨t', rfl⟩ := ry
  exact SB.mul hok fun t' k => ⟨.str _, H, I.tok k, ⟨_, rfl⟩, h⟩
theorem kintI {i : Int} (h : Q (.int i) H) : wK X (.type "int") [.int i] H Q := ofK call_int1 (.inl ⟨i, rfl, h⟩)
theorem kintB {k : Bool} (h : Q (.int (if k then 1 else 0)) H) : wK X (.type "int") [.bl k] H Q := ofK call_int1 (.inr ⟨k, rfl, h⟩)
theorem kintS {x : Str} {n : Int} (hn : PySem.intText? x = some n) (hl : x.length ≤ 640) (h : Q (.int n) H) : wK X (.type "int") [.str x] H Q := ofK call_int_str ⟨x, n, rfl, hn, hl, h⟩
theorem kstrI {i : Int} (hl : i.natAbs.log2 < 1920) (h : Q (.str (toString i)) H) : wK X (.type "str") [.int i] H Q := ofK call_str_int ⟨i, rfl, hl, h⟩
theorem zstarts (h : wE X o σ H fun x H1 => (∃ a, x = .str a) ∧ wE X e σ H1 fun y H2 => ∃ a b, x = .str a ∧ y = .str b ∧ Q (.bl (Txt.startswith a b)) H2)
    (hs : starEach [e] X.env = [(false, eval e X.env)] := by rfl) (hbase : attributeBase o "startswith" X.env (eval o X.env) = eval o X.env := by rfl) (hline : (apos.endLine == pos.line) = true := by rfl) : wE X (.Call (.Attribute o "startswith" apos) [e] [] pos) σ H Q := by
  refine ofE (pe_m1 PySem.F.slot_str_startswith PySem.F.type_str_startswith mt_startswith sE sE hs hbase hline) ⟨fun pins s I => thn (h.run pins s I) fun u s1 ⟨x, H1, I1, r1, hx, q⟩ => ⟨x, H1, I1, r1, hx, ⟨fun pins2 s2 J => thn (q.run pins2 s2 J) fun u2 s3 ⟨y, H2, I2, r2, a, b, e1, e2, q2⟩ => ⟨y, H2, I2, r2, a, b, e1, by rw [e2], q2⟩⟩⟩⟩
theorem zsplit (h : wE X o σ H fun x H1 => (∃ a, x = .str a) ∧ wE X e σ H1 fun y H2 => ∃ a b, x = .str a ∧ y = .str b ∧ (b.length == 0) = false ∧ a.length + 2 ≤ sizeLine ∧ ∀ p H3, H2 p = none → Ex H2 H3 → H3 p = some (.lst ((Txt.split a b).map V.str)) → Q (.ref p) H3)
    (hs : starEach [e] X.env = [(false, eval e X.env)] := by rfl) (hbase : attributeBase o "split" X.env (eval o X.env) = eval o X.env := by rfl) (hline : (apos.endLine == pos.line) = true := by rfl) : wE X (.Call (.Attribute o "split" apos) [e] [] pos) σ H Q := by
  refine ofE (pe_m1 PySem.F.slot_str_split PySem.F.type_str_split mt_split sE sE hs hbase hline) ⟨fun pins s I => thn (h.run pins s I) fun u s1 ⟨x, H1, I1, r1, hx, q⟩ => ⟨x, H1, I1, r1, hx, ⟨fun pins2 s2 J => thn (q.run pins2 s2 J) fun u2 s3 ⟨y, H2, I2, r2, a, b, e1, e2, c1, c2, q2⟩ => ⟨y, H2, I2, r2, a, b, e1, by rw [e2], c1, c2, fun p hp => q2 p _ hp (Ex.new hp) upd_same⟩⟩⟩⟩
end
/-! ### x.join(reversed(l)) -/
section
variable {prog : Program} {w : World} {A : Around} {E : Value → Shared → Prop} {s : Shared}
theorem join_rev {it l : Addr} {items : Array Value} {x : Str} {t : Tok} {ys : List Str} {Q : Value → Shared → Prop} (hh : A.handled = none) (hit : s.heap.IsRevIter it l ((items.size : Int) - 1)) (hl : s.heap.IsList l items) (hne : l ≠ it) (hn : items.size ≤ sizeLine)
    (hP : ∀ acc : Array Value, ItemsOf (fun i v => items[items.size - 1 - i]? = some v) acc items.size → StrsAre acc.toList ys) (hok : (ys.map (·.length)).sum + ys.length * x.length ≤ 16777216)
    (hq : ∀ (h' : Heap), (∀ b o, b ≠ it → s.heap.get? b = some o → h'.get? b = some o) → ∀ t' k, Q (.str (Txt.join x ys) t') { s with heap := h', toks := k }) :
    wpAny (model prog w) A (call (.builtin "str.join") [.str x t, .ref it]) Q E s := by
  have hT : s.TypeIs (.ref it) "list_reverseiterator" := hit.typeIs
  refine wpAny_call (codeAny_call_builtin F.slot_str_join.plain F.entry_str_join (F.slot_str_join.check _ _ _ _ _ _ _ _ (typeIs_str _ _ _) (F.args_str_join_2 _ _) ?_))
  rw [join_tree_other]
  refine wpAny_bind (wpAny_typeOf hT ?_)
  show wpAny _ A.in1 ((pyIter (.ref it)).tryCatch _ >>= fun it => collect it >>= fun items => joinTail x items) _ _ s
  refine wpAny_bind (wpAny_tryCatch (wpAny_pyIter_revIter hit ?_))
  have hh1 : A.in1.handled = none := hh
  refine wpAny_bind (RT.collect_rev hh1 hit hl hne hn (fun h' tk acc hk hacc => ?_))
  obtain ⟨l, hl, ht⟩ := strsAre_values (hP acc hacc)
  subst ht
  rw [hl]
  have hok' := joinOk_of hok
  unfold JoinOk at hok'
  rw [Bool.not_eq_true'] at hok'
  have g : Gives (joinTail x (strValues l)) (joinMade x l) := by
    have g0 := gives_joinTail x l hok'
    cases l with
    | nil => exact g0
    | cons p r => cases r with
      | nil => exact g0
      | cons q r' => exact g0
  exact g prog w A (wants Q E) _ (post_join l ⟨joinFit_length hok', fun t' k => hq h' hk t' k⟩)
end
section
variable {X : Cx} {σ : Z.St} {H : Hp} {a b e e2 o : Expr} {st : Stmt} {D : Ends} {p p1 p2 p3 pos pos2 apos tpos : Pos} {Q : VK} {elts : List Expr} {kk : Nat} {body : List Stmt}
theorem vals_strs : ∀ {ys : List Str} {us : List Value}, Vals (ys.map V.str) us → StrsAre us ys
  | [], _, h => by cases h; exact .nil
  | y :: ys, _, h => by
    cases h with
    | cons r t =>
      obtain ⟨u, rfl⟩ := r
      exact .cons _ _ (vals_strs t)
theorem zjoinRev (hc : X.calm = true) (hg : Gl X "reversed") (hm : X.mg "reversed" = none) (h : wE X o σ H fun x H1 => (∃ a, x = .str a) ∧ wE X e σ H1 fun y H2 => ∃ a q, ∃ ys : List Str, x = .str a ∧ y = .ref q ∧ SqL X.K H2 q (ys.map V.str) ∧ (ys.reverse.map (·.length)).sum + ys.reverse.length * a.length ≤ 16777216 ∧ Q (.str (Txt.join a ys.reverse)) H2)
    (hs1 : starEach [.Call (.Name "reversed" p) [e] [] pos2] X.env = [(false, eval (.Call (.Name "reversed" p) [e] [] pos2) X.env)] := by rfl)
    (hs : starEach [e] X.env = (false, eval e X.env) :: starEach [] X.env := by rfl)
    (hbase : attributeBase o "join" X.env (eval o X.env) = eval o X.env := by rfl) (hline : (apos.endLine == pos.line) = true := by rfl) :
    wE X (.Call (.Attribute o "join" apos) [.Call (.Name "reversed" p) [e] [] pos2] [] pos) σ H Q := by
  refine ⟨fun pins s I => ?_⟩
  refine PySem.Call_method1 hbase hs1 hline (thn (h.run pins s I) fun v s1 ⟨x, H1, I1, r1, q1⟩ => ?_)
  obtain ⟨⟨a, rfl⟩, q1⟩ := q1
  obtain ⟨t, rfl⟩ := _root_.id r1
  refine ⟨"str", _, PySem.F.plainAttrs_str, PySem.F.slot_str_join, PySem.F.type_str_join, typeIs_str _ _ _, (fun _ e => nomatch e), Calls.callWith_builtin rfl (Calls.evalArgs_plain (Calls.spliced_cons ?_))⟩
  refine Call_ (ld_blt I1 hg hm PyProof.Rows.boot_reversed (PyProof.Rows.callWith_type1 (args_cons (thn (q1.run pins s1 I1) fun u s2 ⟨y, H2, I2, r2, q2⟩ => args_nil ?_) hs) hs rfl))
  obtain ⟨a', l, ys, ea, ey, hq, hz, q2⟩ := q2
  cases ea
  subst ey
  obtain rfl : u = Value.ref l := r2
  obtain ⟨its, rv, pl, hsz⟩ := I2.list hq
  obtain ⟨f0, f1, f2, f3, f4, f5⟩ := I2.fpOk (H' := H2) (b := s2.heap.objs.size) (Nat.le_refl _) (I2.hok.fresh (Nat.le_refl _))
  have hl := pl.isList
  obtain ⟨ol, hol, _⟩ := id hl
  have hne : l ≠ s2.heap.objs.size := Nat.ne_of_lt (Heap.lt_size hol)
  have hn : its.toArray.size ≤ sizeLine := by rw [List.size_toArray, ← rv.length]; exact hsz
  refine call_reversed_list hl ?_
  have k0 : ∀ b o, s2.heap.get? b = some o → (s2.heap.push (revObj l ((its.toArray.size : Int) - 1))).get? b = some o := fun b o e => Heap.get?_push_of_some _ e
  have I3 : Inv X pins σ H2 { s2 with heap := s2.heap.push (revObj l ((its.toArray.size : Int) - 1)) } := I2.kept (t' := s2.toks) k0
  refine Calls.spliced_nil (join_rev (s := { s2 with heap := s2.heap.push (revObj l ((its.toArray.size : Int) - 1)) }) (ys := ys.reverse) (I2.ok.hd hc) ⟨_, Heap.get?_push_size _ rfl, rfl, rfl⟩ (hl.push _) hne hn (fun acc hacc => ?_) hz fun h' hk t' tk => ?_)
  · have := RT.vals_rev rv hacc
    rw [← List.map_reverse] at this
    exact vals_strs this
  · exact ⟨.str _, H2, I3.turned (t' := tk) (fun b o hb e => hk b o hb e) f0 f1 f3 f4 f5, ⟨t', rfl⟩, q2⟩
/-! ### for over a text -/
theorem lforS {tg l : Expr} {x : Str} (hp : PassesOwn (model X.prog X.w) X.A X.env X.xe) (hc : X.calm = true) (Pv : Nat → Z.St → Hp → Prop)
    (h : wE X l σ H fun y H1 => y = .str x ∧ Pv 0 σ H1 ∧
      (∀ i c σ H, x.cps[i]? = some c → Pv i σ H → wG X tg (.str ⟨#[c]⟩) σ H fun σ2 H2 => wB X body { D with nx := Pv (i + 1), ct := Pv (i + 1), bk := D.nx } σ2 H2) ∧ ∀ σ H, Pv x.cps.size σ H → D.nx σ H)
    (hs : ∀ x, foldedSetIterable l X.env x = pure x := by intro _; rfl) : wS X (.For tg l body [] pos) D σ H := by
  refine lfor hp hc (pi_str sE) ⟨fun pins s I => thn (h.run pins s I) fun u s1 ⟨y, H1, I1, r, e, h0, ht, hd⟩ => ⟨y, H1, I1, r, x, e, ?_⟩⟩ hs
  refine ⟨fun i m σ H => m = x.cps.size - i ∧ i ≤ x.cps.size ∧ Pv i σ H, ⟨x.cps.size, by simp, Nat.zero_le _, h0⟩, ?_⟩
  rintro i m σ H ⟨rfl, hi, z⟩
  by_cases hlt : i < x.cps.size
  · refine .inr ⟨hlt, Pv (i + 1), fun σ' H' p' => ⟨x.cps.size - (i + 1), by omega, rfl, hlt, p'⟩, ?_⟩
    rintro v H' ⟨rfl, c, hx, rfl⟩
    exact ht i c σ _ hx z
  · have e : i = x.cps.size := by omega
    subst e
    exact .inl ⟨Nat.le_refl _, hd σ H z⟩
/-! ### for (x, y) in zip(a, b) -/
theorem lforZip (hm : X.mg "zip" = none) (hp : PassesOwn (model X.prog X.w) X.A X.env X.xe) (hc : X.calm = true) (hg : Gl X "zip")
    (h : wA X [e, e2] σ H fun vs H1 => ∃ (a b : Addr) (xs ys : List V), vs = [.ref a, .ref b] ∧ (SqL X.K H1 a xs ∧ SqL X.K H1 b ys ∧ xs.length = ys.length) ∧ ∃ Pv : Nat → Z.St → Hp → Prop, Pv 0 σ H1 ∧ (∀ i σ H, i ≤ xs.length → Pv i σ H → SqL X.K H a xs ∧ SqL X.K H b ys) ∧
      (∀ i x y σ H T H2, xs[i]? = some x → ys[i]? = some y → Pv i σ H → H T = none → Ex H H2 → H2 T = some (.tup [x, y]) → wG X (.Tuple elts kk tpos) (.ref T) σ H2 fun σ2 H2 => wB X body { D with nx := Pv (i + 1), ct := Pv (i + 1), bk := D.nx } σ2 H2) ∧ ∀ σ H, Pv xs.length σ H → D.nx σ H)
    (hs : ∀ x, foldedSetIterable (.Call (.Name "zip" p) [e, e2] [] pos2) X.env x = pure x := by intro _; rfl) (hsa : starEach [e, e2] X.env = (false, eval e X.env) :: starEach [e2] X.env := by rfl) (hpl : (backTo pos2 (starEach [e2] X.env)).any (·.1) = false := by rfl) : wS X (.For (.Tuple elts kk tpos) (.Call (.Name "zip" p) [e, e2] [] pos2) body [] pos) D σ H := by
  refine lfor hp hc (pi_zip hg hm sA hsa hpl) ⟨fun ps pins s I => thn (h.run ps pins s I) fun u s1 ⟨vs, H1, I1, r, a, b, xs, ys, ex, ⟨hx, hy, hl⟩, Pv, h0, hk, ht, hd⟩ => ⟨vs, H1, I1, r, a, b, xs, ys, ex, hx, hy, ?_⟩⟩ hs
  refine ⟨fun i m σ H => m = xs.length - i ∧ i ≤ xs.length ∧ Pv i σ H, ⟨xs.length, by simp, Nat.zero_le _, h0⟩, ?_⟩
  rintro i m σ H ⟨rfl, hi, z⟩
  obtain ⟨q1, q2⟩ := hk i σ H hi z
  by_cases hlt : i < xs.length
  · refine .inr ⟨⟨xs, ys, xs[i], ys[i]'(by omega), q1, q2, by simp [hlt], List.getElem?_eq_getElem _⟩, Pv (i + 1), fun σ' H' p' => ⟨xs.length - (i + 1), by omega, rfl, hlt, p'⟩, ?_⟩
    rintro v H' ⟨T, x, y, rfl, hT, rfl, hx', hy'⟩
    exact ht i x y σ H T _ (hx' xs q1) (hy' ys q2) z hT (Ex.new hT) upd_same
  · have e : i = xs.length := by omega
    subst e
    exact .inl ⟨⟨xs, ys, q1, q2, .inl (Nat.le_refl _)⟩, hd σ H z⟩
end
end Z

set_option maxRecDepth 100000
set_option maxHeartbeats 4000000
namespace Z
open PySem PySem.Spec PyProof.Rows L2
open Evl (Ex)
/-! ### == and != of nested lists and tuples, of texts of any signs -/
section
variable {X : Cx} {σ : Z.St} {H : Hp} {pins : List (Addr × Obj)} {s : Shared}
theorem list_tup (I : Inv X pins σ H s) {a : Addr} {xs ys : List V} (h : SqL X.K H a xs) (h' : SqT X.K H a ys) : False := by
  obtain ⟨_, _, p1, _⟩ := I.list h
  obtain ⟨_, _, p2, _⟩ := I.tuple h'
  exact SeqAt.ne_of_list_tuple p1.isList p2 rfl
theorem dpAll_len {K : PySem.W.Frag} {H : Hp} : ∀ {xs : List V} {ds : List PyData}, DpAll K H xs ds → xs.length = ds.length
  | _, _, .nil => rfl
  | _, _, .cons _ t => by rw [List.length_cons, List.length_cons, dpAll_len t]
mutual
theorem dp_same (I : Inv X pins σ H s) : ∀ {x : V} {d e : PyData}, Dp X.K H x d → Dp X.K H x e → PyData.eqv d e = true
  | _, _, _, .non, h => by cases h; rfl
  | _, _, _, .bl b, h => by cases h; simp [PyData.eqv]
  | _, _, _, .int i, h => by cases h; simp [PyData.eqv]
  | _, _, _, .str x, h => by cases h; simp [PyData.eqv]
  | _, _, _, .lst q a, h => by
    cases h with
    | lst q2 a2 =>
      have e := I.list_inj q2 q
      subst e
      rw [PyData.eqv]
      exact dp_sameAll I a a2
    | tup q2 a2 => exact (list_tup I q q2).elim
  | _, _, _, .tup q a, h => by
    cases h with
    | tup q2 a2 =>
      have e := I.tuple_inj q2 q
      subst e
      rw [PyData.eqv]
      exact dp_sameAll I a a2
    | lst q2 a2 => exact (list_tup I q2 q).elim
theorem dp_sameAll (I : Inv X pins σ H s) : ∀ {xs : List V} {ds es : List PyData}, DpAll X.K H xs ds → DpAll X.K H xs es → PyData.eqvAll ds es = true
  | _, _, _, .nil, h => by cases h; rfl
  | _, _, _, .cons a b, h => by
    cases h with
    | cons c d =>
      rw [PyData.eqvAll, dp_same I a c, dp_sameAll I b d]
      rfl
end

/-- the room that two things take -/
theorem roomL {A : Around} {d : PyData} {xs : List PyData} (h : A.units + min (PyData.depthAll xs + 1) (d.depth) < cLine) : A.units < cLine := by omega
mutual
theorem eqAt_dp (I : Inv X pins σ H s) : ∀ {x y : V} {d e : PyData} {v u : Value} (A : Around), Dp X.K H x d → Dp X.K H y e → RelV x v → RelV y u → A.units + min d.depth e.depth < cLine → SeqAt.EqAt A s v u (PyData.eqv d e)
  | _, _, _, _, v, u, A, .non, hy, rx, ry, hu => by
    cases rx
    cases hy with
    | non => cases ry; exact SeqAt.EqAt.same _
    | bl y => cases ry; exact SeqAt.EqAt.none_bool y
    | int y => obtain ⟨u, rfl⟩ := ry; exact SeqAt.EqAt.none_int y u
    | str y => obtain ⟨u, rfl⟩ := ry; exact SeqAt.EqAt.none_str y u
    | lst q _ => obtain ⟨_, _, p, _⟩ := I.list q; cases ry; exact SeqAt.EqAt.none_list  p.isList (SeqAt.room_here hu)
    | tup q _ => obtain ⟨_, _, p, _⟩ := I.tuple q; cases ry; exact SeqAt.EqAt.none_tuple  p (SeqAt.room_here hu)
  | _, _, _, _, v, u, A, .bl b, hy, rx, ry, hu => by
    cases rx
    cases hy with
    | non => cases ry; exact SeqAt.EqAt.bool_none b
    | bl y => cases ry; exact SeqAt.EqAt.bool_bool b y
    | int y => obtain ⟨u, rfl⟩ := ry; exact SeqAt.EqAt.bool_int b y u
    | str y => obtain ⟨u, rfl⟩ := ry; exact SeqAt.EqAt.bool_str b y u
    | lst q _ => obtain ⟨_, _, p, _⟩ := I.list q; cases ry; exact SeqAt.EqAt.bool_list b p.isList (SeqAt.room_here hu)
    | tup q _ => obtain ⟨_, _, p, _⟩ := I.tuple q; cases ry; exact SeqAt.EqAt.bool_tuple b p (SeqAt.room_here hu)
  | _, _, _, _, v, u, A, .int i, hy, rx, ry, hu => by
    obtain ⟨t, rfl⟩ := rx
    cases hy with
    | non => cases ry; exact SeqAt.EqAt.int_none i t
    | bl y => cases ry; exact SeqAt.EqAt.int_bool i t y
    | int y => obtain ⟨u, rfl⟩ := ry; exact SeqAt.EqAt.int_int i t y u
    | str y => obtain ⟨u, rfl⟩ := ry; exact SeqAt.EqAt.int_str i t y u
    | lst q _ => obtain ⟨_, _, p, _⟩ := I.list q; cases ry; exact SeqAt.EqAt.int_list i t p.isList (SeqAt.room_here hu)
    | tup q _ => obtain ⟨_, _, p, _⟩ := I.tuple q; cases ry; exact SeqAt.EqAt.int_tuple i t p (SeqAt.room_here hu)
  | _, _, _, _, v, u, A, .str x, hy, rx, ry, hu => by
    obtain ⟨t, rfl⟩ := rx
    cases hy with
    | non => cases ry; exact SeqAt.EqAt.str_none x t
    | bl y => cases ry; exact SeqAt.EqAt.str_bool x t y
    | int y => obtain ⟨u, rfl⟩ := ry; exact SeqAt.EqAt.str_int x t y u
    | str y => obtain ⟨u, rfl⟩ := ry; exact SeqAt.EqAt.str_str x t y u
    | lst q _ => obtain ⟨_, _, p, _⟩ := I.list q; cases ry; exact SeqAt.EqAt.str_list x t p.isList (SeqAt.room_here hu)
    | tup q _ => obtain ⟨_, _, p, _⟩ := I.tuple q; cases ry; exact SeqAt.EqAt.str_tuple x t p (SeqAt.room_here hu)
  | _, _, _, _, v, u, A, .lst (a := l1) (ds := ds) q a, hy, rx, ry, hu => by
    cases rx
    obtain ⟨us, r1, p1, _⟩ := I.list q
    cases hy with
    | non => cases ry; exact SeqAt.EqAt.list_none p1.isList (SeqAt.room_here hu)
    | bl y => cases ry; exact SeqAt.EqAt.list_bool y p1.isList (SeqAt.room_here hu)
    | int y => obtain ⟨u, rfl⟩ := ry; exact SeqAt.EqAt.list_int y u p1.isList (SeqAt.room_here hu)
    | str y => obtain ⟨u, rfl⟩ := ry; exact SeqAt.EqAt.list_str y u p1.isList (SeqAt.room_here hu)
    | tup q2 _ => obtain ⟨_, _, p2, _⟩ := I.tuple q2; cases ry; exact SeqAt.EqAt.list_tuple p1.isList p2 (SeqAt.room_here hu)
    | @lst l2 ys es q2 b =>
      obtain ⟨ws, r2, p2, _⟩ := I.list q2
      cases ry
      show SeqAt.EqAt A s _ _ (PyData.eqvAll ds es)
      have n1 : us.toArray.size = ds.length := by rw [List.size_toArray, ← r1.length, dpAll_len a]
      have n2 : ws.toArray.size = es.length := by rw [List.size_toArray, ← r2.length, dpAll_len b]
      by_cases hll : l1 = l2
      · subst hll
        have e := I.list_inj q2 q
        subst e
        rw [dp_sameAll I a b]
        exact SeqAt.EqAt.same _
      · by_cases hsz : us.toArray.size = ws.toArray.size
        · rw [← SeqAt.eqvAll_same_length (by omega : ds.length = es.length), ← n1]
          refine SeqAt.EqAt.of_refs hll (SeqAt.RcAt.lists p1.isList p2.isList hsz (SeqAt.room_here hu) fun j j1 j2 => ?_)
          have := eqAt_dpAll I A.in1 a b r1 r2 (SeqAt.room_in hu) j (by simpa using j1) (by simpa using j2)
          simpa using this
        · rw [SeqAt.eqvAll_other_length (by omega : ds.length ≠ es.length)]
          exact SeqAt.EqAt.of_refs hll (SeqAt.RcAt.lists_lengths p1.isList p2.isList (by simpa using hsz) (SeqAt.room_here hu))
  | _, _, _, _, v, u, A, .tup (a := l1) (ds := ds) q a, hy, rx, ry, hu => by
    cases rx
    obtain ⟨us, r1, p1, _⟩ := I.tuple q
    cases hy with
    | non => cases ry; exact SeqAt.EqAt.tuple_none p1 (SeqAt.room_here hu)
    | bl y => cases ry; exact SeqAt.EqAt.tuple_bool y p1 (SeqAt.room_here hu)
    | int y => obtain ⟨u, rfl⟩ := ry; exact SeqAt.EqAt.tuple_int y u p1 (SeqAt.room_here hu)
    | str y => obtain ⟨u, rfl⟩ := ry; exact SeqAt.EqAt.tuple_str y u p1 (SeqAt.room_here hu)
    | lst q2 _ => obtain ⟨_, _, p2, _⟩ := I.list q2; cases ry; exact SeqAt.EqAt.tuple_list p1 p2.isList (SeqAt.room_here hu)
    | @tup l2 ys es q2 b =>
      obtain ⟨ws, r2, p2, _⟩ := I.tuple q2
      cases ry
      show SeqAt.EqAt A s _ _ (PyData.eqvAll ds es)
      have n1 : us.toArray.size = ds.length := by rw [List.size_toArray, ← r1.length, dpAll_len a]
      have n2 : ws.toArray.size = es.length := by rw [List.size_toArray, ← r2.length, dpAll_len b]
      by_cases hll : l1 = l2
      · subst hll
        have e := I.tuple_inj q2 q
        subst e
        rw [dp_sameAll I a b]
        exact SeqAt.EqAt.same _
      · rw [← SeqAt.eqvAll_eq ds es, ← n1, ← n2]
        refine SeqAt.EqAt.of_refs hll (SeqAt.RcAt.tuples p1 p2 (SeqAt.room_here hu) fun j j1 j2 => ?_)
        have := eqAt_dpAll I A.in1 a b r1 r2 (SeqAt.room_in hu) j (by simpa using j1) (by simpa using j2)
        simpa using this
theorem eqAt_dpAll (I : Inv X pins σ H s) : ∀ {xs ys : List V} {ds es : List PyData} {us ws : List Value} (A : Around), DpAll X.K H xs ds → DpAll X.K H ys es → Vals xs us → Vals ys ws → A.units + min (PyData.depthAll ds) (PyData.depthAll es) < cLine →
    ∀ j (h1 : j < us.length) (h2 : j < ws.length), SeqAt.EqAt A s us[j] ws[j] (SeqAt.pairEq ds es j)
  | _, _, _, _, _, _, _, .nil, _, r1, _, _, j, h1, _ => by cases r1; exact absurd h1 (Nat.not_lt_zero _)
  | _, _, _, _, _, _, _, .cons _ _, .nil, _, r2, _, j, _, h2 => by cases r2; exact absurd h2 (Nat.not_lt_zero _)
  | _, _, _, _, _, _, A, .cons a as, .cons b bs, r1, r2, hu, j, h1, h2 => by
    cases r1 with
    | cons c1 t1 =>
      cases r2 with
      | cons c2 t2 =>
        cases j with
        | zero => exact eqAt_dp I A a b c1 c2 (SeqAt.room_head hu)
        | succ j => exact eqAt_dpAll I A as bs t1 t2 (SeqAt.room_tail hu) j (Nat.lt_of_succ_lt_succ h1) (Nat.lt_of_succ_lt_succ h2)
end
/-- two lists -/
theorem oeqDL {k : Nat} {a b : Addr} {ds es : List PyData} {Q : VK} (hr : Room k X.A) (hx : Dp X.K H (.ref a) (.list ds)) (hy : Dp X.K H (.ref b) (.list es)) (hd : min (PyData.depthAll ds) (PyData.depthAll es) ≤ 60) (h : Q (.bl (PyData.eqvAll ds es)) H) : wO X (compareOp .Eq) (.ref a) (.ref b) H Q := by
  refine ⟨fun pins s σ v u I rx ry => ?_⟩
  have hu := hr.units
  cases hx with
  | lst q1 a1 =>
    cases hy with
    | lst q2 a2 =>
      cases rx
      cases ry
      obtain ⟨us, r1, p1, _⟩ := I.list q1
      obtain ⟨ws, r2, p2, _⟩ := I.list q2
      have n1 : us.toArray.size = ds.length := by rw [List.size_toArray, ← r1.length, dpAll_len a1]
      have n2 : ws.toArray.size = es.length := by rw [List.size_toArray, ← r2.length, dpAll_len a2]
      by_cases hsz : us.toArray.size = ws.toArray.size
      · rw [← SeqAt.eqvAll_same_length (by omega : ds.length = es.length), ← n1] at h
        refine SeqAt.RcAt.lists p1.isList p2.isList hsz (by omega) (fun j j1 j2 => ?_) _ _ _ _ ⟨.bl _, H, I, rfl, h⟩
        have := eqAt_dpAll I X.A.in1 a1 a2 r1 r2 (by show X.A.units + 1 + _ < cLine; omega) j (by simpa using j1) (by simpa using j2)
        simpa using this
      · rw [SeqAt.eqvAll_other_length (by omega : ds.length ≠ es.length)] at h
        exact SeqAt.RcAt.lists_lengths p1.isList p2.isList (by simpa using hsz) (by omega) _ _ _ _ ⟨.bl _, H, I, rfl, h⟩
theorem oneDL {k : Nat} {a b : Addr} {ds es : List PyData} {Q : VK} (hr : Room k X.A) (hx : Dp X.K H (.ref a) (.list ds)) (hy : Dp X.K H (.ref b) (.list es)) (hd : min (PyData.depthAll ds) (PyData.depthAll es) ≤ 60) (h : Q (.bl (!PyData.eqvAll ds es)) H) : wO X (compareOp .NotEq) (.ref a) (.ref b) H Q := by
  refine ⟨fun pins s σ v u I rx ry => ?_⟩
  have hu := hr.units
  cases hx with
  | lst q1 a1 =>
    cases hy with
    | lst q2 a2 =>
      cases rx
      cases ry
      obtain ⟨us, r1, p1, _⟩ := I.list q1
      obtain ⟨ws, r2, p2, _⟩ := I.list q2
      have n1 : us.toArray.size = ds.length := by rw [List.size_toArray, ← r1.length, dpAll_len a1]
      have n2 : ws.toArray.size = es.length := by rw [List.size_toArray, ← r2.length, dpAll_len a2]
      by_cases hsz : us.toArray.size = ws.toArray.size
      · rw [← SeqAt.eqvAll_same_length (by omega : ds.length = es.length), ← n1] at h
        refine SeqAt.RcNeAt.lists p1.isList p2.isList hsz (by omega) (fun j j1 j2 => ?_) _ _ _ _ ⟨.bl _, H, I, rfl, h⟩
        have := eqAt_dpAll I X.A.in1 a1 a2 r1 r2 (by show X.A.units + 1 + _ < cLine; omega) j (by simpa using j1) (by simpa using j2)
        simpa using this
      · rw [SeqAt.eqvAll_other_length (by omega : ds.length ≠ es.length)] at h
        exact SeqAt.RcNeAt.lists_lengths p1.isList p2.isList (by simpa using hsz) (by omega) _ _ _ _ ⟨.bl _, H, I, rfl, h⟩
/-! ### lists of texts -/
theorem dpStrs {K : PySem.W.Frag} {H : Hp} : ∀ ys : List Str, DpAll K H (ys.map V.str) (ys.map PyData.str)
  | [] => .nil
  | _ :: ys => .cons (.str _) (dpStrs ys)
theorem depthStrs : ∀ ys : List Str, PyData.depthAll (ys.map PyData.str) ≤ 1
  | [] => by decide
  | y :: ys => by
    have := depthStrs ys
    simp only [List.map_cons, PyData.depthAll, PyData.depth]
    omega
theorem eqvStrs : ∀ ys zs : List Str, PyData.eqvAll (ys.map PyData.str) (zs.map PyData.str) = decide (ys = zs)
  | [], [] => rfl
  | [], _ :: _ => rfl
  | _ :: _, [] => rfl
  | y :: ys, z :: zs => by
    rw [List.map_cons, List.map_cons, PyData.eqvAll, eqvStrs ys zs]
    simp only [PyData.eqv]
    by_cases h1 : y = z
    · subst h1
      by_cases h2 : ys = zs
      · subst h2; simp
      · simp [h2]
    · simp [h1]
theorem oeqStrs {k : Nat} {a b : Addr} {ys zs : List Str} {Q : VK} (hr : Room k X.A) (hx : SqL X.K H a (ys.map V.str)) (hy : SqL X.K H b (zs.map V.str)) (h : Q (.bl (decide (ys = zs))) H) : wO X (compareOp .Eq) (.ref a) (.ref b) H Q :=
  oeqDL hr (.lst hx (dpStrs ys)) (.lst hy (dpStrs zs)) (by have := depthStrs ys; omega) (by rw [eqvStrs]; exact h)
theorem oneStrs {k : Nat} {a b : Addr} {ys zs : List Str} {Q : VK} (hr : Room k X.A) (hx : SqL X.K H a (ys.map V.str)) (hy : SqL X.K H b (zs.map V.str)) (h : Q (.bl (!decide (ys = zs))) H) : wO X (compareOp .NotEq) (.ref a) (.ref b) H Q :=
  oneDL hr (.lst hx (dpStrs ys)) (.lst hy (dpStrs zs)) (by have := depthStrs ys; omega) (by rw [eqvStrs]; exact h)
end
end Z

set_option maxRecDepth 100000
set_option maxHeartbeats 4000000
namespace Z
open PySem PySem.Spec PyProof.Rows L2
open Evl (Ex)
/-! ### instances: fields, methods, making -/
/-- a method of the class at C: how it binds, what it promises -/
def Mf (P : Program) (w : World) (K : PySem.W.Frag) (mg : Str → Option Value) (base : Heap) (k : Nat) (C : Addr) (m : Str) (dvs : List V) (sp : Sp) : Prop :=
  ∃ (f : Addr) (fd : FuncData) (ps : List Str) (ds : List Value), Cls K C ∧ Meth K C m f ∧ Binds K fd ps ds ∧ Vals dvs ds ∧ FnOk P w K mg base (L2N.CX P w) k f fd ps sp
theorem Mf.mono {P : Program} {w : World} {K : PySem.W.Frag} {mg : Str → Option Value} {base : Heap} {k j : Nat} {C : Addr} {m : Str} {dvs : List V} {sp : Sp} (h : Mf P w K mg base k C m dvs sp) (hk : k ≤ j) : Mf P w K mg base j C m dvs sp := by
  obtain ⟨f, fd, ps, ds, h0, h1, h3, h4, h5⟩ := h
  exact ⟨f, fd, ps, ds, h0, h1, h3, h4, h5.mono hk⟩
section
variable {X : Cx} {σ : Z.St} {H : Hp} {e o : Expr} {es : List Expr} {D : Ends} {W : WX} {p pos pos' apos : Pos} {Q : VK} {f : Str}
theorem zfld (h : wE X o σ H fun x H1 => ∃ a C dx fs v, x = .ref a ∧ H1 a = some (.ins C dx fs) ∧ Cls X.K C ∧ NoAttr X.K C f ∧ fs.lookup f = some v ∧ Q v H1)
    (hb : attributeBase o f X.env (eval o X.env) = eval o X.env := by rfl) : wE X (.Attribute o f pos) σ H Q := ofE (pe_fld sE hb) h
theorem sfld (h : wE X e σ H fun y H1 => wE X o σ H1 fun x H2 => ∃ a C dx fs, x = .ref a ∧ H2 a = some (.ins C dx fs) ∧ Cls X.K C ∧ NoAttr X.K C f ∧ fs.length < 1000 ∧ D.nx σ (upd H2 a (.ins C dx (putF f y fs))))
    (hs : swapsWith e (some (.Attribute o f pos')) pos.line X.env = pure false := by rfl) : wS X (.Assign [.Attribute o f pos'] e pos) D σ H := ofS (ps_fld sE sE hs) h
theorem zmeth {m : Str} {j : Nat} {pl : Sem Bool} (hr : Room j X.A) (tk : L2N.Takes X W)
    (h : wE X o σ H fun x H1 => ∃ a C dx fs k dvs sp, x = .ref a ∧ H1 a = some (.ins C dx fs) ∧ fs.lookup m = none ∧ Mf X.prog X.w X.K X.mg X.base k C m dvs sp ∧ k ≤ j ∧ wA X (e :: es) σ H1 fun vs H2 => sp (x :: (vs ++ dvs)) H2 Q fun cls d H' => W cls d σ H')
    (hst : starEach (e :: es) X.env = (false, eval e X.env) :: starEach es X.env := by rfl) (hpl : (backTo pos (starEach es X.env)).any (·.1) = false := by rfl)
    (ht : eval (.Call (.Attribute o m apos) (e :: es) [] pos) X.env = (do
      let ov ← eval o X.env
      standAt apos.atName
      let (f, first) ← holding [ov] (getMethod ov m pl)
      callWith pos f first (backTo pos (starEach (e :: es) X.env)) (backToKw pos (keywordEach [] X.env))) := by rfl) : wE X (.Call (.Attribute o m apos) (e :: es) [] pos) σ H Q := by
  refine ⟨fun pins s I => ?_⟩
  refine PySem.W.methodCall_KW (pl := pl) (thn (h.run pins s I) fun u s1 ⟨x, H1, I1, rx, a, C, dx, fs, k, dvs, sp, ex, ea, l, F, hk, q⟩ => ?_) ht
  subst ex
  obtain rfl : u = Value.ref a := rx
  obtain ⟨fa, fd, ps, ds, hc, hm, hb, hd, FF⟩ := F
  refine getmeth_ok I1 ea hc hm l ?_
  refine PySem.W.callWith_K (first := [.ref a]) (h₀ := X.base) I.ok.mod.kin hm.kp (thn (q.run pos pins s1 I1) fun us s2 ⟨vs, H2, I2, r, q2⟩ => ⟨I2.kIn, ?_⟩) hst hpl
  exact run_gf (us := .ref a :: us) (vs := .ref a :: vs) FF (hr.mono hk) hb hd tk I2 (.cons rfl r) q2
theorem zmeth0 {m : Str} {j : Nat} {pl : Sem Bool} (hr : Room j X.A) (tk : L2N.Takes X W)
    (h : wE X o σ H fun x H1 => ∃ a C dx fs k dvs sp, x = .ref a ∧ H1 a = some (.ins C dx fs) ∧ fs.lookup m = none ∧ Mf X.prog X.w X.K X.mg X.base k C m dvs sp ∧ k ≤ j ∧ sp (x :: dvs) H1 Q fun cls d H' => W cls d σ H')
    (ht : eval (.Call (.Attribute o m apos) [] [] pos) X.env = (do
      let ov ← eval o X.env
      standAt apos.atName
      let (f, first) ← holding [ov] (getMethod ov m pl)
      callWith pos f first (backTo pos (starEach [] X.env)) (backToKw pos (keywordEach [] X.env))) := by rfl) : wE X (.Call (.Attribute o m apos) [] [] pos) σ H Q := by
  refine ⟨fun pins s I => ?_⟩
  refine PySem.W.methodCall_KW (pl := pl) (thn (h.run pins s I) fun u s1 ⟨x, H1, I1, rx, a, C, dx, fs, k, dvs, sp, ex, ea, l, F, hk, q⟩ => ?_) ht
  subst ex
  obtain rfl : u = Value.ref a := rx
  obtain ⟨fa, fd, ps, ds, hc, hm, hb, hd, FF⟩ := F
  refine getmeth_ok I1 ea hc hm l ?_
  exact PySem.W.callWith_K0 (first := [.ref a]) I1.kIn hm.kp (run_gf (us := [.ref a]) (vs := [.ref a]) FF (hr.mono hk) hb hd tk I1 (.cons rfl .nil) q)
/-! ### making -/
theorem own_ex {H : Hp} {x dx : Addr} {o1 o2 : HO} (hx : H x = none) (hd : H dx = none) : Ex H (upd (upd H dx o1) x o2) := fun b o e => by
  have n1 : b ≠ x := fun z => by rw [z, hx] at e; cases e
  have n2 : b ≠ dx := fun z => by rw [z, hd] at e; cases e
  rw [upd_ne n1, upd_ne n2]; exact e
theorem run_mk {pins : List (Addr × Obj)} {s : Shared} {k : Nat} {C fa : Addr} {fd : FuncData} {ps : List Str} {sp : Sp} {dvs : List V} {ds us : List Value} {vs : List V} (M : Mk X.K C fa) (F : FnOk X.prog X.w X.K X.mg X.base (L2N.CX X.prog X.w) k fa fd ps sp) (hr : Room (k + 1) X.A) (hb : Binds X.K fd ps ds) (hd : Vals dvs ds) (tk : L2N.Takes X W)
    (I : L2.Inv X pins σ H s) (r : Vals vs us)
    (h : ∀ x dx, H x = none → H dx = none → dx ≠ x → sp (.ref x :: (vs ++ dvs)) (upd (upd H dx (.own x)) x (.ins C dx [])) (fun v H2 => v = .non ∧ Q (.ref x) H2) fun cls d H' => W cls d σ H') :
    wpAny (model X.prog X.w) X.A (call (.ref C) us) (EP X pins σ Q) X.xe s := by
  have hq := h (s.heap.objs.size + 1) s.heap.objs.size (I.hok.fresh (Nat.le_succ _)) (I.hok.fresh (Nat.le_refl _)) (Nat.ne_of_lt (Nat.lt_succ_self _))
  have I2 := Inv.made (C := C) I
  have r2 : Vals (V.ref (s.heap.objs.size + 1) :: (vs ++ dvs)) (Value.ref (s.heap.objs.size + 1) :: (us ++ ds)) := .cons rfl (r.append hd)
  have hl : (Value.ref (s.heap.objs.size + 1) :: us ++ ds).length = ps.length := by
    have e := r2.length
    rw [F.len _ _ _ _ hq] at e
    exact e.symm
  refine wpAny_call (make_map (f := fa) I.kIn M.makes M.init (beq_iff_eq.mp M.fn) (codeAny_mono (F.run _ X.stack _ _ ⟨Value.ref (s.heap.objs.size + 1) :: us, []⟩ (Value.ref (s.heap.objs.size + 1) :: (us ++ ds)) _ _ (fun cls d H' => W cls d σ H') (hr.make C us [])
    (I2.env0.make C us []) (hb _ (Value.ref (s.heap.objs.size + 1) :: us) I2.kIn hl) r2 hq) fun r s' hq' => ?_))
  cases r with
  | error er => exact tk er s' (L2N.XE.of_call I2 (fun _ _ _ q => q) hq')
  | ok fl =>
    cases fl with
    | ret u =>
      obtain ⟨v, H', I3, rv, ev, q3⟩ := I2.after hq'
      subst ev
      exact ⟨rv, ⟨V.ref (s.heap.objs.size + 1), H', I3, rfl, q3⟩⟩
    | next => exact False.elim hq'
    | brk => exact False.elim hq'
    | cont => exact False.elim hq'
/-- a class and its __init__ -/
def Nf (P : Program) (w : World) (K : PySem.W.Frag) (mg : Str → Option Value) (base : Heap) (k : Nat) (x : Str) (C : Addr) (dvs : List V) (sp : Sp) : Prop :=
  ∃ (f : Addr) (fd : FuncData) (ps : List Str) (ds : List Value), mg x = some (.ref C) ∧ Mk K C f ∧ Binds K fd ps ds ∧ Vals dvs ds ∧ FnOk P w K mg base (L2N.CX P w) k f fd ps sp
theorem zmk {x : Str} {k j : Nat} {C : Addr} {dvs : List V} {sp : Sp} (F : Nf X.prog X.w X.K X.mg X.base k x C dvs sp) (hr : Room j X.A) (hk : k + 1 ≤ j) (tk : L2N.Takes X W) (hg : Gl X x)
    (h : wA X (e :: es) σ H fun vs H1 => ∀ a dx, H1 a = none → H1 dx = none → dx ≠ a → sp (.ref a :: (vs ++ dvs)) (upd (upd H1 dx (.own a)) a (.ins C dx [])) (fun v H2 => v = .non ∧ Q (.ref a) H2) fun cls d H' => W cls d σ H')
    (hdb : (x == ("__debug__" : Str)) = false := by decide) (he : starEach (e :: es) X.env = (false, eval e X.env) :: starEach es X.env := by rfl) (hpl : (backTo pos (starEach es X.env)).any (·.1) = false := by rfl) : wE X (.Call (.Name x p) (e :: es) [] pos) σ H Q := by
  refine ⟨fun pins s I => ?_⟩
  obtain ⟨fa, fd, ps, ds, hm, M, hb, hd, FF⟩ := F
  refine wpAny_Call_Name_kw (ld_glob I hg hm ?_ hdb)
  refine PySem.W.callWith_K (h₀ := X.base) I.ok.mod.kin M.kp (thn (h.run pos pins s I) fun us s1 ⟨vs, H1, I1, r, q⟩ => ⟨I1.kIn, ?_⟩) he hpl
  exact run_mk M FF (hr.mono hk) hb hd tk I1 r q
theorem zmk0 {x : Str} {k j : Nat} {C : Addr} {dvs : List V} {sp : Sp} (F : Nf X.prog X.w X.K X.mg X.base k x C dvs sp) (hr : Room j X.A) (hk : k + 1 ≤ j) (tk : L2N.Takes X W) (hg : Gl X x)
    (h : ∀ a dx, H a = none → H dx = none → dx ≠ a → sp (.ref a :: dvs) (upd (upd H dx (.own a)) a (.ins C dx [])) (fun v H2 => v = .non ∧ Q (.ref a) H2) fun cls d H' => W cls d σ H')
    (hdb : (x == ("__debug__" : Str)) = false := by decide) : wE X (.Call (.Name x p) [] [] pos) σ H Q := by
  refine ⟨fun pins s I => ?_⟩
  obtain ⟨fa, fd, ps, ds, hm, M, hb, hd, FF⟩ := F
  refine wpAny_Call_Name_kw (ld_glob I hg hm ?_ hdb)
  exact PySem.W.callWith_K0 I.kIn M.kp (run_mk (us := []) (vs := []) M FF (hr.mono hk) hb hd tk I .nil h)
/-- C() of a class without an own __init__ -/
theorem zmkP {x : Str} {C : Addr} (M : Mk0 X.K C) (top : PySem.W.mroIn X.K C (.type "object") = some true) (hm : X.mg x = some (.ref C)) (hg : Gl X x)
    (h : ∀ a dx H2, H a = none → Ex H H2 → H2 a = some (.ins C dx []) → Q (.ref a) H2)
    (hdb : (x == ("__debug__" : Str)) = false := by decide) : wE X (.Call (.Name x p) [] [] pos) σ H Q := by
  refine ⟨fun pins s I => ?_⟩
  refine wpAny_Call_Name_kw (ld_glob I hg hm ?_ hdb)
  refine PySem.W.callWith_K0 I.kIn M.kp ?_
  have I2 := Inv.made (C := C) I
  have hx := I.hok.fresh (Nat.le_succ s.heap.objs.size)
  have hd := I.hok.fresh (Nat.le_refl s.heap.objs.size)
  refine wpAny_call (make_map0 I.kIn M.makes M.init (fun self => PySem.W.Looks.of_pure (PySem.W.oi_bind self)) ?_)
  have Y := PySem.W.makes_of (M := model X.prog X.w) I.kIn M.makes
  have hget : ((s.heap.push PySem.W.emptyDict).push (PySem.W.instObj C s.heap.objs.size)).get? (s.heap.objs.size + 1) = some (PySem.W.instObj C s.heap.objs.size) := by heap_get
  have t1 : PySem.W.Looks (model X.prog X.w) ((s.heap.push PySem.W.emptyDict).push (PySem.W.instObj C s.heap.objs.size)) (typeOf (.ref (s.heap.objs.size + 1))) (.ref C) := (PySem.W.Looks.ld hget).andThen .now
  have t2 : PySem.W.Looks (model X.prog X.w) ((s.heap.push PySem.W.emptyDict).push (PySem.W.instObj C s.heap.objs.size)) (isInstance (.ref (s.heap.objs.size + 1)) (.type "object")) true := t1.andThen (Y.top.keeps fun b o e => Heap.get?_push_of_some _ (Heap.get?_push_of_some _ e))
  refine codeAny_call_builtin PySem.W.oi_plain PySem.W.entry_oi (@PySem.W.check_slot (model X.prog X.w) _ _ _ "object.__init__" "object" "__init__" (.ref (s.heap.objs.size + 1)) [] [] _ PySem.W.oi_kind PySem.W.oi_split t2 (PySem.W.oi_args (.ref (s.heap.objs.size + 1))) ?_)
  rw [PySem.W.oi_run]
  refine wpAny_pure (And.intro rfl ?_)
  exact ⟨V.ref (s.heap.objs.size + 1), _, I2, rfl, h _ _ _ hx (own_ex hx hd) upd_same⟩
/-! ### more: x.bit_length(), d.get(k, e) -/
theorem zbits (h : wE X o σ H fun x H1 => ∃ i, x = .int i ∧ Q (.int (Builtin.Int.intBits i : Nat)) H1) (hbase : attributeBase o "bit_length" X.env (eval o X.env) = eval o X.env := by rfl) (hline : (apos.endLine == pos.line) = true := by rfl) : wE X (.Call (.Attribute o "bit_length" apos) [] [] pos) σ H Q := ofE (pe_bits sE hbase hline) h
end
/-! ### a method of the text keeps its promise; an __init__ -/
section
variable {P : Program} {w : World} {K : PySem.W.Frag} {mg : Str → Option Value} {base : Heap}
theorem mf_mk {x q m : Str} {params : Arguments} {body : List Stmt} {scope : Scope} {C f : Addr} {ps : List Str} {k : Nat} {sp : Sp} (hF : ∃ fd, FunD K x q params body scope [] [] f fd) (hc : Cls K C) (hm : Meth K C m f)
    (hbind : ∀ (kV doc pm : Value) (an : Option Addr) (cdv ct : Value) (us : List Value), us.length = ps.length → bindArgs (PySem.W.fnOf x q params body scope .none kV doc pm an cdv ct) ⟨us, []⟩ = pure (ps.zip us))
    (ok : ∀ fd, FunD K x q params body scope [] [] f fd → FnOk P w K mg base (L2N.CX P w) k f fd ps sp) : Mf P w K mg base k C m [] sp := by
  obtain ⟨fd, F⟩ := hF
  exact ⟨f, fd, ps, [], hc, hm, F.bindsN hbind, .nil, ok fd F⟩
theorem nf_mk {x q n : Str} {params : Arguments} {body : List Stmt} {scope : Scope} {C f : Addr} {ps : List Str} {k : Nat} {sp : Sp} (hF : ∃ fd, FunD K x q params body scope [] [] f fd) (hg : mg n = some (.ref C)) (hm : Mk K C f)
    (hbind : ∀ (kV doc pm : Value) (an : Option Addr) (cdv ct : Value) (us : List Value), us.length = ps.length → bindArgs (PySem.W.fnOf x q params body scope .none kV doc pm an cdv ct) ⟨us, []⟩ = pure (ps.zip us))
    (ok : ∀ fd, FunD K x q params body scope [] [] f fd → FnOk P w K mg base (L2N.CX P w) k f fd ps sp) : Nf P w K mg base k n C [] sp := by
  obtain ⟨fd, F⟩ := hF
  exact ⟨f, fd, ps, [], hg, hm, F.bindsN hbind, .nil, ok fd F⟩
end
end Z

set_option maxRecDepth 100000
set_option maxHeartbeats 4000000
namespace Z
open PySem PySem.Spec PyProof.Rows L2
open Evl (Ex)
section
variable {X : Cx} {σ : Z.St} {H : Hp} {e e1 e2 f o a b elt : Expr} {es ifs : List Expr} {D : Ends} {W : WX} {p pos pos' apos tpos zpos : Pos} {Q : VK} {scope : Scope} {vs : List Nat} {elts : List Expr} {kk : Nat}
/-! ### dicts: display, d.get(k), d.get(k, x) -/
theorem zdget (hu : X.A.units + 1 < cLine) (h : wE X o σ H fun x H1 => ∃ a, x = .ref a ∧ IsD H1 a ∧ wE X e σ H1 fun y H2 => ∃ o, DGet H2 a y o ∧ Q (o.getD .non) H2)
    (m : M1 X o "get" apos e pos := by exact ⟨rfl, rfl, rfl, rfl⟩) : wE X (.Call (.Attribute o "get" apos) [e] [] pos) σ H Q := ofE (pe_dget1 hu sE sE m) h
theorem zdget2 (hu : X.A.units + 1 < cLine) (h : wE X o σ H fun x H1 => ∃ a, x = .ref a ∧ IsD H1 a ∧ wE X e σ H1 fun y H2 => wE X f σ H2 fun z H3 => ∃ o, DGet H3 a y o ∧ Q (o.getD z) H3)
    (m : M2 X o "get" apos e f pos := by exact ⟨rfl, rfl, rfl, rfl⟩) : wE X (.Call (.Attribute o "get" apos) [e, f] [] pos) σ H Q := ofE (pe_dget2 hu sE sE sE m) h
/-- trees of pairs, walked by wE -/
def PT2 (X : Cx) : List (Option Expr) → List Expr → List (TE × TE)
  | some k :: ks, v :: vs => (wE X k, wE X v) :: PT2 X ks vs
  | _, _ => []
theorem tPairs_imp {X : Cx} : ∀ {keys : List (Option Expr)} {values : List Expr} {σ : Z.St} {H : Hp} {Q Q' : List (V × V) → Hp → Prop}, tPairs (PT2 X keys values) σ H Q → (∀ ps H', Q ps H' → Q' ps H') → tPairs (PT2 X keys values) σ H Q'
  | some k :: ks, v :: vs, σ, H, Q, Q', h, q => wE.imp (show wE X k σ H _ from h) fun x H1 h1 => wE.imp h1 fun y H2 h2 => tPairs_imp (keys := ks) (values := vs) h2 fun ps H' z => q _ _ z
  | [], _, _, _, _, _, h, q => q _ _ h
  | none :: _, _, _, _, _, _, h, q => q _ _ h
  | some _ :: _, [], _, _, _, _, h, q => q _ _ h
theorem pps2 {X : Cx} {pos : Pos} : ∀ {keys : List (Option Expr)} {values : List Expr}, keys.all (·.isSome) = true → keys.length = values.length → PPs X pos keys values (PT2 X keys values)
  | [], [], _, _ => pps_nil
  | some k :: ks, v :: vs, h, hl => pps_cons sE sE (pps2 (by simpa using h) (by simpa using hl))
theorem zdisp {keys : List (Option Expr)} {values : List Expr} (hall : keys.all (·.isSome) = true) (hl : keys.length = values.length) (h0 : keys ≠ []) (h15 : keys.length ≤ 15)
    (h : ∀ p H1, H p = none → Ex H H1 → H1 p = some (.dK []) → tPairs (PT2 X keys values) σ H1 fun ps H2 => Ex H1 H2 ∧ ∃ kvs : List (Key × V), ps = kvs.map (fun kv => (kV kv.1, kv.2)) ∧ kvs.length ≤ 15 ∧ ∀ H3, Ex H H3 → (∀ b o, b ≠ p → H2 b = some o → H3 b = some o) → H3 p = some (.dK (mergeK [] kvs)) → Q (.ref p) H3) : wE X (.Dict keys values pos) σ H Q := by
  refine ofE (pe_disp (pps2 hall hl) hall hl h0 h15) fun p hpn => ?_
  have hx := h p _ hpn (Ex.new hpn) upd_same
  exact tPairs_imp hx fun ps H2 ⟨e2, kvs, e, hlen, q⟩ => ⟨e2 _ _ upd_same, kvs, e, hlen, q _ (Ex.past (Ex.trans (Ex.new hpn) e2) hpn) (fun b o n z => by rw [upd_ne n]; exact z) upd_same⟩
/-! ### more steps -/
theorem oles {x y : Str} (h : Q (.bl (!decide (y.cps.toList < x.cps.toList))) H) : wO X (compareOp .LtE) (.str x) (.str y) H Q := ofO op_le_str ⟨x, y, rfl, rfl, h⟩
theorem oeqsT {x y : Str} (e : x = y) (h : Q (.bl true) H) : wO X (compareOp .Eq) (.str x) (.str y) H Q := oeq rfl (by rw [decide_eq_true (congrArg V.str e)]; exact h)
theorem oeqsF {x y : Str} (e : x ≠ y) (h : Q (.bl false) H) : wO X (compareOp .Eq) (.str x) (.str y) H Q := oeq rfl (by rw [decide_eq_false fun z => e (V.str.inj z)]; exact h)
theorem onesT {x y : Str} (e : x = y) (h : Q (.bl false) H) : wO X (compareOp .NotEq) (.str x) (.str y) H Q := one rfl (by rw [decide_eq_true (congrArg V.str e)]; exact h)
theorem onesF {x y : Str} (e : x ≠ y) (h : Q (.bl true) H) : wO X (compareOp .NotEq) (.str x) (.str y) H Q := one rfl (by rw [decide_eq_false fun z => e (V.str.inj z)]; exact h)
theorem kstrS {x : Str} (h : Q (.str x) H) : wK X (.type "str") [.str x] H Q := ofK SkE.call_str_str ⟨x, rfl, h⟩
/-! ### comprehensions over zip -/
theorem piZip (hm : X.mg "zip" = none) (hg : Gl X "zip") (hsa : starEach [e1, e2] X.env = (false, eval e1 X.env) :: starEach [e2] X.env := by rfl) (hpl : (backTo zpos (starEach [e2] X.env)).any (·.1) = false := by rfl) : PI X (.Tuple elts kk tpos) (.Call (.Name "zip" p) [e1, e2] [] zpos) (iZip X.K (wA X [e1, e2])) := pi_zip hg hm sA hsa hpl
theorem tnZip {xs ys : List V} (G : Nat → List V → Hp → Prop) (hG : ∀ j ws H H', G j ws H → Ex H H' → G j ws H') (h0 : ∀ H, G 0 [] H) (hlen : xs.length = ys.length)
    (h : wA X [e1, e2] σ H fun vs0 H1 => ∃ a b, vs0 = [.ref a, .ref b] ∧ SqL X.K H1 a xs ∧ SqL X.K H1 b ys ∧
      (∀ j x y H' L ws T H2, xs[j]? = some x → ys[j]? = some y → Ex H1 H' → H1 L = none → H' L = some (.lst ws) → G j ws (del H' L) → H' T = none → Ex H' H2 → H2 T = some (.tup [x, y]) → turnG X scope (.Tuple elts kk tpos) ifs elt vs G L ws j (.ref T) σ H2) ∧ ∀ L H' ws, H1 L = none → Ex H1 H' → H' L = some (.lst ws) → G xs.length ws H' → Q (.ref L) H') :
    tLc (iZip X.K (wA X [e1, e2])) (bG X scope (.Tuple elts kk tpos)) (bTs X scope ifs) (bE X scope elt) vs σ H Q := by
  refine ⟨fun ps pins s I => thn (h.run ps pins s I) fun us s' ⟨vs0, H1, J, r, a, b, e, hx, hy, q2, q3⟩ => ⟨vs0, H1, J, r, a, b, xs, ys, e, hx, hy, fun L hL => ?_⟩⟩
  refine ⟨fun j d H' => d = xs.length - j ∧ j ≤ xs.length ∧ (Ex H1 H' ∧ ∃ ws, H' L = some (.lst ws) ∧ G j ws (del H' L)), ⟨xs.length, by simp, Nat.zero_le _, Ex.new hL, [], upd_same, h0 _⟩, ?_⟩
  rintro j d H' ⟨rfl, hj, e1, ws, hw, g⟩
  by_cases hlt : j < xs.length
  · refine .inr ⟨⟨xs, ys, xs[j], ys[j]'(by omega), Evl.ex_l e1 hx, Evl.ex_l e1 hy, List.getElem?_eq_getElem _, List.getElem?_eq_getElem _⟩, fun H' => Ex H1 H' ∧ ∃ ws, H' L = some (.lst ws) ∧ G (j + 1) ws (del H' L), fun H' p' => ⟨xs.length - (j + 1), by omega, rfl, hlt, p'⟩, ?_⟩
    rintro v H2 ⟨T, x, y, rfl, hT, rfl, hx', hy'⟩
    have eT : Ex H' (upd H' T (.tup [x, y])) := Ex.new hT
    have nT : T ≠ L := fun z => by rw [z, hw] at hT; cases hT
    refine turnG_of (G := G) hG hL (e1.trans eT) (eT _ _ hw) (q2 j x y H' L ws T _ (hx' xs (Evl.ex_l e1 hx)) (hy' ys (Evl.ex_l e1 hy)) e1 hL hw g hT eT upd_same)
  · have e : j = xs.length := by omega
    subst e
    exact .inl ⟨⟨xs, ys, Evl.ex_l e1 hx, Evl.ex_l e1 hy, .inl (Nat.le_refl _)⟩, q3 L H' ws hL e1 hw (hG _ _ _ _ g (del_ex _ _))⟩
end
/-! ### what is new in a heap -/
def nw (H H' : Hp) : Hp := fun b => match H b with
  | none => H' b
  | some _ => none
theorem nw_at {H H' : Hp} {a : Addr} {o : HO} (h : H a = none) (h' : H' a = some o) : nw H H' a = some o := by unfold nw; rw [h]; exact h'
theorem nw_sub {H H' : Hp} : Ex (nw H H') H' := fun b o e => by
  unfold nw at e
  split at e
  · exact e
  · cases e
theorem nw_mono {H H' H'' : Hp} (e : Ex H' H'') : Ex (nw H H') (nw H H'') := fun b o q => by
  unfold nw at q ⊢
  split at q
  · exact e _ _ q
  · cases q
theorem nw_more {H0 H H' : Hp} (e : Ex H0 H) : Ex (nw H H') (nw H0 H') := fun b o q => by
  unfold nw at q ⊢
  split at q
  · rename_i hb
    rw [show H0 b = none from by
      cases h : H0 b with
      | none => rfl
      | some z => have := e _ _ h; rw [hb] at this; cases this]
    exact q
  · cases q
theorem nw_del {H H' : Hp} {L : Addr} {o : HO} (h : H L = some o) : Ex (nw H H') (del H' L) := fun b z q => by
  have n : b ≠ L := fun e => by subst e; unfold nw at q; rw [h] at q; cases q
  rw [del_ne n]
  exact nw_sub _ _ q
theorem nw_up {H H' : Hp} {L : Addr} {o1 o2 : HO} (h : H L = some o1) : Ex (nw H H') (upd H' L o2) := fun b z q => by
  have n : b ≠ L := fun e => by subst e; unfold nw at q; rw [h] at q; cases q
  rw [upd_ne n]
  exact nw_sub _ _ q
/-! ### a list of anything beside the empty list -/
theorem oeqNil {X : Cx} {H : Hp} {Q : VK} {k : Nat} {a b : Addr} {xs : List V} (hr : Room k X.A) (hx : SqL X.K H a xs) (hy : SqL X.K H b []) (h : Q (.bl xs.isEmpty) H) : wO X (compareOp .Eq) (.ref a) (.ref b) H Q := by
  refine ⟨fun pins s σ v u I rx ry => ?_⟩
  have hu := hr.units
  cases rx
  cases ry
  obtain ⟨us, r1, p1, _⟩ := I.list hx
  obtain ⟨ws, r2, p2, _⟩ := I.list hy
  cases r2
  cases xs with
  | nil =>
    cases r1
    exact SeqAt.RcAt.lists (e := fun _ => true) p1.isList p2.isList rfl (by omega) (fun j j1 j2 => absurd j1 (by simp)) _ _ _ _ ⟨.bl _, H, I, rfl, h⟩
  | cons x xs =>
    cases r1
    exact SeqAt.RcAt.lists_lengths p1.isList p2.isList (by simp) (by omega) _ _ _ _ ⟨.bl _, H, I, rfl, h⟩
theorem oneNil {X : Cx} {H : Hp} {Q : VK} {k : Nat} {a b : Addr} {xs : List V} (hr : Room k X.A) (hx : SqL X.K H a xs) (hy : SqL X.K H b []) (h : Q (.bl (!xs.isEmpty)) H) : wO X (compareOp .NotEq) (.ref a) (.ref b) H Q := by
  refine ⟨fun pins s σ v u I rx ry => ?_⟩
  have hu := hr.units
  cases rx
  cases ry
  obtain ⟨us, r1, p1, _⟩ := I.list hx
  obtain ⟨ws, r2, p2, _⟩ := I.list hy
  cases r2
  cases xs with
  | nil =>
    cases r1
    exact SeqAt.RcNeAt.lists (e := fun _ => true) p1.isList p2.isList rfl (by omega) (fun j j1 j2 => absurd j1 (by simp)) _ _ _ _ ⟨.bl _, H, I, rfl, h⟩
  | cons x xs =>
    cases r1
    exact SeqAt.RcNeAt.lists_lengths p1.isList p2.isList (by simp) (by omega) _ _ _ _ ⟨.bl _, H, I, rfl, h⟩
end Z

set_option maxRecDepth 100000
set_option maxHeartbeats 4000000
namespace Z
open PySem PySem.Spec PyProof.Rows L2
open Evl (Ex)
section
variable {X : Cx} {σ : Z.St} {H : Hp} {D : Ends} {W : WX} {body : List Stmt} {pos pos' : Pos}
/-- try: body, except x: suite -/
theorem stry0 {x : Str} {cl : Value} {np : Pos} {suite : List Stmt} {b₀ : Stmt} (tk : L2N.Takes X W) (hc : Names X x cl) (hs : X.stack = X.env :: X.outer) (hf : X.env.frame = some X.env.locals)
    (h : ∀ (pn : List (Addr × Obj)) (xe : Value → Shared → Prop), PassesOwn (model X.prog X.w) X.A X.env xe → L2N.Takes (X.tr pn xe) (fun cls d σ1 H1 => ∃ k, PySem.W.exmOne X.K cls cl = some k ∧
        (k = true → ∀ a oe pn, H1 a = none → L2N.Zn cls d oe → (∃ vs, oe.data = .fields vs) → wB (X.suite a ((a, oe) :: pn)) (b₀ :: suite) D σ1 H1) ∧
        (k = false → W cls d σ1 H1)) → wB (X.tr pn xe) body D σ H) : wS X (.Try body [.ExceptHandler (some (.Name x np)) none (b₀ :: suite) pos'] [] [] pos) D σ H := by
  refine ofS (L2N.ps_try_many (tb := fun W' => fun D σ H => ∀ (pn : List (Addr × Obj)) (xe : Value → Shared → Prop), PassesOwn (model X.prog X.w) X.A X.env xe → L2N.Takes (X.tr pn xe) W' → wB (X.tr pn xe) body D σ H)
    hs hf tk (fun W' pn xe tk' po => ⟨fun pins s σ H D I q => (q pn xe po tk').run pins s I⟩)
    (.cons (ts := fun a cls d => fun D σ H => ∀ oe pn, L2N.Zn cls d oe → (∃ vs, oe.data = .fields vs) → wB (X.suite a ((a, oe) :: pn)) (b₀ :: suite) D σ H) hc (fun a oe cls d pn hz hd => ⟨fun pins s σ H D I q => (q oe pn hz hd).run pins s I⟩) .nil)) ?_
  intro pn xe po tk'
  refine h pn xe po (tk'.imp fun cls d σ1 H1 q => ?_)
  obtain ⟨k, h1, h2, h3⟩ := q
  exact ⟨k, h1, fun hk a ha oe pn hz hd => h2 hk a oe pn ha hz hd, h3⟩
/-- o.f += value, of whole numbers -/
theorem sfldAdd {o value : Expr} {f : Str} {tpos : Pos} (h : wE X o σ H fun x H1 => ∃ a C dx fs i, x = .ref a ∧ H1 a = some (.ins C dx fs) ∧ Cls X.K C ∧ NoAttr X.K C f ∧ fs.lookup f = some (.int i) ∧ wE X value σ H1 fun y H2 => ∃ j, y = .int j ∧
    ∃ dx' fs', H2 a = some (.ins C dx' fs') ∧ fs'.length < 1000 ∧ D.nx σ (upd H2 a (.ins C dx' (putF f (.int (i + j)) fs')))) : wS X (.AugAssign (.Attribute o f tpos) .Add value pos) D σ H := by
  refine ofS (ps_fldaug sE sE in_add) (wE.imp h fun x H1 ⟨a, C, dx, fs, i, ex, hx, c, n, l, q⟩ => ⟨a, C, dx, fs, .int i, ex, hx, c, n, l, wE.imp q fun y H2 ⟨j, ey, q2⟩ => ?_⟩)
  exact ⟨i, j, rfl, ey, q2⟩
/-- d[i], d[i] = value of a dict -/
theorem zdat {o i : Expr} {Q : VK} (hu : X.A.units + 1 < cLine) (h : wE X o σ H fun x H1 => wE X i σ H1 fun y H2 => ∃ a v, x = .ref a ∧ DGet H2 a y (some v) ∧ Q v H2) (hs : NoSl i := by intro _ _; rfl) : wE X (.Subscript o i pos) σ H Q := ofE (pe_dget hu sE sE hs) h
theorem sdput {o i value : Expr} (hu : X.A.units + 1 < cLine) (h : wE X value σ H fun v H1 => wE X o σ H1 fun x H2 => wE X i σ H2 fun y H3 => ∃ a H4, x = .ref a ∧ DPut H3 a y v H4 ∧ D.nx σ H4) (hs : swapsWith value (some (.Subscript o i pos')) pos.line X.env = pure false := by rfl) : wS X (.Assign [.Subscript o i pos'] value pos) D σ H := ofS (ps_dput hu sE sE sE hs) h
end
end Z

set_option maxRecDepth 100000
set_option maxHeartbeats 4000000
namespace Z
open PySem PySem.Spec PyProof.Rows L2
open Evl (Ex)
/-! ### sorted(xs, key=lambda x: x.f): the lambda's code object comes from its def's table -/
section
variable {prog : Program} {w : World} {K : PySem.W.Frag} {A : Around} {s : Shared}
/-- lambda x: x.f called with an instance -/
theorem lam_attr {f c' x dx C : Addr} {q a at_ : Str} {params : Arguments} {scope : Scope} {cl : List (Str × Addr)} {pm ctv u : Value} {p1 p2 : Pos} {mA : Str → Option Value} (room : A.depth < recursionLimit)
    (hf : s.heap.get? f = some (PySem.W.kla_obj "<lambda>" q params (.Attribute (.Name a p1) at_ p2) scope cl pm c' ctv)) (hcode : s.heap.CodeRec (.ref c') q) (KX : K.In s.heap) (O : ObjM s.heap x dx C mA) (c : Cls K C) (n : NoAttr K C at_) (hv : mA at_ = some u) (hu : PySem.W.handedIn u = true) (hnl : s.heap.NoLimit)
    (hco : scope.isCoroutine = false) (hgen : scope.isGenerator = false) (hk : scope.kind = .function) (hcell : ∀ y ∈ scope.names, y.2 ≠ .cell) (hloc : scope.names.lookup a = some .local)
    (hbind : ∀ v : Value, bindArgs (PySem.W.kla_fn "<lambda>" q params (.Attribute (.Name a p1) at_ p2) scope cl pm (.ref c') ctv) ⟨[v], []⟩ = pure [(a, v)]) (hd : (a == ("__debug__" : Str)) = false) :
    codeAny (model prog w) A (.call (.ref f) ⟨[.ref x], []⟩) (fun r s' => ∃ h' tk, r = .ok (.ret u) ∧ s' = { s with heap := h', toks := tk } ∧ ∀ b o, s.heap.get? b = some o → h'.get? b = some o) s := by
  refine PySem.W.kla_callFunE room hf rfl hco hgen rfl hcode ?_
  rw [hbind]
  refine wpAny_pure (wpAny_newFunctionEnv hcell (fun y hy => ?_) (fun h₁ hns hsb => ⟨hnl.fresh _ hsb, ?_⟩) hk)
  · rw [List.mem_singleton.mp hy]; exact hloc
  have kp : ∀ b o, s.heap.get? b = some o → h₁.get? b = some o := fun b o e => hsb.extBut b o (Nat.ne_of_lt (Heap.lt_size e)) (Heap.get?_push_of_some _ e)
  show codeAny _ _ (.expr _ (PySem.W.envX q scope s.heap.objs.size f (.ref c') cl)) _ _
  refine PySem.W.kla_codeExpr (attr_of rfl (wpAny_Name (wpAny_loadName_local (v := .ref x) hk hloc hns ?_ ?_) hd))
  · simp [List.lookup]
  have O' : ObjM h₁ x dx C mA := ⟨kp _ _ O.obj, O.ns.at fun o e => kp _ _ e, O.ne⟩
  exact get_map (s := { s with heap := h₁, toks := s.toks + 1 }) (KX.keeps kp) O' (c.get _) c.hd n hv hu ⟨_, _, rfl, rfl, kp⟩
end
section
variable {X : Cx} {σ : Z.St} {H : Hp} {e : Expr} {Q : VK} {p pos lpos kpos p1 p2 : Pos}
theorem each_vals : ∀ {bs : List (Addr × Int)} {vs : List Value}, Vals (bs.map fun b => V.ref b.1) vs → PySem.W.EachIs (fun v (b : Addr × Int) => v = Value.ref b.1) vs bs
  | [], [], _ => .nil
  | b :: bs, v :: vs, h => by
    cases h with
    | cons r t => exact .cons r (each_vals t)
theorem vals_each : ∀ {bs : List (Addr × Int)} {vs : List Value}, PySem.W.EachIs (fun v (b : Addr × Int) => v = Value.ref b.1) vs bs → Vals (bs.map fun b => V.ref b.1) vs
  | _, _, .nil => .nil
  | _, _, .cons r t => .cons r (vals_each t)
/-- a lambda without names of its def's: its code object comes from its def's table at P, and nothing but that table changes -/
theorem lam_mk {P c : Addr} {params : Arguments} {body : Expr} {scope : Scope} {pins : List (Addr × Obj)} {s : Shared} {E R : Value → Shared → Prop} (J : Inv X pins σ H s) (TB : LamX.TabB X.base X.mg c P) (hcode : X.env.code = .ref c) (hT : LamX.TabS H P (X.env.qual ++ "<lambda>")) (hdef : defaultsOf params X.env = ([], []))
    (hfr : ∀ y ∈ scope.names, y.2 ≠ .free)
    (g : ∀ (fa cc : Addr) (pm ct : Value) (H1 : Hp) (s1 : Shared), Inv X pins σ H1 s1 → Ex (del H P) (del H1 P) → LamX.TabS H1 P (X.env.qual ++ "<lambda>") → s.heap.objs.size ≤ s1.heap.objs.size →
      s1.heap.get? fa = some (PySem.W.kla_obj "<lambda>" (X.env.qual ++ "<lambda>") params body scope (cloFrom X.env.cells scope.names []) pm cc ct) → H1 cc = some (LamX.CodeO cc (X.env.qual ++ "<lambda>")) → R (.ref fa) s1) :
    wpAny (model X.prog X.w) X.A (eval (.Lambda params body scope lpos) X.env) R E s := by
  obtain ⟨tb, hP, h3, hall⟩ := hT
  have rawP : s.heap.get? P = some { cls := .none, data := .fields tb } := J.hok P _ hP
  have bmP := TB.bm.keeps J.bk
  have cdP := TB.code.keeps J.bk
  have glP := J.mod.glob.keeps J.bk
  have clo := closure_ok (scope := scope) (env := X.env) (fun y hy e => absurd e (hfr y hy))
  refine PySem.W.kla_eval hdef ?_
  cases hm : codeAmong lpos tb.toList with
  | some cv =>
    obtain ⟨cc, rfl, hcc⟩ := hall lpos cv hm
    refine PySem.W.kla_makeFunctionHit (mg := X.mg) (c := c) (P := P) (ps := tb) clo J.ok.glob glP hcode cdP rawP h3 hm bmP fun ct hp tk keep hsz => ?_
    refine g _ cc _ ct H _ (J.kept fun b o e => Heap.get?_push_of_some _ (keep b o e)) (Evl.Ex.refl _) ⟨tb, hP, h3, hall⟩ ?_ (Heap.get?_push_size _ rfl) hcc
    show s.heap.objs.size ≤ (hp.push _).objs.size
    rw [Heap.size_push]
    omega
  | none =>
    refine PySem.W.kla_makeFunction (mg := X.mg) (c := c) (P := P) (ps := tb) clo J.ok.glob glP hcode cdP rawP h3 hm TB.gP bmP fun cc ct hp tk keep hge hlt hrec htab => ?_
    obtain ⟨c2, oc, fields, tt, rfl', hoc, hdat, hq⟩ := hrec
    cases rfl'
    have freshC : H cc = none := J.hok.fresh hge
    have nPC : P ≠ cc := fun z => by rw [z, freshC] at hP; cases hP
    have J1 := LamX.inv_table (t' := tk) (q := X.env.qual ++ "<lambda>") (more := #[rawInt lpos.line, rawInt lpos.col, .ref cc]) (h' := hp.push (PySem.W.kla_obj "<lambda>" (X.env.qual ++ "<lambda>") params body scope (cloFrom X.env.cells scope.names []) ((X.mg "__name__").getD .none) cc ct)) J hP
      (fun b o hb e => Heap.get?_push_of_some _ (keep b o hb e)) (Heap.get?_push_of_some _ htab) hge ⟨oc, fields, tt, Heap.get?_push_of_some _ hoc, hdat, hq⟩
    have lst : (tb ++ #[rawInt lpos.line, rawInt lpos.col, .ref cc]).toList = tb.toList ++ [rawInt lpos.line, rawInt lpos.col, .ref cc] := by simp
    refine g _ cc _ ct _ _ J1 (fun b o e => ?_) ⟨_, by rw [upd_ne nPC]; exact upd_same, by rw [lst]; exact PySem.TriplesOk_snoc _ _ _ _ h3, fun p' cv hcv => ?_⟩ ?_ (Heap.get?_push_size _ rfl) upd_same
    · have nb : b ≠ P := fun z => by rw [z, del_same] at e; cases e
      rw [del_ne nb] at e ⊢
      rw [upd_ne (fun z => by rw [z, freshC] at e; cases e), upd_ne nb]
      exact e
    · rw [lst] at hcv
      rcases LamX.among_app _ h3 hcv with z | z
      · obtain ⟨c0, z1, z2⟩ := hall p' cv z
        refine ⟨c0, z1, ?_⟩
        rw [upd_ne (fun y => by rw [y, freshC] at z2; cases z2), upd_ne (fun y => by rw [y, hP] at z2; exact absurd (Option.some.inj z2).symm (LamX.codeO_ne tb))]
        exact z2
      · exact ⟨cc, z, upd_same⟩
    · show s.heap.objs.size ≤ (hp.push _).objs.size
      rw [Heap.size_push]
      omega
end
end Z

set_option maxRecDepth 100000
set_option maxHeartbeats 4000000
namespace Z
open PySem PySem.Spec PyProof.Rows L2
open Evl (Ex)
/-! ### sorted of a tuple, by a key -/
section
variable {prog : Program} {w : World} {A : Around} {E : Value → Shared → Prop} {s : Shared} {vs : List Value}
theorem gather_tup {t : Addr} {R : List Value → Shared → Prop} (ht : IsTup s.heap t vs.toArray) (hz : vs.length ≤ sizeLine)
    (q : R vs { s with heap := (s.heap.push (seqObj "list" #[] 0)).update s.heap.objs.size (Obj.mapSeq (· ++ vs.toArray)) }) : wpAny (model prog w) A (collect (.ref t)) R E s := by
  obtain ⟨ob, hob, hcls, n, hdat⟩ := ht
  have hob2 : (s.heap.push (seqObj "list" #[] 0)).get? t = some ob := Heap.get?_push_of_some _ hob
  have hnew : (s.heap.push (seqObj "list" #[] 0)).get? s.heap.objs.size = some (seqObj "list" #[] 0) := Heap.get?_push_size _ rfl
  unfold collect
  refine wpAny_bind (wpAny_runValue (codeAny_builtin entry_proto_collect' ?_))
  show wpAny _ _ (do again (.builtin "list.__iadd__" ⟨[← newList [], .ref t], []⟩)) _ _ s
  refine wpAny_bind (wpAny_newList (wpAny_pure ⟨Code.quiet_builtin _ (by decide +kernel), codeAny_builtin entry_list_iadd' ?_⟩))
  show wpAny _ _ (Builtin.List.listExtendWith (.ref s.heap.objs.size) (.ref t) (.ref s.heap.objs.size)) _ _ { s with heap := s.heap.push (seqObj "list" #[] 0) }
  unfold Builtin.List.listExtendWith
  refine wpAny_bind (wpAny_typeOf (T := "tuple") ⟨ob, hob2, hcls⟩ ?_)
  have same : (Value.type "tuple" == Value.type "tuple") = true := by rfl
  rw [if_pos (by rw [same]; simp)]
  refine wpAny_bind (listItems_at hob2 hdat (wpAny_bind (listItems_at (xs := #[]) (n := 0) hnew rfl ?_)))
  rw [if_neg (by simp)]
  refine wpAny_bind (listUpdate_at (xs := #[]) (n := 0) hnew rfl (wpAny_pure ?_) (Nat.zero_le _) (by show (#[] ++ vs.toArray).size ≤ sizeLine + 1; simp only [Array.size_append, List.size_toArray, List.length_nil]; omega))
  show wpAny (model prog w) A (do
    let ob ← load s.heap.objs.size
    match ob.data with
    | .seq its _ => pure its.toList
    | _ => unsupported "internal:collect") R E { s with heap := (s.heap.push (seqObj "list" #[] 0)).update s.heap.objs.size (Obj.mapSeq (· ++ vs.toArray)) }
  refine wpAny_bind (wpAny_load (get?_update_seq hnew _) ?_)
  show wpAny _ _ (pure ((#[] : Array Value) ++ vs.toArray).toList) R E _
  have e : ((#[] : Array Value) ++ vs.toArray).toList = vs := by simp
  rw [e]
  exact wpAny_pure q
theorem sorted_tup {t : Addr} {kw : List (Str × Value)} {R : Value → Shared → Prop} (ht : IsTup s.heap t vs.toArray) (hz : vs.length ≤ sizeLine) (h1 : argsOk "sorted" ⟨[.ref t], kw⟩) (h2 : ∀ x, argsOk "list.sort" ⟨[.ref x], kw⟩)
    (q : ∀ E' : Value → Shared → Prop, wpAny (model prog w) A.in1.in1 (Builtin.«list.sort» ⟨[.ref (s.heap.objs.size + 1)], kw⟩) (fun f s' => f = .done (.ret .none) ∧ R (.ref (s.heap.objs.size + 1)) s') E' { s with heap := PySem.W.copyHeap s.heap vs }) :
    wpAny (model prog w) A (call (.builtin "sorted") [.ref t] kw) R E s := by
  refine call_function_entry_kw kind_sorted plain_sorted entry_sorted h1 ?_
  unfold Builtin.«sorted»
  refine wpAny_bind (m := checkCount "sorted" 1 1 _) (wpAny_pure (wpAny_bind (gather_tup ht hz (wpAny_bind (wpAny_newList ?_ hz)))))
  have size1 : ((s.heap.push (seqObj "list" #[] 0)).update s.heap.objs.size (Obj.mapSeq (· ++ vs.toArray))).objs.size = s.heap.objs.size + 1 := by rw [Heap.size_update, Heap.size_push]
  show wpAny _ _ _ _ _ { s with heap := PySem.W.copyHeap s.heap vs }
  rw [size1]
  refine wpAny_bind (wpAny_holding (wpAny_call_entry_kw slot_list_sort ⟨_, PySem.W.copyHeap_at s.heap vs, rfl⟩ entry_list_sort ?sortIt (h2 _)))
  case sortIt =>
    refine wpAny_mono (show wpAny (model prog w) A.in1.in1 (Builtin.«list.sort» ⟨[.ref (s.heap.objs.size + 1)], kw⟩) _ _ _ from q _) (fun f s' z => ?_) fun _ _ z => z
    obtain ⟨rfl, hR⟩ := z
    exact ⟨_, rfl, wpAny_pure ⟨_, rfl, hR⟩⟩
variable {β : Type} {bs : List β} {Rel : Value → β → Prop}
theorem sorted_key_tup {t : Addr} {f : Value} {kw : List (Str × Value)} {b : Bool} {R : Value → Shared → Prop} (k : β → PyData) (ht : IsTup s.heap t vs.toArray) (e : PySem.W.EachIs Rel vs bs) (hal : PySem.W.AllAlike (bs.map k)) (hk : PySem.W.Sortable (bs.map k)) (hz : bs.length ≤ sizeLine)
    (hu : ∀ x, x ∈ bs → A.units + 2 + (k x).depth < cLine) (h1 : argsOk "sorted" ⟨[.ref t], kw⟩) (h2 : ∀ x, argsOk "list.sort" ⟨[.ref x], kw⟩) (h3 : ∀ x, Builtin.«list.sort» ⟨[.ref x], kw⟩ = PyProof.Rows.ksk_tree x f b)
    (turn : ∀ (v : Value) (x : β), Rel v x → x ∈ bs → ∀ (h : Heap) (tk : Nat), (∀ b o, s.heap.get? b = some o → h.get? b = some o) →
      wpAny (model prog w) A.in1.in1 (call f [v]) (PySem.W.KeyPure (k x) { s with heap := h, toks := tk }) (fun _ _ => False) { s with heap := h, toks := tk })
    (q : ∀ out c h' tk, (∀ b o, s.heap.get? b = some o → h'.get? b = some o) → s.heap.get? (s.heap.objs.size + 1) = none → h'.get? (s.heap.objs.size + 1) = some (seqObj "list" (List.toArray out) c) → out.length = bs.length → PySem.W.EachIs Rel out (bs.mergeSort (PySem.W.dataLe b k)) →
      R (.ref (s.heap.objs.size + 1)) { s with heap := h', toks := tk }) :
    wpAny (model prog w) A (call (.builtin "sorted") [.ref t] kw) R E s := by
  have lens := e.length
  have keep : ∀ {g : Heap}, PySem.W.KeepsBut (s.heap.objs.size + 1) (PySem.W.copyHeap s.heap vs) g → ∀ c o, s.heap.get? c = some o → g.get? c = some o := fun {g} z c o y =>
    z c o (Nat.ne_of_lt (Nat.lt_succ_of_lt (Heap.lt_size y))) (PySem.W.copyHeap_old y)
  refine sorted_tup ht (by rw [lens]; exact hz) h1 h2 fun E' => ?_
  rw [h3]
  refine PySem.W.keyH_tree (kz := bs.map k) (s := { s with heap := PySem.W.copyHeap s.heap vs }) (PySem.W.copyHeap_at s.heap vs) ((List.length_map ..).trans lens.symm) (by rw [lens]; exact hz) hal hk (PySem.W.bound_map (A := A.in1.in1) hu)
    (PySem.W.keyH_turns (s := { s with heap := PySem.W.copyHeap s.heap vs }) e fun v x hv hx h tk z => turn v x hv hx h tk (keep z)) fun h' tk out c z hD ko => ⟨rfl, ?_⟩
  exact q out c h' tk (keep z) (Heap.get?_none_of_le (Nat.le_succ _)) hD ((ko.length ((List.length_map ..).trans lens.symm)).trans lens) (PySem.W.keyedOut_each k ko e)
end
section
variable {X : Cx} {σ : Z.St} {H : Hp} {e : Expr} {Q : VK} {p pos lpos kpos p1 p2 : Pos}
/-- what sorted by a field's whole numbers asks and tells -/
def SkP (K : PySem.W.Frag) (P : Addr) (q f : Str) (Q : VK) (x : V) (H : Hp) : Prop := ∃ (l : Addr) (bs : List (Addr × Int)), x = .ref l ∧ (SqL K (del H P) l (bs.map fun b => V.ref b.1) ∨ SqT K (del H P) l (bs.map fun b => V.ref b.1)) ∧ bs.length ≤ 1000 ∧ (∀ b ∈ bs, ∃ C dx fs, H b.1 = some (.ins C dx fs) ∧ Cls K C ∧ NoAttr K C f ∧ fs.lookup f = some (.int b.2)) ∧ LamX.TabS H P q ∧
  ∀ p H2 (cs : List (Addr × Int)), H p = none → Ex (del H P) (del H2 P) → LamX.TabS H2 P q → cs.Perm bs → cs.Pairwise (fun x y => x.2 ≤ y.2) → H2 p = some (.lst (cs.map fun b => V.ref b.1)) → Q (.ref p) H2
/-- sorted(e, key=lambda a: a.f) of instances with whole numbers there -/
theorem zsortk {P c : Addr} {k : Nat} {a f : Str} {params : Arguments} {scope : Scope} (TB : LamX.TabB X.base X.mg c P) (hcode : X.env.code = .ref c) (hr : Room (k + 3) X.A) (hc : X.calm = true) (hg : Gl X "sorted") (hm : X.mg "sorted" = none) (hb : bootBuiltins "sorted" = some (.builtin "sorted"))
    (hdef : defaultsOf params X.env = ([], [])) (hco : scope.isCoroutine = false) (hgen : scope.isGenerator = false) (hk : scope.kind = .function) (hcell : ∀ y ∈ scope.names, y.2 ≠ .cell ∧ y.2 ≠ .free) (hloc : scope.names.lookup a = some .local)
    (hbind : ∀ (q : Str) (cl : List (Str × Addr)) (pm cv ctv v : Value), bindArgs (PySem.W.kla_fn "<lambda>" q params (.Attribute (.Name a p1) f p2) scope cl pm cv ctv) ⟨[v], []⟩ = pure [(a, v)]) (hd : (a == ("__debug__" : Str)) = false)
    (h : wE X e σ H (SkP X.K P (X.env.qual ++ "<lambda>") f Q))
    (he : backTo pos (starEach [e] X.env) = (false, eval e X.env) :: backTo pos (starEach [] X.env) := by rfl) (hpl : (backTo pos (starEach [e] X.env)).any (·.1) = false := by rfl)
    (hsa : starEach [e] X.env = (false, eval e X.env) :: starEach [] X.env := by rfl) :
    wE X (.Call (.Name "sorted" p) [e] [⟨some "key", .Lambda params (.Attribute (.Name a p1) f p2) scope lpos, kpos⟩] pos) σ H Q := by
  refine ⟨fun pins s I => ?_⟩
  refine wpAny_Call_Name_kw (ld_blt I hg hm hb ?_)
  have ha : wA X [e] σ H fun vs H1 => ∃ x, vs = [x] ∧ SkP X.K P (X.env.qual ++ "<lambda>") f Q x H1 := acons (h.imp fun x H1 z => anil ⟨x, rfl, z⟩) hsa
  refine PyProof.Rows.callWith_kw (thn (ha.run pos pins s I) fun us s1 ⟨vs, H1, I1, r1, q1⟩ => ?_) he hpl rfl rfl
  obtain ⟨x, rfl, l, bs, rfl, hl, hlen, hbs, hT, q⟩ := q1
  show wpAny _ _ (evalAll [do let v ← eval (.Lambda params (.Attribute (.Name a p1) f p2) scope lpos) X.env; standAt pos; pure v]) _ _ s1
  refine wpAny_evalAll_cons (wpAny_bind (lam_mk I1 TB hcode hT hdef (fun y hy => (hcell y hy).2) fun fa c' pm ctv H2 s2 I2 eN T2 hsz hf hco' => wpAny_bind (wpAny_standAt (wpAny_pure ?_))))
  refine wpAny_evalAll_nil ?_
  show wpAny _ _ (call (.builtin "sorted") us [(Str.ofString "key", .ref fa)]) _ _ s2
  obtain ⟨its, rv, hil⟩ : ∃ its : List Value, Vals (bs.map fun b => V.ref b.1) its ∧ (s2.heap.IsList l its.toArray ∨ IsTup s2.heap l its.toArray) := by
    rcases hl with hl | hl
    · obtain ⟨its, rv, z, _⟩ := I2.list (Evl.ex_l (eN.trans (del_ex _ _)) hl)
      exact ⟨its, rv, .inl z.isList⟩
    · obtain ⟨its, rv, z, _⟩ := I2.tuple (Evl.ex_t (eN.trans (del_ex _ _)) hl)
      exact ⟨its, rv, .inr z⟩
  rw [Vals.ref1 r1]
  have e := each_vals rv
  have hlv : its.length = bs.length := e.length
  have KX := I2.kIn
  obtain ⟨⟨oc, vs', t, g1, g2, g3⟩, _, _⟩ := I2.hok c' _ hco'
  have un := hr.un
  have turns : ∀ (v : Value) (b : Addr × Int), v = Value.ref b.1 → b ∈ bs → ∀ (h : Heap) (tk : Nat), (∀ b o, s2.heap.get? b = some o → h.get? b = some o) →
      wpAny (model X.prog X.w) X.A.in1.in1 (call (.ref fa) [v]) (PySem.W.KeyPure (.int b.2) { s2 with heap := h, toks := tk }) (fun _ _ => False) { s2 with heap := h, toks := tk } := fun v b hv hb h tk kp => ?turn
  have fin : ∀ (out : List Value) (c3 : Nat) (h3 : Heap) (tk : Nat), (∀ b o, s2.heap.get? b = some o → h3.get? b = some o) → s2.heap.get? (s2.heap.objs.size + 1) = none → h3.get? (s2.heap.objs.size + 1) = some (seqObj "list" (List.toArray out) c3) → out.length = bs.length →
      PySem.W.EachIs (fun v (b : Addr × Int) => v = Value.ref b.1) out (bs.mergeSort (PySem.W.dataLe false fun b : Addr × Int => PyData.int b.2)) → EP X pins σ Q (.ref (s2.heap.objs.size + 1)) { s2 with heap := h3, toks := tk } := fun out c3 h3 tk kp hfr3 hg3 hlo eo => ?fin
  have un2 : ∀ x ∈ bs, X.A.units + 2 + (PyData.int x.2).depth < cLine := fun b hb => by simp only [PyData.depth]; omega
  · rcases hil with hil | hil
    · exact PySem.W.sorted_key_data (b := false) (fun b : Addr × Int => PyData.int b.2) hil e (PySem.W.AllAlike.of fun _ _ => rfl) (PySem.W.Sortable.others fun b => ⟨(fun z => nomatch z), fun _ z => nomatch z⟩) (by rw [sizeLine_eq]; omega) un2 rfl (fun _ => rfl) (fun _ => rfl) turns fin
    · exact sorted_key_tup (b := false) (fun b : Addr × Int => PyData.int b.2) hil e (PySem.W.AllAlike.of fun _ _ => rfl) (PySem.W.Sortable.others fun b => ⟨(fun z => nomatch z), fun _ z => nomatch z⟩) (by rw [sizeLine_eq]; omega) un2 rfl (fun _ => rfl) (fun _ => rfl) turns fin
  case turn =>
    subst hv
    obtain ⟨C, dx, fs, hx, hC, hN, hlk⟩ := hbs b hb
    have hx2 := del_ex _ _ _ _ (eN _ _ (del_at hx (fun z => by obtain ⟨ps, hP, _⟩ := hT; rw [z, hP] at hx; cases hx)))
    obtain ⟨mA, O, r, _, _, _⟩ := ins_get I2.hok hx2
    obtain ⟨u, hu, ru⟩ := RelO.some_of (v := V.int b.2) (o := mA f) (by rw [← hlk]; exact r f)
    obtain ⟨tu, rfl⟩ := ru
    have O' : ObjM h b.1 dx C mA := ⟨kp _ _ O.obj, O.ns.at fun o e => kp _ _ e, O.ne⟩
    refine wpAny_call (codeAny_mono (lam_attr (s := { s2 with heap := h, toks := tk }) (K := X.K) (by show X.A.depth < _; exact hr.depth) (kp _ _ hf) ⟨c', oc, vs', t, rfl, kp _ _ g1, g2, g3⟩ (KX.keeps kp) O' hC hN hu rfl (I2.nolimit.keeps kp) hco hgen hk (fun y hy => (hcell y hy).1) hloc (fun v => hbind _ _ _ _ _ v) hd) fun z s' hq => ?_)
    obtain ⟨h', tk', rfl, rfl, kp'⟩ := hq
    exact ⟨h', tk', rfl, kp', .int _ _⟩
  case fin =>
    have hv := vals_each eo
    have hlm : ((bs.mergeSort (PySem.W.dataLe false fun b : Addr × Int => PyData.int b.2)).map fun b => V.ref b.1).length = bs.length := by rw [List.length_map, List.length_mergeSort]
    refine ⟨.ref (s2.heap.objs.size + 1), upd H2 (s2.heap.objs.size + 1) (.lst ((bs.mergeSort (PySem.W.dataLe false fun b : Addr × Int => PyData.int b.2)).map fun b => V.ref b.1)), I2.laid (t' := tk) kp (Nat.le_succ _) ⟨by rw [hlm, sizeLine_eq]; omega, out, c3, hv, hg3⟩, rfl, ?_⟩
    have nP : H2 (s2.heap.objs.size + 1) = none := I2.hok.fresh (Nat.le_succ _)
    have eU : Ex H2 (upd H2 (s2.heap.objs.size + 1) (.lst ((bs.mergeSort (PySem.W.dataLe false fun b : Addr × Int => PyData.int b.2)).map fun b => V.ref b.1))) := Ex.new nP
    refine q _ _ _ (I1.hok.fresh (Nat.le_trans hsz (Nat.le_succ _))) (eN.trans (del_mono fun b o _ e => eU b o e)) (T2.ext eU) (List.mergeSort_perm _ _) ?_ upd_same
    have hs := PySem.W.sort_pairwise (PySem.W.sortLe_total _ _ _) bs (le := PySem.W.dataLe false fun b : Addr × Int => PyData.int b.2)
    refine hs.imp fun {x y} z => ?_
    rw [PySem.W.dataLe_int (fun b : Addr × Int => b.2)] at z
    exact of_decide_eq_true z
end
section
variable {X : Cx} {H : Hp} {Q : VK} {p : Addr}
theorem each_int : ∀ {ns : List Int} {vs : List Value}, Vals (ns.map V.int) vs → PySem.W.EachIs (fun v (n : Int) => ∃ t, v = Value.int n t) vs ns
  | [], [], _ => .nil
  | n :: ns, v :: vs, h => by
    cases h with
    | cons r t => exact .cons r (each_int t)
theorem int_each : ∀ {ns : List Int} {vs : List Value}, PySem.W.EachIs (fun v (n : Int) => ∃ t, v = Value.int n t) vs ns → Vals (ns.map V.int) vs
  | _, _, .nil => .nil
  | _, _, .cons r t => .cons r (int_each t)
/-- sorted of a list or a tuple of whole numbers -/
theorem ksortI {j : Nat} {ns : List Int} (hr : Room j X.A) (hs : SqL X.K H p (ns.map V.int) ∨ SqT X.K H p (ns.map V.int)) (h64 : ns.length < 64)
    (h : ∀ (ns' : List Int) q H2, ns'.Perm ns → ns'.Pairwise (· ≤ ·) → H q = none → Ex H H2 → H2 q = some (.lst (ns'.map V.int)) → Q (.ref q) H2) : wK X (.builtin "sorted") [.ref p] H Q := by
  rcases hs with hs | hs
  · exact ofK cr_sorted ⟨p, ns, rfl, hs, h64, fun ns' q pm pw hq => h ns' q _ pm pw hq (Ex.new hq) upd_same⟩
  · refine ⟨fun pins s σ us I r => ?_⟩
    obtain ⟨its, rv, ht, hz⟩ := I.tuple hs
    rw [List.length_map] at hz
    have e := each_int rv
    have un := hr.un
    have hal : PySem.W.AllAlike (ns.map PyData.int) := PySem.W.AllAlike.of (enc := PyData.int) fun _ _ => rfl
    have er : PySem.W.EachIs (fun v n => ∃ as, Reads (PySem.W.sortingHeap (PySem.W.copyHeap s.heap its) (s.heap.objs.size + 1) its) v (PyData.int n) as) its ns := e.mono fun v n ⟨t, z⟩ => ⟨[], by rw [z]; exact .int _ _⟩
    have ek : PySem.W.EachIs (fun v d => ∃ as, Reads (PySem.W.sortingHeap (PySem.W.copyHeap s.heap its) (s.heap.objs.size + 1) its) v d as) its (ns.map PyData.int) := PySem.W.each_map (R := fun v d => ∃ as, Reads (PySem.W.sortingHeap (PySem.W.copyHeap s.heap its) (s.heap.objs.size + 1) its) v d as) PyData.int er
    have S := PySem.W.SortsAt.data (prog := X.prog) (w := X.w) (A := X.A.in1.in1) (s := { s with heap := PySem.W.sortingHeap (PySem.W.copyHeap s.heap its) (s.heap.objs.size + 1) its }) ek hal (PySem.W.Sortable.others (enc := PyData.int) fun b => ⟨(fun z => nomatch z), fun _ z => nomatch z⟩) (PySem.W.bound_map (A := X.A.in1.in1) fun b _ => by simp only [PyData.depth]; show X.A.units + 1 + 1 + _ < _; omega)
    have eo := PySem.W.sortVals_data false e er hal
    have lo : (PySem.W.sortVals (PySem.W.dataKind (PySem.W.sortingHeap (PySem.W.copyHeap s.heap its) (s.heap.objs.size + 1) its) (ns.map PyData.int)) false its its).length = its.length := PySem.W.sortVals_length false rfl
    have hzl : its.length ≤ sizeLine := by rw [e.length]; exact hz
    rw [Vals.ref1 r]
    refine sorted_tup ht hzl (args_sorted1 _) (fun _ => args_list_sort _) fun E' => PySem.W.list_sort_vals (s := { s with heap := PySem.W.copyHeap s.heap its }) (PySem.W.copyHeap_at s.heap its) S hzl ⟨rfl, ?_⟩
    obtain ⟨ep, he⟩ := sortedAll_at s.heap its (PySem.W.sortVals (PySem.W.dataKind (PySem.W.sortingHeap (PySem.W.copyHeap s.heap its) (s.heap.objs.size + 1) its) (ns.map PyData.int)) false its its).toArray
    have hv := int_each eo
    have hl2 : ((ns.mergeSort (PySem.W.dataLe false PyData.int)).map V.int).length ≤ sizeLine := by rw [List.length_map, List.length_mergeSort]; exact hz
    have nq : H (s.heap.objs.size + 1) = none := I.hok.fresh (Nat.le_succ _)
    refine ⟨.ref (s.heap.objs.size + 1), upd H (s.heap.objs.size + 1) (.lst ((ns.mergeSort (PySem.W.dataLe false PyData.int)).map V.int)), I.laid (t' := s.toks) (fun _ _ => sortedAll_old) (Nat.le_succ _) ⟨hl2, _, ep, hv, he⟩, rfl, h _ _ _ (List.mergeSort_perm _ _) ?_ nq (Ex.new nq) upd_same⟩
    have hs := PySem.W.sort_pairwise (PySem.W.sortLe_total _ _ _) ns (le := PySem.W.dataLe false PyData.int)
    refine hs.imp fun {x y} z => ?_
    rw [PySem.W.dataLe_int (fun b : Int => b)] at z
    exact of_decide_eq_true z
end
end Z

set_option maxRecDepth 100000
set_option maxHeartbeats 4000000
namespace Z
open PySem PySem.Spec PyProof.Rows L2
open Evl (Ex)
section
variable {X : Cx} {σ : Z.St} {H : Hp} {e o : Expr} {p pos apos : Pos} {Q : VK}
/-! ### in, not in of a dict; extend; min of a list; xs[::-1] -/
theorem odin {y : V} {a : Addr} {r : Option V} (hu : X.A.units + 1 < cLine) (g : DGet H a y r) (q : Q (.bl r.isSome) H) : wO X (compareOp .In) y (.ref a) H Q :=
  ⟨fun pins s σ v u I rx ry => by
    obtain rfl : u = Value.ref a := ry
    exact d_in hu I g rx fun s' I' => ⟨.bl _, H, I', rfl, q⟩⟩
theorem zext (h : wE X o σ H fun x H1 => ∃ l xs0, x = .ref l ∧ H1 l = some (.lst xs0) ∧ wE X e σ H1 fun y H2 => ∃ xs zs b, y = .ref b ∧ H2 l = some (.lst xs) ∧ H2 b = some (.lst zs) ∧ xs.length + zs.length ≤ sizeLine ∧ Q .non (upd H2 l (.lst (xs ++ zs)))) (hsa : starEach [e] X.env = (false, eval e X.env) :: starEach [] X.env := by rfl)
    (he : ∀ t : TA, PA X [e] t → PE X (.Call (.Attribute o "extend" apos) [e] [] pos) (tBM X.K "list" rExtend (wE X o) t) := by intro t ht; exact pe_bm PySem.F.plainAttrs_list PySem.F.slot_list_extend PySem.F.type_list_extend mt_extend sE ht) :
    wE X (.Call (.Attribute o "extend" apos) [e] [] pos) σ H Q := by
  refine ofE (he _ (pa_cons sE pa_nil hsa)) ⟨fun pins s I => thn (h.run pins s I) fun u s1 ⟨x, H1, I1, r1, l, xs0, ex, hl, q⟩ => ⟨x, H1, I1, r1, ?_⟩⟩
  subst ex
  refine ⟨.inl ⟨rfl, xs0, SqL.of hl⟩, ⟨fun pins2 s2 J => thn (q.run pins2 s2 J) fun u2 s3 ⟨y, H2, I2, r2, xs, zs, b, ey, h2, hb, hz, q2⟩ => ⟨y, H2, I2, r2, ?_⟩⟩⟩
  exact ⟨l, b, xs, zs, rfl, by rw [ey], h2, hb, hz, q2⟩
theorem kminL {p : Addr} {ns : List Int} (hc : X.calm = true) (hp : SqL X.K H p (ns.map V.int)) (h0 : 0 < ns.length) (q : ∀ m, m ∈ ns → (∀ y, y ∈ ns → m ≤ y) → Q (.int m) H) : wK X (.builtin "min") [.ref p] H Q := ofK (cr_min hc) ⟨p, ns, rfl, hp, h0, q⟩
theorem zrev {k : Nat} {p1 p2 p3 : Pos} (h : wE X e σ H fun x H1 => ∃ a xs, x = .ref a ∧ SqL X.K H1 a xs ∧ ∀ p H2, H1 p = none → Ex H1 H2 → H2 p = some (.lst xs.reverse) → Q (.ref p) H2) : wE X (.Subscript e (.Slice none none (some (.UnaryOp .USub (.Constant (.int 1) k p1) p2)) p3) pos) σ H Q :=
  ofE (pe_revL sE) (h.imp fun x H1 ⟨a, xs, e, hx, q⟩ => ⟨a, xs, e, hx, fun p hp => q p _ hp (Ex.new hp) upd_same⟩)
end
section
variable {X : Cx} {σ : Z.St} {H : Hp} {tg l : Expr} {body : List Stmt} {pos : Pos} {D : Ends} {xs : List V}
/-- loops whose invariant may name the list, the tuple -/
theorem lforLa (hp : PassesOwn (model X.prog X.w) X.A X.env X.xe) (hc : X.calm = true)
    (h : wE X l σ H fun x H1 => ∃ a, x = .ref a ∧ SqL X.K H1 a xs ∧ ∃ Pv : Nat → Z.St → Hp → Prop, Pv 0 σ H1 ∧ (∀ i σ H, i ≤ xs.length → Pv i σ H → SqL X.K H a xs) ∧
      (∀ i x σ H, xs[i]? = some x → Pv i σ H → wG X tg x σ H fun σ2 H2 => wB X body { D with nx := Pv (i + 1), ct := Pv (i + 1), bk := D.nx } σ2 H2) ∧ ∀ σ H, Pv xs.length σ H → D.nx σ H)
    (hs : ∀ x, foldedSetIterable l X.env x = pure x := by intro _; rfl) : wS X (.For tg l body [] pos) D σ H :=
  lfor hp hc (pi_list sE) ⟨fun pins s I => thn (h.run pins s I) fun u s1 ⟨x, H1, I1, r, a, ex, hq, Pv, h0, hl, ht, hd⟩ => ⟨x, H1, I1, r, a, ex, ⟨xs, hq⟩, for_list Pv h0 hl ht hd⟩⟩ hs
theorem lforTa (hp : PassesOwn (model X.prog X.w) X.A X.env X.xe) (hc : X.calm = true)
    (h : wE X l σ H fun x H1 => ∃ a, x = .ref a ∧ SqT X.K H1 a xs ∧ ∃ Pv : Nat → Z.St → Hp → Prop, Pv 0 σ H1 ∧ (∀ i σ H, i ≤ xs.length → Pv i σ H → SqT X.K H a xs) ∧
      (∀ i x σ H, xs[i]? = some x → Pv i σ H → wG X tg x σ H fun σ2 H2 => wB X body { D with nx := Pv (i + 1), ct := Pv (i + 1), bk := D.nx } σ2 H2) ∧ ∀ σ H, Pv xs.length σ H → D.nx σ H)
    (hs : ∀ x, foldedSetIterable l X.env x = pure x := by intro _; rfl) : wS X (.For tg l body [] pos) D σ H :=
  lfor hp hc (pi_tup sE) ⟨fun pins s I => thn (h.run pins s I) fun u s1 ⟨x, H1, I1, r, a, ex, hq, Pv, h0, hl, ht, hd⟩ => ⟨x, H1, I1, r, a, ex, ⟨xs, hq⟩, for_tup Pv h0 hl ht hd⟩⟩ hs
end
end Z

set_option maxRecDepth 100000
set_option maxHeartbeats 4000000
namespace Z
open PySem PySem.Spec PyProof.Rows L2
open Evl (Ex)
theorem del_comm (H : Hp) (a b : Addr) : del (del H a) b = del (del H b) a := by
  funext x
  unfold del
  split <;> split <;> rfl
theorem tab_at {H : Hp} {P : Addr} {q : Str} (h : LamX.TabS H P q) : ∃ ps, H P = some (.tbl ps) := by
  obtain ⟨ps, hP, _⟩ := h
  exact ⟨_, hP⟩
theorem tab_upd {H : Hp} {P L : Addr} {q : Str} {ws ws' : List V} (h : LamX.TabS H P q) (hL : H L = some (.lst ws)) : LamX.TabS (upd H L (.lst ws')) P q := by
  obtain ⟨ps, hP, h3, h4⟩ := h
  refine ⟨ps, (upd_ne fun z => by rw [← z, hP] at hL; cases hL).trans hP, h3, fun pos cv hc => ?_⟩
  obtain ⟨c, z1, z2⟩ := h4 pos cv hc
  exact ⟨c, z1, (upd_ne fun y => by rw [← y, z2] at hL; cases hL).trans z2⟩
section
variable {X : Cx} {σ : Z.St} {H : Hp} {elt tg l : Expr} {scope : Scope} {Q : VK}
/-! ### comprehensions whose turns change a table of code objects (at TP) -/
abbrev turnT (X : Cx) (scope : Scope) (tg : Expr) (elt : Expr) (vs : List Nat) (TP : Addr) (q : Str) (G : Nat → List V → Hp → Prop) (L : Addr) (ws : List V) (j : Nat) (x : V) (σ : Z.St) (H : Hp) : Prop :=
  bG X scope tg x (wipe σ vs) H fun σ2 H2 => wipe σ2 vs = wipe σ vs ∧ bE X scope elt σ2 H2 fun y H4 => ws.length < sizeLine ∧ Ex (del H TP) (del H4 TP) ∧ LamX.TabS H4 TP q ∧ G (j + 1) (ws ++ [y]) (del (del H4 TP) L)
theorem ttL {xs : List V} {vs : List Nat} (TP : Addr) (q : Str) (G : Nat → List V → Hp → Prop) (hG : ∀ j ws H H', G j ws H → Ex H H' → G j ws H') (h0 : ∀ H, G 0 [] H)
    (h : wE X l σ H fun x H1 => ∃ r, x = .ref r ∧ del H1 TP r = some (.lst xs) ∧ LamX.TabS H1 TP q ∧ (∀ j x H' L ws, xs[j]? = some x → Ex (del H1 TP) (del H' TP) → LamX.TabS H' TP q → H1 L = none → H' L = some (.lst ws) → G j ws (del (del H' TP) L) → turnT X scope tg elt vs TP q G L ws j x σ H') ∧ ∀ L H' ws, H1 L = none → Ex (del H1 TP) (del H' TP) → LamX.TabS H' TP q → H' L = some (.lst ws) → L ≠ TP → G xs.length ws (del H' TP) → Q (.ref L) H') :
    tLc (iList X.K (wE X l)) (bG X scope tg) (bTs X scope []) (bE X scope elt) vs σ H Q := by
  refine ⟨fun pins s I => thn (h.run pins s I) fun u s1 ⟨x, H1, I1, r, p, ex, hq, hT, q2, q3⟩ => ⟨x, H1, I1, r, p, ex, ⟨xs, SqL.of (del_ex _ _ _ _ hq)⟩, fun L hL => ?_⟩⟩
  obtain ⟨ps0, hP0⟩ := tab_at hT
  have nLT : L ≠ TP := fun z => by rw [z, hP0] at hL; cases hL
  refine lc_list (fun j H' => Ex (del H1 TP) (del H' TP) ∧ LamX.TabS H' TP q ∧ ∃ ws, H' L = some (.lst ws) ∧ G j ws (del (del H' TP) L))
    ⟨del_mono fun b o _ z => Ex.new hL b o z, hT.ext (Ex.new hL), [], upd_same, h0 _⟩ (fun i H' _ z => SqL.of (del_ex _ _ _ _ (z.1 _ _ hq))) ?_ fun H' ⟨e, t, ws, hw, g⟩ => q3 L H' ws hL e t hw nLT (hG _ _ _ _ g (del_ex _ _))
  rintro i x H' hx ⟨e, t, ws, hw, g⟩
  refine bG.imp (q2 i x H' L ws hx e t hL hw g) fun σ2 H2 ⟨w, q⟩ => ⟨w, ⟨fun _ _ C cl fp => tsnil ?_⟩⟩
  rw [if_pos rfl]
  refine q.imp fun y H4 ⟨hs, e4, t4, g4⟩ => ?_
  have hw4 : H4 L = some (.lst ws) := del_ex _ _ _ _ (e4 _ _ (del_at hw nLT))
  refine ⟨ws, hw4, hs, fun b o z => ?_, tab_upd t4 hw4, ws ++ [y], upd_same, hG _ _ _ _ g4 fun b o z => ?_⟩
  · have z4 := e4 _ _ (e _ _ z)
    have n1 : b ≠ TP := fun y => by rw [y, del_same] at z; cases z
    rw [del_ne n1] at z z4 ⊢
    rw [upd_ne (fun y => by rw [y, hL] at z; cases z)]
    exact z4
  · have n1 : b ≠ L := fun y => by rw [y, del_same] at z; cases z
    rw [del_ne n1] at z ⊢
    have n2 : b ≠ TP := fun y => by rw [y, del_same] at z; cases z
    rw [del_ne n2] at z ⊢
    rw [upd_ne n1]
    exact z
end
end Z

namespace K08
open PySem PySem.Spec PyProof.Rows L2 Z
open Evl (Ex)
/-! ### steps of the walk: one_sign: a heap grew into another; one_item: what stands at an address; one_place: a list or tuple to be read; leaf_len: arithmetic; tb_rel: one step; top_name: steps as far as they go -/
local macro_rules | `(tactic| got_up) => `(tactic| (refine Evl.Ex.trans (by assumption) ?_; first | assumption | exact Evl.Ex.refl _ | got_up))
local macro_rules | `(tactic| units_room) => `(tactic| (refine Evl.Ex.trans ?_ (by assumption); first | assumption | exact Evl.Ex.refl _ | units_room))
local macro_rules | `(tactic| one_sign) => `(tactic| first | assumption | exact Evl.Ex.refl _ | got_up | units_room)
local macro_rules | `(tactic| one_item) => `(tactic| first | assumption | exact upd_same | exact exa (by assumption) (by one_sign))
local macro_rules | `(tactic| one_place) => `(tactic| first | assumption | exact SqL.of (by assumption) | exact SqT.of (by assumption) | exact exl (by assumption) (by one_sign) | exact ext (by assumption) (by one_sign) | exact SqL.of (by one_item) | exact SqT.of (by one_item))
local macro_rules | `(tactic| leaf_len) => `(tactic| first | assumption | decide | omega)
local macro_rules | `(tactic| tb_rel) => `(tactic| first
  | ((with_reducible refine (?_ : wE _ _ _ _ _)); first
    | ((with_reducible refine (?_ : wE _ (.Name _ _) _ _ _)); first | refine zn (by rfl) (by first | exact Or.inl rfl | exact Or.inr (Or.inl rfl) | exact Or.inr (Or.inr rfl)) (by rfl) ?_ | refine zglob (by assumption) (by rfl) ?_ | refine zcls (by assumption) (by rfl) ?_ | refine zty (by assumption) (by first | exact bt_int | exact bt_bool | exact bt_str | exact bt_list | exact bt_tuple | exact bt_dict | exact bt_ValueError) (by rfl) ?_)
    | ((with_reducible refine (?_ : wE _ (.Attribute _ _ _) _ _ _)); refine zfld ?_)
    | ((with_reducible refine (?_ : wE _ (.Constant _ _ _) _ _ _)); first | refine zint ?_ | refine zstr ?_ | refine zbl ?_ | refine znon ?_)
    | ((with_reducible refine (?_ : wE _ (.BinOp _ _ _ _) _ _ _)); refine zbin ?_)
    | ((with_reducible refine (?_ : wE _ (.Compare _ _ _ _) _ _ _)); first | refine zcmp (by rfl) ?_ | refine zchain ?_)
    | ((with_reducible refine (?_ : wE _ (.Dict [] [] _) _ _ _)); refine zdnew (fun _ _ _ _ _ => ?_))
    | ((with_reducible refine (?_ : wE _ (.Subscript _ (.Slice _ _ _ _) _) _ _ _)); refine zsl ?_)
    | ((with_reducible refine (?_ : wE _ (.Subscript _ _ _) _ _ _)); refine zix ?_)
    | ((with_reducible refine (?_ : wE _ (.Call (.Name "list" _) [.Call (.Name "range" _) [_] [] _] [] _) _ _ _)); refine zlrg1 rfl (by rfl) (by assumption) (by rfl) (by assumption) ?_)
    | ((with_reducible refine (?_ : wE _ (.Call (.Name _ _) _ _ _) _ _ _)); first
      | ((with_reducible refine (?_ : wE _ (.Call (.Name "len" _) _ _ _) _ _ _)); refine zbfn (by assumption) bt_len (by rfl) ?_)
      | ((with_reducible refine (?_ : wE _ (.Call (.Name "isinstance" _) _ _ _) _ _ _)); refine zbfn (by assumption) bt_isi (by rfl) ?_)
      | ((with_reducible refine (?_ : wE _ (.Call (.Name "min" _) _ _ _) _ _ _)); refine zbfn (by assumption) bt_min (by rfl) ?_)
      | ((with_reducible refine (?_ : wE _ (.Call (.Name "max" _) _ _ _) _ _ _)); refine zbfn (by assumption) bt_max (by rfl) ?_)
      | ((with_reducible refine (?_ : wE _ (.Call (.Name "list" _) _ _ _) _ _ _)); refine zbty (by assumption) bt_list (by rfl) ?_)
      | ((with_reducible refine (?_ : wE _ (.Call (.Name "tuple" _) _ _ _) _ _ _)); refine zbty (by assumption) bt_tuple (by rfl) ?_)
      | ((with_reducible refine (?_ : wE _ (.Call (.Name "int" _) _ _ _) _ _ _)); refine zbty (by assumption) bt_int (by rfl) ?_)
      | ((with_reducible refine (?_ : wE _ (.Call (.Name "abs" _) _ _ _) _ _ _)); refine zbfn (by assumption) bt_abs (by rfl) ?_)
      | ((with_reducible refine (?_ : wE _ (.Call (.Name "all" _) _ _ _) _ _ _)); refine zbfn (by assumption) bt_all (by rfl) ?_)
      | ((with_reducible refine (?_ : wE _ (.Call (.Name "sum" _) _ _ _) _ _ _)); refine zbfn (by assumption) bt_sum (by rfl) ?_)
      | ((with_reducible refine (?_ : wE _ (.Call (.Name "divmod" _) _ _ _) _ _ _)); refine zbfn (by assumption) bt_divmod (by rfl) ?_)
      | ((with_reducible refine (?_ : wE _ (.Call (.Name "ord" _) _ _ _) _ _ _)); refine zbfn (by assumption) bt_ord (by rfl) ?_))
    | ((with_reducible refine (?_ : wE _ (.IfExp _ _ _ _) _ _ _)); refine zif ?_)
    | ((with_reducible refine (?_ : wE _ (.Tuple _ _ _) _ _ _)); refine ztup ?_)
    | ((with_reducible refine (?_ : wE _ (.List _ _) _ _ _)); refine zlst ?_)
    | ((with_reducible refine (?_ : wE _ (.UnaryOp _ _ _) _ _ _)); first | refine znotV ?_ | refine zneg ?_)
    | ((with_reducible refine (?_ : wE _ (.BoolOp _ _ _) _ _ _)); first | refine zandV ?_ | refine zorV ?_ | refine zoneV ?_))
  | ((with_reducible refine (?_ : bE _ _ _ _ _ _)); refine ⟨fun _ _ _ _ _ => ?_⟩) | ((with_reducible refine (?_ : bG _ _ _ _ _ _ _)); refine ⟨fun _ _ _ _ _ => ?_⟩) | ((with_reducible refine (?_ : bTs _ _ _ _ _ _)); refine ⟨fun _ _ _ _ _ => ?_⟩)
  | ((with_reducible refine (?_ : hE _ _ _ _ _ _)); refine ⟨fun _ _ _ _ _ => ?_⟩) | ((with_reducible refine (?_ : hG _ _ _ _ _ _ _)); refine ⟨fun _ _ _ _ _ => ?_⟩) | ((with_reducible refine (?_ : hTs _ _ _ _ _ _)); refine ⟨fun _ _ _ _ _ => ?_⟩)
  | ((with_reducible refine (?_ : wP _ _ _ _ _)); first | refine pnon ?_ | refine psom ?_) | ((with_reducible refine (?_ : wSl _ _ _ _ _ _)); first | refine slL (by one_place) (fun _ _ _ _ _ => ?_) | refine slS (by assumption) ?_)
  | ((with_reducible refine (?_ : wTs _ _ _ _ _)); first | refine tsnil ?_ | refine tsone ?_)
  | ((with_reducible refine (?_ : wA _ _ _ _ _)); first | refine acons ?_ | refine anil ?_)
  | ((with_reducible refine (?_ : wO _ _ _ _ _ _)); first
    | ((with_reducible refine (?_ : wO _ (binaryOp .Add) _ _ _ _)); first | refine oadd ?_ | refine ocatE (by one_item) (by one_item) (Nat.le_of_ble_eq_true rfl) (fun _ _ _ _ _ => ?_))
    | ((with_reducible refine (?_ : wO _ (binaryOp .Sub) _ _ _ _)); first | refine osub ?_)
    | ((with_reducible refine (?_ : wO _ (binaryOp .Mult) _ _ _ _)); first | refine omul (by first | exact IntMulOk.of_right (by decide) | exact IntMulOk.of_left (by decide) | exact IntMulOk.of_right (intBits_le_64 (by omega) (by omega)) | exact IntMulOk.of_left (intBits_le_64 (by omega) (by omega))) ?_)
    | ((with_reducible refine (?_ : wO _ (binaryOp .Mod) _ _ _ _)); first | refine omod (by first | decide | omega) ?_)
    | ((with_reducible refine (?_ : wO _ (binaryOp .FloorDiv) _ _ _ _)); first | refine ofdiv ⟨by first | decide | omega, by decide⟩ ?_)
    | ((with_reducible refine (?_ : wO _ (binaryOp .BitAnd) _ _ _ _)); first | refine oand ?_)
    | ((with_reducible refine (?_ : wO _ (binaryOp .BitOr) _ _ _ _)); first | refine oor ?_)
    | ((with_reducible refine (?_ : wO _ (compareOp .Lt) _ _ _ _)); first | refine olt ?_)
    | ((with_reducible refine (?_ : wO _ (compareOp .LtE) _ _ _ _)); first | refine ole ?_)
    | ((with_reducible refine (?_ : wO _ (compareOp .Gt) _ _ _ _)); first | refine ogt ?_)
    | ((with_reducible refine (?_ : wO _ (compareOp .GtE) _ _ _ _)); first | refine oge ?_)
    | ((with_reducible refine (?_ : wO _ (compareOp .Eq) _ _ _ _)); first | refine oeqi ?_ | refine oeqsT (by decide +kernel) ?_ | refine oeqsF (by decide +kernel) ?_ | refine oeq (by rfl) ?_)
    | ((with_reducible refine (?_ : wO _ (compareOp .NotEq) _ _ _ _)); first | refine onei ?_ | refine onesT (by decide +kernel) ?_ | refine onesF (by decide +kernel) ?_ | refine one (by rfl) ?_)
    | ((with_reducible refine (?_ : wO _ (compareOp .In) _ _ _ _)); first | refine oin ?_)
    | ((with_reducible refine (?_ : wO _ (compareOp .NotIn) _ _ _ _)); first | refine onin ?_)
    | ((with_reducible refine (?_ : wO _ (compareOp .Is) _ _ _ _)); first | refine ois ?_)
    | ((with_reducible refine (?_ : wO _ (compareOp .IsNot) _ _ _ _)); first | refine onot ?_)
    | ((with_reducible refine (?_ : wO _ (binaryOp .RShift) _ _ _ _)); refine oshr (by first | decide | omega) ?_)
    | ((with_reducible refine (?_ : wO _ (binaryOp .BitXor) _ _ _ _)); refine oxor ?_)
    | ((with_reducible refine (?_ : wO _ (inplaceOp .BitXor) _ _ _ _)); refine ixor ?_)
    | ((with_reducible refine (?_ : wO _ (inplaceOp .RShift) _ _ _ _)); refine ishr (by first | decide | omega) ?_)
    | ((with_reducible refine (?_ : wO _ (inplaceOp .BitOr) _ _ _ _)); first | refine ior ?_)
    | ((with_reducible refine (?_ : wO _ (inplaceOp .Add) _ _ _ _)); first | refine iadd ?_))
  | ((with_reducible refine (?_ : wT _ _ _ _ _)); first
    | ((with_reducible refine (?_ : wT _ (.Compare _ _ _ _) _ _ _)); first | refine zcmpT (by rfl) ?_ | refine zchainT ?_)
    | ((with_reducible refine (?_ : wT _ (.UnaryOp _ _ _) _ _ _)); refine znotT ?_)
    | ((with_reducible refine (?_ : wT _ (.BoolOp _ _ _) _ _ _)); refine zW ?_)
    | refine zval ?_)
  | ((with_reducible refine (?_ : wW _ _ _ _ _)); first | refine zand ?_ | refine zor ?_ | refine zand1 ?_ | refine zor1 ?_)
  | ((with_reducible refine (?_ : wK _ _ _ _ _)); first
    | ((with_reducible refine (?_ : wK _ (.builtin "len") _ _ _)); first | refine klenL (by one_place) ?_ | refine klenT (by one_place) ?_ | refine klenS (by assumption) ?_)
    | ((with_reducible refine (?_ : wK _ (.builtin "isinstance") _ _ _)); first | refine kisE (by assumption) (by assumption) (by first | assumption | exact Xd.exx (by assumption) (by one_sign)) (by first | exact .own _ | exact .ty _) (by assumption) ?_ | refine kisi (.ty _) (by assumption) (by assumption) ?_ | refine kisi (.ty _) (.base (by first | exact .int _ | exact .bl _ | exact .str _ | exact .non | exact .tup (by one_item) | exact .lst (by one_item))) (kit_ty (r := true) (by rfl)) ?_ | refine kisi (.ty _) (.base (by first | exact .int _ | exact .bl _ | exact .str _ | exact .non | exact .tup (by one_item) | exact .lst (by one_item))) (kit_ty (r := false) (by rfl)) ?_)
    | ((with_reducible refine (?_ : wK _ (.builtin "divmod") _ _ _)); refine kdivmod ⟨by first | decide | omega, by decide⟩ (fun _ _ _ _ _ => ?_))
    | ((with_reducible refine (?_ : wK _ (.builtin "min") _ _ _)); refine kmin (by rfl) ?_)
    | ((with_reducible refine (?_ : wK _ (.builtin "max") _ _ _)); refine kmax (by rfl) ?_)
    | ((with_reducible refine (?_ : wK _ (.type "list") _ _ _)); first | refine klistL (by one_place) (fun _ _ _ _ _ => ?_) | refine klistT (by one_place) (fun _ _ _ _ _ => ?_))
    | ((with_reducible refine (?_ : wK _ (.type "tuple") _ _ _)); first | refine ktupL (by one_place) (fun _ _ _ _ _ => ?_)))
  | ((with_reducible refine (?_ : wS _ _ _ _ _)); first
    | ((with_reducible refine (?_ : wS _ (.Assign [.Name _ _] _ _) _ _ _)); refine sset' (by assumption) (by rfl) (by first | exact Or.inl rfl | exact Or.inr rfl) (by rfl) (by first | exact .inl rfl | exact .inr rfl) ?_)
    | ((with_reducible refine (?_ : wS _ (.AugAssign (.Name _ _) _ _ _) _ _ _)); refine saug' (by assumption) (by rfl) (by first | exact Or.inl rfl | exact Or.inr rfl) (by first | exact .inl rfl | exact .inr rfl) (by rfl) ?_)
    | ((with_reducible refine (?_ : wS _ (.Assign [.Attribute _ _ _] _ _) _ _ _)); refine sfld ?_)
    | ((with_reducible refine (?_ : wS _ (.Expr _ _) _ _ _)); refine sexp ?_)
    | ((with_reducible refine (?_ : wS _ (.Assign [.Tuple _ _ _] _ _) _ _ _)); refine sasg ?_) | ((with_reducible refine (?_ : wS _ (.Assign [.Subscript _ _ _] _ _) _ _ _)); refine sasg ?_)
    | refine sret ?_ | refine sif ?_ | refine sretN ?_ | refine spass ?_ | refine sbrk ?_ | refine scont ?_)
  | ((with_reducible refine (?_ : wG _ (.Name _ _) _ _ _ _)); refine gname' (by assumption) (by rfl) (by first | exact Or.inl rfl | exact Or.inr rfl) (by first | exact .inl rfl | exact .inr rfl) ?_)
  | ((with_reducible refine (?_ : wG _ (.Tuple _ _ _) _ _ _ _)); refine gtup rfl (by one_place) rfl ?_) | ((with_reducible refine (?_ : wG _ (.Subscript _ _ _) _ _ _ _)); refine gsub ?_)
  | ((with_reducible refine (?_ : wGs _ _ _ _ _ _)); first | refine gscons ?_ | refine gsnil ?_)
  | ((with_reducible refine (?_ : wB _ _ _ _ _)); first | refine bcons ?_ | refine bnil ?_)
  | refine ifT ?_ | refine ifF ?_ | refine ifd (fun _ => ?_) (fun _ => ?_) | refine ifnd (fun _ => ?_) (fun _ => ?_) | refine ⟨_, rfl, ?_⟩ | refine ⟨rfl, Evl.Ex.refl _, ?_⟩ | refine ⟨_, _, _, _, _, rfl, by one_item, by assumption, by assumption, by rfl, ?_⟩ | refine ⟨Nat.le_of_ble_eq_true rfl, fun _ _ _ _ _ => ?_⟩ | fail)
local macro_rules | `(tactic| top_name) => `(tactic| repeat' tb_rel)
local macro_rules | `(tactic| nest_fact) => `(tactic| first | exact ⟨(decide_eq_true (by omega)).symm, rfl⟩ | exact ⟨(decide_eq_false (by omega)).symm, rfl⟩ | exact ⟨decide_eq_decide.mpr (by omega), rfl⟩ | fail)
set_option maxRecDepth 100000
set_option maxHeartbeats 4000000
set_option pp.maxSteps 1500
section
open PySem PySem.Spec PyProof.Rows L2 Z
open Evl (Ex)
variable {P : Program} {w : World} {K : PySem.W.Frag} {mg : Str → Option Value} {base : Heap}
/-! ### kinds -/
inductive KD where
  | truth
  | count
  | whole
  | upto (n : Int)
  | text (n : Int)
  | form (s : Str)
  | list (k : KD)
def KD.cls : KD → Str
  | .truth => "Truth"
  | .count => "Count"
  | .whole => "Whole"
  | .upto _ => "Upto"
  | .text _ => "Text"
  | .form _ => "Nested"
  | .list _ => "List"
def KD.word : KD → Str
  | .truth => "truth"
  | .count => "count"
  | .whole => "whole"
  | .upto _ => "upto"
  | .text _ => "text"
  | .form _ => "form"
  | .list _ => "list"
def KD.words : KD → List Str
  | .truth => ["truth"]
  | .count => ["count"]
  | .whole => ["whole"]
  | .upto n => ["upto", toString n]
  | .text n => if n = 100 then ["text"] else ["text", toString n]
  | .form s => ["form", s]
  | .list k => "list" :: k.words
def KD.plain : KD → Bool
  | .form _ => false
  | .list _ => false
  | _ => true
def KD.shape : KD → Int
  | .text _ => 1
  | .form _ => 1
  | .list _ => 1
  | _ => 0
def bits (n : Int) : Int := if n > 255 then 0 else (Builtin.Int.intBits n : Nat)
def KD.width : KD → Int
  | .truth => 1
  | .upto n => bits n
  | _ => 0
def KD.blank : KD → V
  | .truth => .bl false
  | .text _ => .str ""
  | .form _ => .non
  | _ => .int 0
def KD.dep : KD → Nat
  | .list k => k.dep + 1
  | _ => 0
def MOST : Int := 115792089237316195423570985008687907853269984665640564039457584007913129639935
/-- a kind that may be made -/
def KD.Ok : KD → Prop
  | .upto n => 1 ≤ n ∧ n ≤ MOST
  | .text n => 1 ≤ n ∧ n ≤ 100
  | .form s => s.length ≤ 100
  | .list k => k.Ok
  | _ => True
/-- a kind as it stands -/
inductive KI (K : PySem.W.Frag) (H : Hp) : V → KD → Prop
  | truth {a dx : Addr} (h : H a = some (.ins (He.ga K "Truth") dx [])) : KI K H (.ref a) .truth
  | count {a dx : Addr} (h : H a = some (.ins (He.ga K "Count") dx [])) : KI K H (.ref a) .count
  | whole {a dx : Addr} (h : H a = some (.ins (He.ga K "Whole") dx [])) : KI K H (.ref a) .whole
  | upto {a dx : Addr} {n : Int} (h : H a = some (.ins (He.ga K "Upto") dx [("most", .int n)])) : KI K H (.ref a) (.upto n)
  | text {a dx : Addr} {n : Int} (h : H a = some (.ins (He.ga K "Text") dx [("most", .int n)])) : KI K H (.ref a) (.text n)
  | form {a dx : Addr} {s : Str} (h : H a = some (.ins (He.ga K "Nested") dx [("name", .str s)])) : KI K H (.ref a) (.form s)
  | list {a dx : Addr} {v : V} {k : KD} (h : H a = some (.ins (He.ga K "List") dx [("item", v)])) (i : KI K H v k) : KI K H (.ref a) (.list k)
theorem KI.ex {H H' : Hp} (e : Ex H H') : ∀ {v : V} {k : KD}, KI K H v k → KI K H' v k
  | _, _, .truth h => .truth (e _ _ h)
  | _, _, .count h => .count (e _ _ h)
  | _, _, .whole h => .whole (e _ _ h)
  | _, _, .upto h => .upto (e _ _ h)
  | _, _, .text h => .text (e _ _ h)
  | _, _, .form h => .form (e _ _ h)
  | _, _, .list h i => .list (e _ _ h) (i.ex e)
def methods : List Str := ["word", "words", "is_plain", "shape", "width", "suits", "blank"]
theorem KI.ins {H : Hp} {v : V} {k : KD} (h : KI K H v k) : ∃ a dx fs, v = .ref a ∧ H a = some (.ins (He.ga K k.cls) dx fs) ∧ ∀ m ∈ methods, fs.lookup m = none := by
  cases h with
  | truth h => exact ⟨_, _, _, rfl, h, fun m _ => rfl⟩
  | count h => exact ⟨_, _, _, rfl, h, fun m _ => rfl⟩
  | whole h => exact ⟨_, _, _, rfl, h, fun m _ => rfl⟩
  | upto h => exact ⟨_, _, _, rfl, h, fun m hm => by unfold methods at hm; simp at hm; rcases hm with rfl | rfl | rfl | rfl | rfl | rfl | rfl <;> rfl⟩
  | text h => exact ⟨_, _, _, rfl, h, fun m hm => by unfold methods at hm; simp at hm; rcases hm with rfl | rfl | rfl | rfl | rfl | rfl | rfl <;> rfl⟩
  | form h => exact ⟨_, _, _, rfl, h, fun m hm => by unfold methods at hm; simp at hm; rcases hm with rfl | rfl | rfl | rfl | rfl | rfl | rfl <;> rfl⟩
  | list h i => exact ⟨_, _, _, rfl, h, fun m hm => by unfold methods at hm; simp at hm; rcases hm with rfl | rfl | rfl | rfl | rfl | rfl | rfl <;> rfl⟩
theorem cK (T : Txt K mg) (k : KD) : InsK K (He.ga K k.cls) := by
  cases k with
  | truth => exact T.c_Truth
  | count => exact T.c_Count
  | whole => exact T.c_Whole
  | upto n => exact T.c_Upto
  | text n => exact T.c_Text
  | form s => exact T.c_Nested
  | list k => exact T.c_List
def spC (v : V) : Sp := fun vs H Q _ => ∃ a : Addr, vs = [.ref a] ∧ Q v H
/-! ### methods that tell a constant -/
theorem fc_Truth_word {fd : FuncData} (F : FunD K "word" "Truth.word" (defArgs s_Truth_word) (defBody s_Truth_word) (defScope s_Truth_word) [] [] (He.fAd K ("Truth", some "word")) fd) : FnOk P w K mg base (L2N.CX P w) 1 (He.fAd K ("Truth", some "word")) fd ["self"] (spC (.str "truth")) := by
  refine fn_mk F sc_Truth_word (fun vs H Q E h => ?_) fun cd A outer s H vs Q E hr tk po h => ?_
  · obtain ⟨a, rfl, _⟩ := h; rfl
  · obtain ⟨a, rfl, q⟩ := h
    top_name
    exact q
theorem mf_Truth_word (T : Txt K mg) : Mf P w K mg base 1 (He.ga K "Truth") "word" [] (spC (.str "truth")) := mf_mk T.f_Truth_word T.c_Truth.cl T.h_Truth_word (fun _ _ _ _ _ _ us hl => match us, hl with | [_], _ => rfl) fun fd F => fc_Truth_word F
theorem fc_Count_word {fd : FuncData} (F : FunD K "word" "Count.word" (defArgs s_Count_word) (defBody s_Count_word) (defScope s_Count_word) [] [] (He.fAd K ("Count", some "word")) fd) : FnOk P w K mg base (L2N.CX P w) 1 (He.fAd K ("Count", some "word")) fd ["self"] (spC (.str "count")) := by
  refine fn_mk F sc_Count_word (fun vs H Q E h => ?_) fun cd A outer s H vs Q E hr tk po h => ?_
  · obtain ⟨a, rfl, _⟩ := h; rfl
  · obtain ⟨a, rfl, q⟩ := h
    top_name
    exact q
theorem mf_Count_word (T : Txt K mg) : Mf P w K mg base 1 (He.ga K "Count") "word" [] (spC (.str "count")) := mf_mk T.f_Count_word T.c_Count.cl T.h_Count_word (fun _ _ _ _ _ _ us hl => match us, hl with | [_], _ => rfl) fun fd F => fc_Count_word F
theorem fc_Whole_word {fd : FuncData} (F : FunD K "word" "Whole.word" (defArgs s_Whole_word) (defBody s_Whole_word) (defScope s_Whole_word) [] [] (He.fAd K ("Whole", some "word")) fd) : FnOk P w K mg base (L2N.CX P w) 1 (He.fAd K ("Whole", some "word")) fd ["self"] (spC (.str "whole")) := by
  refine fn_mk F sc_Whole_word (fun vs H Q E h => ?_) fun cd A outer s H vs Q E hr tk po h => ?_
  · obtain ⟨a, rfl, _⟩ := h; rfl
  · obtain ⟨a, rfl, q⟩ := h
    top_name
    exact q
theorem mf_Whole_word (T : Txt K mg) : Mf P w K mg base 1 (He.ga K "Whole") "word" [] (spC (.str "whole")) := mf_mk T.f_Whole_word T.c_Whole.cl T.h_Whole_word (fun _ _ _ _ _ _ us hl => match us, hl with | [_], _ => rfl) fun fd F => fc_Whole_word F
theorem fc_Upto_word {fd : FuncData} (F : FunD K "word" "Upto.word" (defArgs s_Upto_word) (defBody s_Upto_word) (defScope s_Upto_word) [] [] (He.fAd K ("Upto", some "word")) fd) : FnOk P w K mg base (L2N.CX P w) 1 (He.fAd K ("Upto", some "word")) fd ["self"] (spC (.str "upto")) := by
  refine fn_mk F sc_Upto_word (fun vs H Q E h => ?_) fun cd A outer s H vs Q E hr tk po h => ?_
  · obtain ⟨a, rfl, _⟩ := h; rfl
  · obtain ⟨a, rfl, q⟩ := h
    top_name
    exact q
theorem mf_Upto_word (T : Txt K mg) : Mf P w K mg base 1 (He.ga K "Upto") "word" [] (spC (.str "upto")) := mf_mk T.f_Upto_word T.c_Upto.cl T.h_Upto_word (fun _ _ _ _ _ _ us hl => match us, hl with | [_], _ => rfl) fun fd F => fc_Upto_word F
theorem fc_Text_word {fd : FuncData} (F : FunD K "word" "Text.word" (defArgs s_Text_word) (defBody s_Text_word) (defScope s_Text_word) [] [] (He.fAd K ("Text", some "word")) fd) : FnOk P w K mg base (L2N.CX P w) 1 (He.fAd K ("Text", some "word")) fd ["self"] (spC (.str "text")) := by
  refine fn_mk F sc_Text_word (fun vs H Q E h => ?_) fun cd A outer s H vs Q E hr tk po h => ?_
  · obtain ⟨a, rfl, _⟩ := h; rfl
  · obtain ⟨a, rfl, q⟩ := h
    top_name
    exact q
theorem mf_Text_word (T : Txt K mg) : Mf P w K mg base 1 (He.ga K "Text") "word" [] (spC (.str "text")) := mf_mk T.f_Text_word T.c_Text.cl T.h_Text_word (fun _ _ _ _ _ _ us hl => match us, hl with | [_], _ => rfl) fun fd F => fc_Text_word F
theorem fc_Nested_word {fd : FuncData} (F : FunD K "word" "Nested.word" (defArgs s_Nested_word) (defBody s_Nested_word) (defScope s_Nested_word) [] [] (He.fAd K ("Nested", some "word")) fd) : FnOk P w K mg base (L2N.CX P w) 1 (He.fAd K ("Nested", some "word")) fd ["self"] (spC (.str "form")) := by
  refine fn_mk F sc_Nested_word (fun vs H Q E h => ?_) fun cd A outer s H vs Q E hr tk po h => ?_
  · obtain ⟨a, rfl, _⟩ := h; rfl
  · obtain ⟨a, rfl, q⟩ := h
    top_name
    exact q
theorem mf_Nested_word (T : Txt K mg) : Mf P w K mg base 1 (He.ga K "Nested") "word" [] (spC (.str "form")) := mf_mk T.f_Nested_word T.c_Nested.cl T.h_Nested_word (fun _ _ _ _ _ _ us hl => match us, hl with | [_], _ => rfl) fun fd F => fc_Nested_word F
theorem fc_List_word {fd : FuncData} (F : FunD K "word" "List.word" (defArgs s_List_word) (defBody s_List_word) (defScope s_List_word) [] [] (He.fAd K ("List", some "word")) fd) : FnOk P w K mg base (L2N.CX P w) 1 (He.fAd K ("List", some "word")) fd ["self"] (spC (.str "list")) := by
  refine fn_mk F sc_List_word (fun vs H Q E h => ?_) fun cd A outer s H vs Q E hr tk po h => ?_
  · obtain ⟨a, rfl, _⟩ := h; rfl
  · obtain ⟨a, rfl, q⟩ := h
    top_name
    exact q
theorem mf_List_word (T : Txt K mg) : Mf P w K mg base 1 (He.ga K "List") "word" [] (spC (.str "list")) := mf_mk T.f_List_word T.c_List.cl T.h_List_word (fun _ _ _ _ _ _ us hl => match us, hl with | [_], _ => rfl) fun fd F => fc_List_word F
theorem fc_Kind_is_plain {fd : FuncData} (F : FunD K "is_plain" "Kind.is_plain" (defArgs s_Kind_is_plain) (defBody s_Kind_is_plain) (defScope s_Kind_is_plain) [] [] (He.fAd K ("Kind", some "is_plain")) fd) : FnOk P w K mg base (L2N.CX P w) 1 (He.fAd K ("Kind", some "is_plain")) fd ["self"] (spC (.bl true)) := by
  refine fn_mk F sc_Kind_is_plain (fun vs H Q E h => ?_) fun cd A outer s H vs Q E hr tk po h => ?_
  · obtain ⟨a, rfl, _⟩ := h; rfl
  · obtain ⟨a, rfl, q⟩ := h
    top_name
    exact q
theorem mf_Truth_is_plain (T : Txt K mg) : Mf P w K mg base 1 (He.ga K "Truth") "is_plain" [] (spC (.bl true)) := mf_mk T.f_Kind_is_plain T.c_Truth.cl T.h_Truth_is_plain (fun _ _ _ _ _ _ us hl => match us, hl with | [_], _ => rfl) fun fd F => fc_Kind_is_plain F
theorem mf_Count_is_plain (T : Txt K mg) : Mf P w K mg base 1 (He.ga K "Count") "is_plain" [] (spC (.bl true)) := mf_mk T.f_Kind_is_plain T.c_Count.cl T.h_Count_is_plain (fun _ _ _ _ _ _ us hl => match us, hl with | [_], _ => rfl) fun fd F => fc_Kind_is_plain F
theorem mf_Whole_is_plain (T : Txt K mg) : Mf P w K mg base 1 (He.ga K "Whole") "is_plain" [] (spC (.bl true)) := mf_mk T.f_Kind_is_plain T.c_Whole.cl T.h_Whole_is_plain (fun _ _ _ _ _ _ us hl => match us, hl with | [_], _ => rfl) fun fd F => fc_Kind_is_plain F
theorem mf_Upto_is_plain (T : Txt K mg) : Mf P w K mg base 1 (He.ga K "Upto") "is_plain" [] (spC (.bl true)) := mf_mk T.f_Kind_is_plain T.c_Upto.cl T.h_Upto_is_plain (fun _ _ _ _ _ _ us hl => match us, hl with | [_], _ => rfl) fun fd F => fc_Kind_is_plain F
theorem mf_Text_is_plain (T : Txt K mg) : Mf P w K mg base 1 (He.ga K "Text") "is_plain" [] (spC (.bl true)) := mf_mk T.f_Kind_is_plain T.c_Text.cl T.h_Text_is_plain (fun _ _ _ _ _ _ us hl => match us, hl with | [_], _ => rfl) fun fd F => fc_Kind_is_plain F
theorem fc_Nested_is_plain {fd : FuncData} (F : FunD K "is_plain" "Nested.is_plain" (defArgs s_Nested_is_plain) (defBody s_Nested_is_plain) (defScope s_Nested_is_plain) [] [] (He.fAd K ("Nested", some "is_plain")) fd) : FnOk P w K mg base (L2N.CX P w) 1 (He.fAd K ("Nested", some "is_plain")) fd ["self"] (spC (.bl false)) := by
  refine fn_mk F sc_Nested_is_plain (fun vs H Q E h => ?_) fun cd A outer s H vs Q E hr tk po h => ?_
  · obtain ⟨a, rfl, _⟩ := h; rfl
  · obtain ⟨a, rfl, q⟩ := h
    top_name
    exact q
theorem mf_Nested_is_plain (T : Txt K mg) : Mf P w K mg base 1 (He.ga K "Nested") "is_plain" [] (spC (.bl false)) := mf_mk T.f_Nested_is_plain T.c_Nested.cl T.h_Nested_is_plain (fun _ _ _ _ _ _ us hl => match us, hl with | [_], _ => rfl) fun fd F => fc_Nested_is_plain F
theorem fc_List_is_plain {fd : FuncData} (F : FunD K "is_plain" "List.is_plain" (defArgs s_List_is_plain) (defBody s_List_is_plain) (defScope s_List_is_plain) [] [] (He.fAd K ("List", some "is_plain")) fd) : FnOk P w K mg base (L2N.CX P w) 1 (He.fAd K ("List", some "is_plain")) fd ["self"] (spC (.bl false)) := by
  refine fn_mk F sc_List_is_plain (fun vs H Q E h => ?_) fun cd A outer s H vs Q E hr tk po h => ?_
  · obtain ⟨a, rfl, _⟩ := h; rfl
  · obtain ⟨a, rfl, q⟩ := h
    top_name
    exact q
theorem mf_List_is_plain (T : Txt K mg) : Mf P w K mg base 1 (He.ga K "List") "is_plain" [] (spC (.bl false)) := mf_mk T.f_List_is_plain T.c_List.cl T.h_List_is_plain (fun _ _ _ _ _ _ us hl => match us, hl with | [_], _ => rfl) fun fd F => fc_List_is_plain F
theorem fc_Truth_blank {fd : FuncData} (F : FunD K "blank" "Truth.blank" (defArgs s_Truth_blank) (defBody s_Truth_blank) (defScope s_Truth_blank) [] [] (He.fAd K ("Truth", some "blank")) fd) : FnOk P w K mg base (L2N.CX P w) 1 (He.fAd K ("Truth", some "blank")) fd ["self"] (spC (.bl false)) := by
  refine fn_mk F sc_Truth_blank (fun vs H Q E h => ?_) fun cd A outer s H vs Q E hr tk po h => ?_
  · obtain ⟨a, rfl, _⟩ := h; rfl
  · obtain ⟨a, rfl, q⟩ := h
    top_name
    exact q
theorem mf_Truth_blank (T : Txt K mg) : Mf P w K mg base 1 (He.ga K "Truth") "blank" [] (spC (.bl false)) := mf_mk T.f_Truth_blank T.c_Truth.cl T.h_Truth_blank (fun _ _ _ _ _ _ us hl => match us, hl with | [_], _ => rfl) fun fd F => fc_Truth_blank F
theorem fc_Kind_blank {fd : FuncData} (F : FunD K "blank" "Kind.blank" (defArgs s_Kind_blank) (defBody s_Kind_blank) (defScope s_Kind_blank) [] [] (He.fAd K ("Kind", some "blank")) fd) : FnOk P w K mg base (L2N.CX P w) 1 (He.fAd K ("Kind", some "blank")) fd ["self"] (spC (.int 0)) := by
  refine fn_mk F sc_Kind_blank (fun vs H Q E h => ?_) fun cd A outer s H vs Q E hr tk po h => ?_
  · obtain ⟨a, rfl, _⟩ := h; rfl
  · obtain ⟨a, rfl, q⟩ := h
    top_name
    exact q
theorem mf_Count_blank (T : Txt K mg) : Mf P w K mg base 1 (He.ga K "Count") "blank" [] (spC (.int 0)) := mf_mk T.f_Kind_blank T.c_Count.cl T.h_Count_blank (fun _ _ _ _ _ _ us hl => match us, hl with | [_], _ => rfl) fun fd F => fc_Kind_blank F
theorem mf_Whole_blank (T : Txt K mg) : Mf P w K mg base 1 (He.ga K "Whole") "blank" [] (spC (.int 0)) := mf_mk T.f_Kind_blank T.c_Whole.cl T.h_Whole_blank (fun _ _ _ _ _ _ us hl => match us, hl with | [_], _ => rfl) fun fd F => fc_Kind_blank F
theorem mf_Upto_blank (T : Txt K mg) : Mf P w K mg base 1 (He.ga K "Upto") "blank" [] (spC (.int 0)) := mf_mk T.f_Kind_blank T.c_Upto.cl T.h_Upto_blank (fun _ _ _ _ _ _ us hl => match us, hl with | [_], _ => rfl) fun fd F => fc_Kind_blank F
theorem fc_Text_blank {fd : FuncData} (F : FunD K "blank" "Text.blank" (defArgs s_Text_blank) (defBody s_Text_blank) (defScope s_Text_blank) [] [] (He.fAd K ("Text", some "blank")) fd) : FnOk P w K mg base (L2N.CX P w) 1 (He.fAd K ("Text", some "blank")) fd ["self"] (spC (.str "")) := by
  refine fn_mk F sc_Text_blank (fun vs H Q E h => ?_) fun cd A outer s H vs Q E hr tk po h => ?_
  · obtain ⟨a, rfl, _⟩ := h; rfl
  · obtain ⟨a, rfl, q⟩ := h
    top_name
    exact q
theorem mf_Text_blank (T : Txt K mg) : Mf P w K mg base 1 (He.ga K "Text") "blank" [] (spC (.str "")) := mf_mk T.f_Text_blank T.c_Text.cl T.h_Text_blank (fun _ _ _ _ _ _ us hl => match us, hl with | [_], _ => rfl) fun fd F => fc_Text_blank F
theorem fc_Nested_blank {fd : FuncData} (F : FunD K "blank" "Nested.blank" (defArgs s_Nested_blank) (defBody s_Nested_blank) (defScope s_Nested_blank) [] [] (He.fAd K ("Nested", some "blank")) fd) : FnOk P w K mg base (L2N.CX P w) 1 (He.fAd K ("Nested", some "blank")) fd ["self"] (spC (.non)) := by
  refine fn_mk F sc_Nested_blank (fun vs H Q E h => ?_) fun cd A outer s H vs Q E hr tk po h => ?_
  · obtain ⟨a, rfl, _⟩ := h; rfl
  · obtain ⟨a, rfl, q⟩ := h
    top_name
    exact q
theorem mf_Nested_blank (T : Txt K mg) : Mf P w K mg base 1 (He.ga K "Nested") "blank" [] (spC (.non)) := mf_mk T.f_Nested_blank T.c_Nested.cl T.h_Nested_blank (fun _ _ _ _ _ _ us hl => match us, hl with | [_], _ => rfl) fun fd F => fc_Nested_blank F
theorem mf_word (T : Txt K mg) (k : KD) : Mf P w K mg base 1 (He.ga K k.cls) "word" [] (spC (.str k.word)) := by
  cases k with
  | truth => exact mf_Truth_word T
  | count => exact mf_Count_word T
  | whole => exact mf_Whole_word T
  | upto n => exact mf_Upto_word T
  | text n => exact mf_Text_word T
  | form s => exact mf_Nested_word T
  | list k => exact mf_List_word T
theorem mf_plain (T : Txt K mg) (k : KD) : Mf P w K mg base 1 (He.ga K k.cls) "is_plain" [] (spC (.bl k.plain)) := by
  cases k with
  | truth => exact mf_Truth_is_plain T
  | count => exact mf_Count_is_plain T
  | whole => exact mf_Whole_is_plain T
  | upto n => exact mf_Upto_is_plain T
  | text n => exact mf_Text_is_plain T
  | form s => exact mf_Nested_is_plain T
  | list k => exact mf_List_is_plain T
end

set_option maxRecDepth 100000
set_option maxHeartbeats 4000000
set_option pp.maxSteps 1500
section
open PySem PySem.Spec PyProof.Rows L2 Z
open Evl (Ex)
variable {P : Program} {w : World} {K : PySem.W.Frag} {mg : Str → Option Value} {base : Heap}
/-! ### texts, plainly -/
theorem len_is (x : Str) : x.length = x.cps.toList.length := by simp; rfl
theorem str_ext {x y : Str} (h : x.cps.toList = y.cps.toList) : x = y := TL.ext_tl h
theorem sw_minus (x : Str) : Txt.startswith x "-" = decide (x.cps.toList.head? = some 45) := by
  unfold Txt.startswith
  rw [PySem.StrLaws.subAt_eq, len_is]
  show (decide (0 + 1 ≤ x.cps.toList.length) && ((x.cps.toList.drop 0).take 1 == [45])) = _
  cases x.cps.toList with
  | nil => rfl
  | cons c r =>
    have e1 : decide (0 + 1 ≤ (c :: r).length) = true := decide_eq_true (by rw [List.length_cons]; omega)
    rw [e1, Bool.true_and, List.drop_zero, List.head?_cons]
    show ([c] == [45]) = _
    by_cases h : c = 45
    · subst h; rfl
    · rw [decide_eq_false (fun z => h (Option.some.inj z))]
      simpa using h
theorem sIx_at (n d : Nat) {p : Int} (h : 0 ≤ p) (h1 : p ≤ (n : Int)) : HT.sIx n d (some p) = p.toNat := by
  show (if p < 0 then (p + (n : Int)).toNat else min p.toNat n) = _
  rw [if_neg (by omega)]
  omega
theorem cut1 (x : Str) : (cutS x (some 1) none).cps.toList = x.cps.toList.drop 1 := by
  unfold cutS
  show (x.cps.toList.drop (min 1 x.length)).take (x.length - min 1 x.length) = _
  rw [len_is]
  by_cases h : 1 ≤ x.cps.toList.length
  · rw [Nat.min_eq_left h, List.take_of_length_le (by rw [List.length_drop]; exact Nat.le_refl _)]
  · have : x.cps.toList = [] := List.eq_nil_of_length_eq_zero (by omega)
    rw [this]
    rfl
theorem cutTo1 (x : Str) : (cutS x none (some 1)).cps.toList = x.cps.toList.take 1 := by
  unfold cutS
  show (x.cps.toList.drop 0).take (min 1 x.length - 0) = _
  rw [len_is, List.drop_zero, Nat.sub_zero]
  by_cases h : 1 ≤ x.cps.toList.length
  · rw [Nat.min_eq_left h]
  · have : x.cps.toList = [] := List.eq_nil_of_length_eq_zero (by omega)
    rw [this]
    rfl
def letters : Str := "abcdefghijklmnopqrstuvwxyz"
def figures : Str := "0123456789"
theorem figures_tl : figures.cps.toList = [48, 49, 50, 51, 52, 53, 54, 55, 56, 57] := by decide +kernel
theorem in_figures {c : Nat} : c ∈ figures.cps.toList ↔ 48 ≤ c ∧ c ≤ 57 := by
  rw [figures_tl]
  simp
  omega
/-- of which signs a text is -/
def areB (x z : Str) : Bool := x.cps.toList.all fun c => decide (c ∈ z.cps.toList)
def nameB (x : Str) : Bool := decide (1 ≤ x.length ∧ x.length ≤ 12) && areB x letters
/-- the figures of a text -/
def figS (x : Str) : Str := if x.cps.toList.head? = some 45 then cutS x (some 1) none else x
def numOk (x : Str) : Prop := (1 ≤ (figS x).length ∧ (figS x).length ≤ 80) ∧ areB (figS x) figures = true ∧ ¬ ((figS x).cps.toList.head? = some 48 ∧ x ≠ "0")
instance (x : Str) : Decidable (numOk x) := by unfold numOk; infer_instance
def numVal (x : Str) : Int := if x.cps.toList.head? = some 45 then 0 - (NumText.digitsVal (figS x).cps.toList : Int) else NumText.digitsVal (figS x).cps.toList
def numV (x : Str) : V := if numOk x then .int (numVal x) else .non
theorem figs_len (x : Str) : (figS x).length ≤ x.length := by
  unfold figS
  split
  · exact cutS_length _ _ _
  · exact Nat.le_refl _
theorem areB_fig {x : Str} (h : areB x figures = true) : NumText.AllDigits x.cps.toList := fun c hc => in_figures.mp (of_decide_eq_true (List.all_eq_true.mp h c hc))
theorem int_of {x : Str} (h : numOk x) : PySem.intText? x = some (numVal x) := by
  obtain ⟨⟨h1, h2⟩, h3, h4⟩ := h
  have hd := areB_fig h3
  unfold numVal
  by_cases hm : x.cps.toList.head? = some 45
  · rw [if_pos hm]
    have hf : figS x = cutS x (some 1) none := if_pos hm
    rw [hf] at h1 h2 hd ⊢
    rw [len_is, cut1] at h1 h2
    rw [cut1] at hd ⊢
    cases hx : x.cps.toList with
    | nil => rw [hx] at hm; cases hm
    | cons c r =>
      rw [hx] at hm hd h1 h2
      have : c = 45 := Option.some.inj hm
      subst this
      have := intText_neg (x := x) (cs := r) hx hd (by intro z; subst z; simp at h1) (by rw [len_is, hx, List.length_cons]; simp at h2; omega)
      rw [this]
      show some (-((NumText.digitsVal r : Nat) : Int)) = some (0 - ((NumText.digitsVal r : Nat) : Int))
      rw [Int.zero_sub]
  · rw [if_neg hm]
    have hf : figS x = x := if_neg hm
    rw [hf] at h1 h2 hd ⊢
    exact intText_digits hd (by intro z; rw [len_is, z] at h1; simp at h1) (by omega)
/-! ### signs, names, numbers -/
def sp_signs : Sp := fun vs H Q _ => ∃ x z : Str, vs = [.str x, .str z] ∧ x.length ≤ 100000 ∧ ∀ H', Ex H H' → Q (.bl (areB x z)) H'
theorem take_sign {x : Str} {f : Nat → V} {j c : Nat} (h : x.cps[j]? = some c) : (x.cps.toList.take (j + 1)).map f = (x.cps.toList.take j).map f ++ [f c] := take_map_succ (by rw [Array.getElem?_toList]; exact h)
theorem take_len {x : Str} {f : Nat → V} {j c : Nat} (hz : x.length ≤ 100000) (h : x.cps[j]? = some c) : ((x.cps.toList.take j).map f).length < sizeLine := by
  have := (Array.getElem?_eq_some_iff.mp h).1
  rw [List.length_map, List.length_take, sizeLine_eq]
  have e : x.length = x.cps.size := rfl
  omega
theorem take_all {x : Str} {f : Nat → V} : (x.cps.toList.take x.cps.size).map f = x.cps.toList.map f := by rw [show x.cps.size = x.cps.toList.length from by simp, List.take_length]
theorem ok_signs (T : Txt K mg) : Gf P w K mg base 1 "are_signs" [] sp_signs := by
  refine gf_mk T.f_are_signs T.m_are_signs (fun _ _ _ _ _ _ us hl => match us, hl with | [_, _], _ => rfl) fun fd F => fn_mk F sc_are_signs (fun vs H Q E h => ?_) fun cd A outer s H vs Q E hr tk po h => ?_
  · obtain ⟨x, z, rfl, _⟩ := h; rfl
  · obtain ⟨x, z, rfl, hz, q⟩ := h
    have nd := sc_are_signs.nd
    have n1 := T.n_all
    top_name
    refine zlc rfl nd [("sign", 2)] (blkOk_by (N := N_are_signs) (sc := defScope s_are_signs) (by decide +kernel)) piS (tmS (x := x) (fun j => (x.cps.toList.take j).map fun c => V.bl (decide (c ∈ z.cps.toList))) rfl ?_)
    top_name
    refine ⟨rfl, fun j c H1 hc e1 => ?_, fun L H1 hL e1 hx => ?_⟩
    · top_name
      exact ⟨take_sign hc, take_len hz hc, Evl.Ex.refl _⟩
    · rw [take_all] at hx
      top_name
      refine kall (bs := x.cps.toList.map fun c => decide (c ∈ z.cps.toList)) rfl (SqL.of (by rw [hx, List.map_map]; rfl)) ?_
      rw [List.all_map]
      exact q _ e1
/-- a text, or a thing of another kind -/
inductive TxtOr (K : PySem.W.Frag) (H : Hp) : V → Option Str → Prop
  | str (x : Str) (h : x.length ≤ 100000) : TxtOr K H (.str x) (some x)
  | odd {v : V} {t : Value} (ty : TyX K H v t) (k : PySem.W.kitOne K t (.type "str") = some false) : TxtOr K H v none
theorem TxtOr.ex {H H' : Hp} {v : V} {o : Option Str} (h : TxtOr K H v o) (e : Ex H H') : TxtOr K H' v o := by
  cases h with
  | str x h => exact .str x h
  | odd ty k => exact .odd (TyX.ex e ty) k
def nameO : Option Str → Bool
  | some x => nameB x
  | none => false
def numO : Option Str → V
  | some x => numV x
  | none => .non
def sp_name (K : PySem.W.Frag) : Sp := fun vs H Q _ => ∃ u o, vs = [u] ∧ TxtOr K H u o ∧ ∀ H', Ex H H' → Q (.bl (nameO o)) H'
theorem ok_name (T : Txt K mg) : Gf P w K mg base 2 "is_name" [] (sp_name K) := by
  refine gf_mk T.f_is_name T.m_is_name (fun _ _ _ _ _ _ us hl => match us, hl with | [_], _ => rfl) fun fd F => fn_mk F sc_is_name (fun vs H Q E h => ?_) fun cd A outer s H vs Q E hr tk po h => ?_
  · obtain ⟨u, o, rfl, _⟩ := h; rfl
  · obtain ⟨u, o, rfl, hu, q⟩ := h
    have nd := sc_is_name.nd
    have n1 := T.n_isinstance
    have n2 := T.n_str
    have n3 := T.n_len
    have g1 := T.g_MOST_LETTERS
    have g2 := T.g_LETTERS
    cases hu with
    | str x hz =>
      have hzs : x.length ≤ sizeLine := by rw [sizeLine_eq]; omega
      have q : ∀ H', Ex H H' → Q (.bl (nameB x)) H' := q
      unfold nameB at q
      top_name
      · rename_i h1 h2
        refine zcall (ok_signs T) hr (by decide) takesF rfl ?_
        top_name
        refine ⟨x, letters, rfl, hz, fun H1 e1 => ?_⟩
        have := q H1 e1
        rw [decide_eq_true ⟨by omega, by omega⟩] at this
        exact this
      · rename_i h1 h2
        have := q H (Evl.Ex.refl _)
        rw [decide_eq_false (by omega)] at this
        exact this
      · rename_i h1
        have := q H (Evl.Ex.refl _)
        rw [decide_eq_false (by omega)] at this
        exact this
    | odd ty k =>
      top_name
      exact q _ (Evl.Ex.refl _)
def sp_ntext : Sp := fun vs H Q _ => ∃ n : Int, vs = [.int n] ∧ n.natAbs.log2 < 1920 ∧ Q (.str (toString n)) H
theorem ok_ntext (T : Txt K mg) : Gf P w K mg base 1 "number_text" [] sp_ntext := by
  refine gf_mk T.f_number_text T.m_number_text (fun _ _ _ _ _ _ us hl => match us, hl with | [_], _ => rfl) fun fd F => fn_mk F sc_number_text (fun vs H Q E h => ?_) fun cd A outer s H vs Q E hr tk po h => ?_
  · obtain ⟨n, rfl, _⟩ := h; rfl
  · obtain ⟨n, rfl, hn, q⟩ := h
    have n1 := T.n_str
    top_name
    refine zbty n1 bt_str (by rfl) ?_
    top_name
    exact kstrI hn q
end

set_option maxRecDepth 100000
set_option maxHeartbeats 4000000
set_option pp.maxSteps 1500
section
open PySem PySem.Spec PyProof.Rows L2 Z
open Evl (Ex)
variable {P : Program} {w : World} {K : PySem.W.Frag} {mg : Str → Option Value} {base : Heap}
/-! ### whole numbers -/
def sp_is_whole (K : PySem.W.Frag) : Sp := fun vs H Q _ => ∃ (v t : Value) (u : V) (k1 k2 : Bool), vs = [u] ∧ TyX K H u t ∧ PySem.W.kitOne K t (.type "int") = some k1 ∧ PySem.W.kitOne K t (.type "bool") = some k2 ∧ Q (.bl (k1 && !k2)) H
theorem ok_is_whole (T : Txt K mg) : Gf P w K mg base 1 "is_whole" [] (sp_is_whole K) := by
  refine gf_mk T.f_is_whole T.m_is_whole (fun _ _ _ _ _ _ us hl => match us, hl with | [_], _ => rfl) fun fd F => fn_mk F sc_is_whole (fun vs H Q E h => ?_) fun cd A outer s H vs Q E hr tk po h => ?_
  · obtain ⟨_, _, u, k1, k2, rfl, _⟩ := h; rfl
  · obtain ⟨_, t, u, k1, k2, rfl, ty, h1, h2, q⟩ := h
    have n1 := T.n_isinstance
    have n2 := T.n_int
    have n3 := T.n_bool
    top_name
    refine ifb (fun e => ?_) (fun e => ?_)
    · subst e
      top_name
      exact q
    · subst e
      exact q
def sp_is_among (K : PySem.W.Frag) : Sp := fun vs H Q _ => ∃ (u : V) (lo hi : Int) (b : Bool), vs = [u, .int lo, .int hi] ∧ Asked K H lo hi u b ∧ Q (.bl b) H
theorem ok_is_among (T : Txt K mg) : Gf P w K mg base 2 "is_among" [] (sp_is_among K) := by
  refine gf_mk T.f_is_among T.m_is_among (fun _ _ _ _ _ _ us hl => match us, hl with | [_, _, _], _ => rfl) fun fd F => fn_mk F sc_is_among (fun vs H Q E h => ?_) fun cd A outer s H vs Q E hr tk po h => ?_
  · obtain ⟨u, lo, hi, b, rfl, _⟩ := h; rfl
  · obtain ⟨u, lo, hi, b, rfl, ha, q⟩ := h
    top_name
    refine zcall (ok_is_whole T) hr (by decide) takesF rfl ?_
    top_name
    cases ha with
    | int n =>
      refine ⟨.none, _, _, true, false, rfl, .base (.int n), kit_ty rfl, kit_ty rfl, ?_⟩
      top_name
      · rename_i h1
        rw [show decide (n ≤ hi) = decide (lo ≤ n ∧ n ≤ hi) from decide_eq_decide.mpr ⟨fun z => ⟨h1, z⟩, fun z => z.2⟩]
        exact q
      · rename_i h1
        rw [show decide (lo ≤ n ∧ n ≤ hi) = false from decide_eq_false fun z => h1 z.1] at q
        exact q
    | odd hn =>
      obtain ⟨t, k1, k2, ty, h1, h2, e⟩ := hn
      refine ⟨.none, _, _, _, _, rfl, ty, h1, h2, ?_⟩
      rw [e]
      top_name
      exact q

/-! ### a text as a number -/
theorem one_sign_is {c : Nat} : ((⟨#[c]⟩ : Str) = "0") ↔ c = 48 := by
  constructor
  · intro h
    have := congrArg (fun x : Str => x.cps.toList) h
    exact (List.cons.inj this).1
  · intro h; subst h; rfl
theorem is_minus (x : Str) : (cutS x none (some 1) = "-") ↔ x.cps.toList.head? = some 45 := by
  constructor
  · intro h
    have := congrArg (fun x : Str => x.cps.toList) h
    have : (cutS x none (some 1)).cps.toList = [45] := this
    rw [cutTo1] at this
    cases hx : x.cps.toList with
    | nil => rw [hx] at this; cases this
    | cons c r => rw [hx] at this; rw [(List.cons.inj this).1]; rfl
  · intro h
    refine str_ext ?_
    rw [cutTo1]
    cases hx : x.cps.toList with
    | nil => rw [hx] at h; cases h
    | cons c r => rw [hx] at h; rw [Option.some.inj h]; rfl
theorem dec_str {x y : Str} : decide (V.str x = V.str y) = decide (x = y) := decide_eq_decide.mpr ⟨fun h => V.str.inj h, fun h => by rw [h]⟩
theorem fig_cons {x : Str} (h : 1 ≤ (figS x).length) : ∃ c r, (figS x).cps.toList = c :: r := by
  cases hx : (figS x).cps.toList with
  | nil => rw [len_is, hx] at h; simp at h
  | cons c r => exact ⟨c, r, rfl⟩
theorem fig_bound (x : Str) : x.length ≤ (figS x).length + 1 := by
  unfold figS
  split
  · rw [len_is, len_is, cut1, List.length_drop]; omega
  · omega
def sp_number_of (K : PySem.W.Frag) : Sp := fun vs H Q _ => ∃ u o, vs = [u] ∧ TxtOr K H u o ∧ ∀ H', Ex H H' → Q (numO o) H'
theorem ok_number_of (T : Txt K mg) : Gf P w K mg base 2 "number_of" [] (sp_number_of K) := by
  refine gf_mk T.f_number_of T.m_number_of (fun _ _ _ _ _ _ us hl => match us, hl with | [_], _ => rfl) fun fd F => fn_mk F sc_number_of (fun vs H Q E h => ?_) fun cd A outer s H vs Q E hr tk po h => ?_
  · obtain ⟨u, o, rfl, _⟩ := h; rfl
  · obtain ⟨u, o, rfl, hu, q⟩ := h
    have nd := sc_number_of.nd
    have n1 := T.n_isinstance
    have n2 := T.n_str
    have n3 := T.n_len
    have n4 := T.n_int
    have g1 := T.g_MOST_FIGURES
    have g2 := T.g_FIGURES
    cases hu with
    | odd ty k =>
      top_name
      exact q _ (Evl.Ex.refl _)
    | str x hz =>
      have hzs : x.length ≤ sizeLine := by rw [sizeLine_eq]; omega
      have qn : ¬ numOk x → ∀ H', Ex H H' → Q .non H' := fun h H' e => by
        have this : Q (numV x) H' := q H' e
        unfold numV at this
        rw [if_neg h] at this
        exact this
      have qi : numOk x → ∀ H', Ex H H' → Q (.int (numVal x)) H' := fun h H' e => by
        have this : Q (numV x) H' := q H' e
        unfold numV at this
        rw [if_pos h] at this
        exact this
      have hfl := figs_len x
      have hfz : (figS x).length ≤ sizeLine := by omega
      refine bcut (fun σ' H' => H = H' ∧ σ' = [some (.str x), none]) (by top_name; exact ⟨rfl, rfl⟩) ?_
      rintro _ _ ⟨rfl, rfl⟩
      refine bcut (fun σ' H' => H = H' ∧ σ' = [some (.str x), some (.str (figS x))]) ?_ ?_
      · top_name
        refine zstarts ?_
        top_name
        refine ⟨⟨_, rfl⟩, ?_⟩
        top_name
        refine ⟨x, "-", rfl, rfl, ?_⟩
        rw [sw_minus]
        top_name
        · rename_i h
          refine ⟨rfl, ?_⟩
          unfold figS
          rw [if_pos h]
          rfl
        · rename_i h
          refine ⟨rfl, ?_⟩
          unfold figS
          rw [if_neg h]
          rfl
      rintro _ _ ⟨rfl, rfl⟩
      top_name
      · exact qn (fun h => by have := h.1; omega) _ (Evl.Ex.refl _)
      · rename_i h1 h2
        refine zcall (ok_signs T) hr (by decide) takesF rfl ?_
        top_name
        refine ⟨figS x, figures, rfl, by omega, fun H1 e1 => ?_⟩
        top_name
        refine ifb (fun hk => ?_) (fun hk => ?_)
        · have ha : areB (figS x) figures = false := by simpa using hk
          top_name
          exact qn (fun h => by rw [h.2.1] at ha; cases ha) _ e1
        · have ha : areB (figS x) figures = true := by simpa using hk
          obtain ⟨c, r, hcr⟩ := fig_cons (x := x) (by omega)
          have hat : atI (figS x).cps.toList 0 = some c := by rw [hcr]; exact atI_nat (j := 0) rfl
          have fin : ¬ (c = 48 ∧ x ≠ "0") → numOk x := fun h => ⟨⟨by omega, by omega⟩, ha, fun z => by
            rw [hcr] at z
            exact h ⟨Option.some.inj z.1, z.2⟩⟩
          have bad : c = 48 → x ≠ "0" → ¬ numOk x := fun h h' z => z.2.2 ⟨by rw [hcr, h]; rfl, h'⟩
          top_name
          refine ixS hfz hat ?_
          top_name
          · rename_i h3 h4
            refine qn (bad (one_sign_is.mp (V.str.inj h3)) fun z => h4 (by rw [z])) _ e1
          · rename_i h3 h4
            have hok := fin fun z => z.2 (V.str.inj h4)
            refine kintS (int_of hok) (by have := fig_bound x; omega) ?_
            exact qi hok _ e1
          · rename_i h3
            have hok := fin fun z => h3 (by rw [one_sign_is.mpr z.1])
            refine kintS (int_of hok) (by have := fig_bound x; omega) ?_
            exact qi hok _ e1
      · exact qn (fun h => by have := h.1; omega) _ (Evl.Ex.refl _)
/-! ### words of a line -/
def sp_words (K : PySem.W.Frag) : Sp := fun vs H Q _ => ∃ u o, vs = [u] ∧ TxtOr K H u o ∧ match o with
  | none => ∀ H', Ex H H' → Q .non H'
  | some x => if ("" : Str) ∈ Txt.split x " " then ∀ H', Ex H H' → Q .non H' else ∀ t H', H t = none → Ex H H' → H' t = some (.lst ((Txt.split x " ").map V.str)) → Q (.ref t) H'
theorem flat_strs : ∀ ys : List Str, (ys.map V.str).all flatV = true
  | [] => rfl
  | y :: ys => flat_strs ys
theorem inV_strs (z : Str) : ∀ ys : List Str, inV (.str z) (ys.map V.str) = decide (z ∈ ys)
  | [] => rfl
  | y :: ys => by
    have := inV_strs z ys
    unfold inV at this ⊢
    rw [List.map_cons, List.any_cons, this]
    have e : eqV (.str y) (.str z) = decide (y = z) := by
      show (y == z) = decide (y = z)
      by_cases h : y = z
      · subst h; simp
      · rw [decide_eq_false h]; exact beq_eq_false_iff_ne.mpr h
    rw [e]
    by_cases h : y = z
    · subst h; simp
    · rw [decide_eq_false h]
      by_cases h2 : z ∈ ys
      · simp [h2]
      · have h3 : ¬ z = y := fun q => h q.symm
        simp [h2, h3]
theorem ok_words (T : Txt K mg) : Gf P w K mg base 1 "words_of" [] (sp_words K) := by
  refine gf_mk T.f_words_of T.m_words_of (fun _ _ _ _ _ _ us hl => match us, hl with | [_], _ => rfl) fun fd F => fn_mk F sc_words_of (fun vs H Q E h => ?_) fun cd A outer s H vs Q E hr tk po h => ?_
  · obtain ⟨u, o, rfl, _⟩ := h; rfl
  · obtain ⟨u, o, rfl, hu, q⟩ := h
    have nd := sc_words_of.nd
    have n1 := T.n_isinstance
    have n2 := T.n_str
    cases hu with
    | odd ty k =>
      top_name
      exact q _ (Evl.Ex.refl _)
    | str x hz =>
      have q : if ("" : Str) ∈ Txt.split x " " then ∀ H', Ex H H' → Q .non H' else ∀ t H', H t = none → Ex H H' → H' t = some (.lst ((Txt.split x " ").map V.str)) → Q (.ref t) H' := q
      top_name
      refine zsplit ?_
      top_name
      refine ⟨⟨_, rfl⟩, ?_⟩
      top_name
      refine ⟨x, " ", rfl, rfl, rfl, by rw [sizeLine_eq]; omega, fun p H1 hp e1 hx => ?_⟩
      top_name
      refine oinF (.inl (SqL.of hx)) rfl (flat_strs _) ?_
      rw [inV_strs]
      top_name
      · rename_i h
        rw [if_pos h] at q
        exact q _ e1
      · rename_i h
        rw [if_neg h] at q
        exact q p H1 hp e1 hx
/-! ### the law's own looks -/
theorem filt_len {x : Str} {f : Nat → V} {g : Nat → Bool} {j c : Nat} (hz : x.length ≤ 100000) (h : x.cps[j]? = some c) : (((x.cps.toList.take j).filter g).map f).length < sizeLine := by
  have := (Array.getElem?_eq_some_iff.mp h).1
  have h1 := List.length_filter_le g (x.cps.toList.take j)
  have h2 := List.length_take_le j x.cps.toList
  rw [List.length_map, sizeLine_eq]
  have e : x.length = x.cps.size := rfl
  omega
theorem filt_yes {x : Str} {f : Nat → V} {g : Nat → Bool} {j c : Nat} (h : x.cps[j]? = some c) (hg : g c = true) : ((x.cps.toList.take (j + 1)).filter g).map f = ((x.cps.toList.take j).filter g).map f ++ [f c] := by
  rw [List.take_add_one, show x.cps.toList[j]? = some c from by rw [Array.getElem?_toList]; exact h, List.filter_append, List.map_append]
  simp [hg]
theorem filt_no {x : Str} {f : Nat → V} {g : Nat → Bool} {j c : Nat} (h : x.cps[j]? = some c) (hg : g c = false) : ((x.cps.toList.take (j + 1)).filter g).map f = ((x.cps.toList.take j).filter g).map f := by
  rw [List.take_add_one, show x.cps.toList[j]? = some c from by rw [Array.getElem?_toList]; exact h, List.filter_append, List.map_append]
  simp [hg]
theorem filt_nil {x z : Str} : (((x.cps.toList.filter fun c => !decide (c ∈ z.cps.toList)).map fun c => (⟨#[c]⟩ : Str)) = []) ↔ areB x z = true := by
  unfold areB
  rw [List.map_eq_nil_iff, List.filter_eq_nil_iff, List.all_eq_true]
  constructor
  · intro h c hc
    simpa using h c hc
  · intro h c hc
    simpa using h c hc
end

set_option maxRecDepth 100000
set_option maxHeartbeats 4000000
set_option pp.maxSteps 1500
section
open PySem PySem.Spec PyProof.Rows L2 Z
open Evl (Ex)
variable {P : Program} {w : World} {K : PySem.W.Frag} {mg : Str → Option Value} {base : Heap}
/-! ### numbers as texts, plainly -/
theorem tl_numI (n : Int) : (Str.ofString (toString n)).cps.toList = if n < 0 then 45 :: TL.numL n.natAbs else TL.numL n.natAbs := by
  cases n with
  | ofNat m =>
    rw [if_neg (show ¬ (Int.ofNat m < 0) from Int.not_lt.mpr (Int.natCast_nonneg m))]
    exact TL.tl_num m
  | negSucc m =>
    rw [if_pos (show Int.negSucc m < 0 from Int.negSucc_lt_zero m)]
    have h := TL.tl_num (m + 1)
    rw [show TL.tl (Str.ofString (toString (((m + 1 : Nat) : Int)))) = (Str.ofString (toString (((m + 1 : Nat) : Int)))).cps.toList from rfl, PyProof.Rows.signs_ofString] at h
    rw [PyProof.Rows.signs_ofString]
    show ("-" ++ Nat.repr (m + 1)).toList.map Char.toNat = _
    rw [String.toList_append, List.map_append]
    show 45 :: (Nat.repr (m + 1)).toList.map Char.toNat = _
    congr 1
theorem numL_head : ∀ m : Nat, 0 < m → (TL.numL m).head? ≠ some 48 := fun m => by
  induction m using Nat.strongRecOn with
  | ind m ih =>
    intro h
    by_cases h1 : m < 10
    · rw [TL.numL_lt h1]
      intro z
      have := Option.some.inj z
      omega
    · rw [TL.numL_step (by omega)]
      have := ih (m / 10) (by omega) (by omega)
      cases hx : TL.numL (m / 10) with
      | nil => exact absurd hx (TL.numL_ne _)
      | cons c r => rw [hx] at this; exact this
theorem head_digit {l : List Nat} (h : NumText.AllDigits l) : l.head? ≠ some 45 := by
  cases l with
  | nil => intro z; cases z
  | cons c r =>
    intro z
    have := h c List.mem_cons_self
    have := Option.some.inj z
    omega
theorem fig_num (n : Int) : (figS (toString n : Str)).cps.toList = TL.numL n.natAbs := by
  unfold figS
  have e := tl_numI n
  by_cases h : n < 0
  · rw [if_pos h] at e
    rw [if_pos (by show (Str.ofString (toString n)).cps.toList.head? = _; rw [e]; rfl), cut1]
    show (Str.ofString (toString n)).cps.toList.drop 1 = _
    rw [e]
    rfl
  · rw [if_neg h] at e
    rw [if_neg (by show ¬ (Str.ofString (toString n)).cps.toList.head? = _; rw [e]; exact head_digit (TL.numL_digits _))]
    exact e
theorem num_small {n : Int} (h : n.natAbs < 2 ^ 256) : (TL.numL n.natAbs).length ≤ 80 ∧ 1 ≤ (TL.numL n.natAbs).length := by
  refine ⟨TL.numL_len (by decide) (Nat.lt_trans h (by decide)), ?_⟩
  cases hx : TL.numL n.natAbs with
  | nil => exact absurd hx (TL.numL_ne _)
  | cons c r => rw [List.length_cons]; omega
theorem num_ok {n : Int} (h : n.natAbs < 2 ^ 256) : numOk (toString n : Str) := by
  have hs := num_small h
  refine ⟨⟨by rw [len_is, fig_num]; omega, by rw [len_is, fig_num]; omega⟩, ?_, ?_⟩
  · unfold areB
    rw [fig_num]
    exact List.all_eq_true.mpr fun c hc => decide_eq_true (in_figures.mpr (TL.numL_digits _ c hc))
  · rw [fig_num]
    rintro ⟨h1, h2⟩
    by_cases h0 : n = 0
    · subst h0; exact h2 rfl
    · exact numL_head _ (by omega) h1
theorem num_val (n : Int) : numVal (toString n : Str) = n := by
  unfold numVal
  rw [fig_num, TL.numL_val]
  have e := tl_numI n
  by_cases h : n < 0
  · rw [if_pos h] at e
    rw [if_pos (by show (Str.ofString (toString n)).cps.toList.head? = _; rw [e]; rfl)]
    omega
  · rw [if_neg h] at e
    rw [if_neg (by show ¬ (Str.ofString (toString n)).cps.toList.head? = _; rw [e]; exact head_digit (TL.numL_digits _))]
    omega
theorem num_len {n : Int} (h : n.natAbs < 2 ^ 256) : (toString n : Str).length ≤ 81 := by
  have := fig_bound (toString n : Str)
  have e : (figS (toString n : Str)).length ≤ 80 := by rw [len_is, fig_num]; exact (num_small h).1
  omega
end

set_option maxRecDepth 100000
set_option maxHeartbeats 4000000
set_option pp.maxSteps 1500
section
open PySem PySem.Spec PyProof.Rows L2 Z
open Evl (Ex)
variable {P : Program} {w : World} {K : PySem.W.Frag} {mg : Str → Option Value} {base : Heap}
/-! ### words -/
theorem words_len : ∀ k : KD, k.words.length ≤ 2 + k.dep
  | .truth => by decide
  | .count => by decide
  | .whole => by decide
  | .upto _ => by show 2 ≤ 2 + 0; decide
  | .text n => by unfold KD.words; split <;> (show _ ≤ 2 + 0; simp)
  | .form _ => by show 2 ≤ 2 + 0; decide
  | .list k => by have := words_len k; show (k.words.length + 1) ≤ 2 + (k.dep + 1); omega
def spW (K : PySem.W.Frag) (k : KD) : Sp := fun vs H Q _ => ∃ a : Addr, vs = [.ref a] ∧ KI K H (.ref a) k ∧ ∀ t H', H t = none → Ex H H' → H' t = some (.lst (k.words.map V.str)) → Q (.ref t) H'
theorem log_most {n : Int} (h0 : 0 ≤ n) (h1 : n ≤ MOST) : n.natAbs.log2 < 1920 := by
  by_cases e : n.natAbs = 0
  · rw [e]; decide
  · unfold MOST at h1
    exact (Nat.log2_lt e).mpr (Nat.lt_trans (show n.natAbs < 2 ^ 256 by omega) (Nat.pow_lt_pow_right (by decide) (by decide)))
theorem mf_words (T : Txt K mg) : ∀ (k : KD), k.Ok → k.dep ≤ 1000 → Mf P w K mg base (2 + k.dep) (He.ga K k.cls) "words" [] (spW K k) := by
  have kindw : ∀ (k : KD), k.words = [k.word] → ∀ fd, FunD K "words" "Kind.words" (defArgs s_Kind_words) (defBody s_Kind_words) (defScope s_Kind_words) [] [] (He.fAd K ("Kind", some "words")) fd → FnOk P w K mg base (L2N.CX P w) 2 (He.fAd K ("Kind", some "words")) fd ["self"] (spW K k) := fun k hk fd F => by
    refine fn_mk F sc_Kind_words (fun vs H Q E h => ?_) fun cd A outer s H vs Q E hr tk po h => ?_
    · obtain ⟨a, rfl, _⟩ := h; rfl
    · obtain ⟨a, rfl, hi, q⟩ := h
      obtain ⟨a', dx, fs, ea, hx, hl⟩ := hi.ins
      cases ea
      top_name
      refine zmeth0 hr tk ?_
      top_name
      refine ⟨a, _, dx, fs, 1, [], _, rfl, hx, hl "word" (by decide +kernel), mf_word T k, by decide, a, rfl, ?_⟩
      top_name
      rename_i t H1 ht e1 hxt
      exact q t H1 ht e1 (by rw [hk]; exact hxt)
  intro k
  induction k with
  | truth => exact fun _ _ => mf_mk T.f_Kind_words T.c_Truth.cl T.h_Truth_words (fun _ _ _ _ _ _ us hl => match us, hl with | [_], _ => rfl) (kindw .truth rfl)
  | count => exact fun _ _ => mf_mk T.f_Kind_words T.c_Count.cl T.h_Count_words (fun _ _ _ _ _ _ us hl => match us, hl with | [_], _ => rfl) (kindw .count rfl)
  | whole => exact fun _ _ => mf_mk T.f_Kind_words T.c_Whole.cl T.h_Whole_words (fun _ _ _ _ _ _ us hl => match us, hl with | [_], _ => rfl) (kindw .whole rfl)
  | upto n =>
    intro hok hdp
    refine mf_mk T.f_Upto_words T.c_Upto.cl T.h_Upto_words (fun _ _ _ _ _ _ us hl => match us, hl with | [_], _ => rfl) fun fd F => fn_mk F sc_Upto_words (fun vs H Q E h => ?_) fun cd A outer s H vs Q E hr tk po h => ?_
    · obtain ⟨a, rfl, _⟩ := h; rfl
    · obtain ⟨a, rfl, hi, q⟩ := h
      cases hi with
      | upto hx =>
        have c1 := T.c_Upto.cl
        have a1 := T.a_Upto_most
        top_name
        refine zmeth0 hr tk ?_
        top_name
        refine ⟨a, _, _, _, 1, [], _, rfl, hx, rfl, mf_word T (.upto n), by decide, a, rfl, ?_⟩
        top_name
        refine zcall (ok_ntext T) hr (by decide) takesF rfl ?_
        top_name
        refine ⟨log_most (by have := hok.1; omega) hok.2, ?_⟩
        top_name
        rename_i t H1 ht e1 hxt
        exact q t H1 ht e1 hxt
  | text n =>
    intro hok hdp
    refine mf_mk T.f_Text_words T.c_Text.cl T.h_Text_words (fun _ _ _ _ _ _ us hl => match us, hl with | [_], _ => rfl) fun fd F => fn_mk F sc_Text_words (fun vs H Q E h => ?_) fun cd A outer s H vs Q E hr tk po h => ?_
    · obtain ⟨a, rfl, _⟩ := h; rfl
    · obtain ⟨a, rfl, hi, q⟩ := h
      cases hi with
      | text hx =>
        have c1 := T.c_Text.cl
        have a1 := T.a_Text_most
        have g1 := T.g_MOST_SIGNS
        top_name
        · rename_i h100
          refine zmeth0 hr tk ?_
          top_name
          refine ⟨a, _, _, _, 1, [], _, rfl, hx, rfl, mf_word T (.text n), by decide, a, rfl, ?_⟩
          top_name
          rename_i t H1 ht e1 hxt
          refine q t H1 ht e1 ?_
          unfold KD.words
          rw [if_pos h100]
          exact hxt
        · rename_i h100
          refine zmeth0 hr tk ?_
          top_name
          refine ⟨a, _, _, _, 1, [], _, rfl, hx, rfl, mf_word T (.text n), by decide, a, rfl, ?_⟩
          top_name
          refine zcall (ok_ntext T) hr (by decide) takesF rfl ?_
          top_name
          refine ⟨log_most (by have := hok.1; omega) (by have := hok.2; unfold MOST; omega), ?_⟩
          top_name
          rename_i t H1 ht e1 hxt
          refine q t H1 ht e1 ?_
          unfold KD.words
          rw [if_neg h100]
          exact hxt
  | form s =>
    intro hok hdp
    refine mf_mk T.f_Nested_words T.c_Nested.cl T.h_Nested_words (fun _ _ _ _ _ _ us hl => match us, hl with | [_], _ => rfl) fun fd F => fn_mk F sc_Nested_words (fun vs H Q E h => ?_) fun cd A outer s' H vs Q E hr tk po h => ?_
    · obtain ⟨a, rfl, _⟩ := h; rfl
    · obtain ⟨a, rfl, hi, q⟩ := h
      cases hi with
      | form hx =>
        have c1 := T.c_Nested.cl
        have a1 := T.a_Nested_name
        top_name
        refine zmeth0 hr tk ?_
        top_name
        refine ⟨a, _, _, _, 1, [], _, rfl, hx, rfl, mf_word T (.form s), by decide, a, rfl, ?_⟩
        top_name
        rename_i t H1 ht e1 hxt
        exact q t H1 ht e1 hxt
  | list k ih =>
    intro hok hdp
    refine mf_mk T.f_List_words T.c_List.cl T.h_List_words (fun _ _ _ _ _ _ us hl => match us, hl with | [_], _ => rfl) fun fd F => fn_mk (k := 2 + k.dep) F sc_List_words (fun vs H Q E h => ?_) fun cd A outer s H vs Q E hr tk po h => ?_
    · obtain ⟨a, rfl, _⟩ := h; rfl
    · obtain ⟨a, rfl, hi, q⟩ := h
      cases hi with
      | list hx hi =>
        have c1 := T.c_List.cl
        have a1 := T.a_List_item
        top_name
        refine zmeth0 hr tk ?_
        top_name
        refine ⟨a, _, _, _, 1, [], _, rfl, hx, rfl, mf_word T (.list k), by omega, a, rfl, ?_⟩
        top_name
        rename_i t H1 ht e1 hxt
        refine zmeth0 hr tk ?_
        top_name
        obtain ⟨b, dx, fs, eb, hb, hl⟩ := (hi.ex e1).ins
        subst eb
        refine ⟨b, _, dx, fs, _, [], _, rfl, hb, hl "words" (by decide +kernel), ih hok (by have : k.dep + 1 ≤ 1000 := hdp; omega), Nat.le_refl _, b, rfl, hi.ex e1, fun t2 H2 ht2 e2 hx2 => ?_⟩
        refine ocatE (e2 _ _ hxt) hx2 (by have := words_len k; have : k.dep + 1 ≤ 1000 := hdp; rw [List.length_map, sizeLine_eq]; show 1 + _ ≤ _; omega) fun t3 H3 ht3 e3 hx3 => ?_
        exact q t3 H3 (Evl.fresh_back (e1.trans e2) ht3) (e1.trans (e2.trans e3)) hx3
def spV (K : PySem.W.Frag) (k : KD) (v : V) : Sp := fun vs H Q _ => ∃ a : Addr, vs = [.ref a] ∧ KI K H (.ref a) k ∧ Q v H
theorem mf_as {k : Nat} {C : Addr} {m : Str} {dvs : List V} {sp sp' : Sp} (h : Mf P w K mg base k C m dvs sp) (q : ∀ vs H Q E, sp' vs H Q E → sp vs H Q E) : Mf P w K mg base k C m dvs sp' := by
  obtain ⟨f, fd, ps, ds, h0, h1, h3, h4, h5⟩ := h
  exact ⟨f, fd, ps, ds, h0, h1, h3, h4, ⟨fun vs H Q E z => h5.len _ _ _ _ (q _ _ _ _ z), fun A outer s H args us vs Q E hr e hb r z => h5.run A outer s H args us vs Q E hr e hb r (q _ _ _ _ z)⟩⟩
def spB (k : KD) : Sp := fun vs H Q _ => ∃ a : Addr, vs = [.ref a] ∧ match k with
  | .list _ => ∀ t H', H t = none → Ex H H' → H' t = some (.lst []) → Q (.ref t) H'
  | k => Q k.blank H
theorem mf_blank (T : Txt K mg) (k : KD) : Mf P w K mg base 1 (He.ga K k.cls) "blank" [] (spB k) := by
  cases k with
  | truth => exact mf_Truth_blank T
  | count => exact mf_Count_blank T
  | whole => exact mf_Whole_blank T
  | upto n => exact mf_Upto_blank T
  | text n => exact mf_Text_blank T
  | form s => exact mf_Nested_blank T
  | list k =>
    refine mf_mk T.f_List_blank T.c_List.cl T.h_List_blank (fun _ _ _ _ _ _ us hl => match us, hl with | [_], _ => rfl) fun fd F => fn_mk F sc_List_blank (fun vs H Q E h => ?_) fun cd A outer s H vs Q E hr tk po h => ?_
    · obtain ⟨a, rfl, _⟩ := h; rfl
    · obtain ⟨a, rfl, q⟩ := h
      top_name
      rename_i t H1 ht e1 hxt
      exact q t H1 ht e1 hxt
/-! ### what suits -/
def HALF : Int := 57896044618658097711785492504343953926634992332820282019728792003956564819968
theorem half_most : MOST / 2 = HALF - 1 := by decide +kernel
theorem most_half : MOST = 2 * HALF - 1 := by decide +kernel
def signB (c : Nat) : Bool := decide (32 ≤ c) && decide (c ≤ 126)
mutual
inductive Suit (K : PySem.W.Frag) (H : Hp) : KD → V → Bool → Prop
  | tyes (x : Bool) : Suit K H .truth (.bl x) true
  | tno {v : V} {t : Value} (ty : TyX K H v t) (k : PySem.W.kitOne K t (.type "bool") = some false) : Suit K H .truth v false
  | count {v : V} {b : Bool} (h : Asked K H 0 MOST v b) : Suit K H .count v b
  | whole {v : V} {b : Bool} (h : Asked K H (-HALF) (HALF - 1) v b) : Suit K H .whole v b
  | upto {n : Int} {v : V} {b : Bool} (h : Asked K H 0 n v b) : Suit K H (.upto n) v b
  | text {n : Int} (x : Str) (hz : x.length ≤ 1000) (hp : ∀ c ∈ x.cps.toList, c ≠ 37) : Suit K H (.text n) (.str x) (decide ((x.length : Int) ≤ n) && x.cps.toList.all signB)
  | textno {n : Int} {v : V} {t : Value} (ty : TyX K H v t) (k : PySem.W.kitOne K t (.type "str") = some false) : Suit K H (.text n) v false
  | form {s : Str} (v : V) : Suit K H (.form s) v true
  | list {k : KD} {l : Addr} {xs : List V} {bs : List Bool} (h : H l = some (.lst xs)) (hz : xs.length ≤ 1000) (a : SuitAll K H k xs bs) : Suit K H (.list k) (.ref l) (decide (xs.length ≤ 20) && bs.all id)
  | listno {k : KD} {v : V} {t : Value} (ty : TyX K H v t) (q : PySem.W.kitOne K t (.type "list") = some false) : Suit K H (.list k) v false
inductive SuitAll (K : PySem.W.Frag) (H : Hp) : KD → List V → List Bool → Prop
  | nil {k : KD} : SuitAll K H k [] []
  | cons {k : KD} {v : V} {b : Bool} {vs : List V} {bs : List Bool} : Suit K H k v b → SuitAll K H k vs bs → SuitAll K H k (v :: vs) (b :: bs)
end
mutual
theorem Suit.ex {H H' : Hp} (e : Ex H H') : ∀ {k : KD} {v : V} {b : Bool}, Suit K H k v b → Suit K H' k v b
  | _, _, _, .tyes x => .tyes x
  | _, _, _, .tno ty k => .tno (TyX.ex e ty) k
  | _, _, _, .count h => .count (Asked.ex e h)
  | _, _, _, .whole h => .whole (Asked.ex e h)
  | _, _, _, .upto h => .upto (Asked.ex e h)
  | _, _, _, .text x hz hp => .text x hz hp
  | _, _, _, .textno ty k => .textno (TyX.ex e ty) k
  | _, _, _, .form v => .form v
  | _, _, _, .list h hz a => .list (e _ _ h) hz (SuitAll.ex e a)
  | _, _, _, .listno ty q => .listno (TyX.ex e ty) q
theorem SuitAll.ex {H H' : Hp} (e : Ex H H') : ∀ {k : KD} {vs : List V} {bs : List Bool}, SuitAll K H k vs bs → SuitAll K H' k vs bs
  | _, _, _, .nil => .nil
  | _, _, _, .cons a t => .cons (Suit.ex e a) (SuitAll.ex e t)
end
theorem SuitAll.length {H : Hp} {k : KD} : ∀ {vs : List V} {bs : List Bool}, SuitAll K H k vs bs → vs.length = bs.length
  | _, _, .nil => rfl
  | _, _, .cons _ t => by rw [List.length_cons, List.length_cons, t.length]
theorem SuitAll.get {H : Hp} {k : KD} : ∀ {vs : List V} {bs : List Bool} {i : Nat} {v : V}, SuitAll K H k vs bs → vs[i]? = some v → ∃ b, bs[i]? = some b ∧ Suit K H k v b
  | _, _, 0, _, .cons a _, h => by simp at h; subst h; exact ⟨_, rfl, a⟩
  | _, _, i + 1, _, .cons _ t, h => by obtain ⟨b, h1, h2⟩ := t.get (i := i) (by simpa using h); exact ⟨b, by simpa using h1, h2⟩
/-- a sign -/
theorem lt_one {c d : Nat} : ([c] : List Nat) < [d] ↔ c < d := by
  rw [List.cons_lt_cons_iff]
  simp
theorem ok_is_sign (T : Txt K mg) : Gf P w K mg base 1 "is_sign" [] (fun vs H Q _ => ∃ c : Nat, vs = [.str ⟨#[c]⟩] ∧ c ≠ 37 ∧ Q (.bl (signB c)) H) := by
  refine gf_mk T.f_is_sign T.m_is_sign (fun _ _ _ _ _ _ us hl => match us, hl with | [_], _ => rfl) fun fd F => fn_mk F sc_is_sign (fun vs H Q E h => ?_) fun cd A outer s H vs Q E hr tk po h => ?_
  · obtain ⟨c, rfl, _⟩ := h; rfl
  · obtain ⟨c, rfl, hc, q⟩ := h
    have nd := sc_is_sign.nd
    have n1 := T.n_ord
    have g1 := T.g_NO_SIGN
    unfold signB at q
    have e1 : (!decide ((⟨#[c]⟩ : Str).cps.toList < (" " : Str).cps.toList)) = decide (32 ≤ c) := by
      show (!decide ([c] < [32])) = _
      by_cases h : 32 ≤ c
      · rw [decide_eq_true h, decide_eq_false (fun z => by have := lt_one.mp z; omega)]; rfl
      · rw [decide_eq_false h, decide_eq_true (lt_one.mpr (by omega))]; rfl
    have e2 : (!decide (("~" : Str).cps.toList < (⟨#[c]⟩ : Str).cps.toList)) = decide (c ≤ 126) := by
      show (!decide ([126] < [c])) = _
      by_cases h : c ≤ 126
      · rw [decide_eq_true h, decide_eq_false (fun z => by have := lt_one.mp z; omega)]; rfl
      · rw [decide_eq_false h, decide_eq_true (lt_one.mpr (by omega))]; rfl
    top_name
    refine oles ?_
    rw [e1]
    top_name
    · rename_i h1
      refine oles ?_
      rw [e2]
      rw [decide_eq_true h1, Bool.true_and] at q
      refine ⟨_, rfl, ?_⟩
      refine ifd (fun h2 => ?_) (fun h2 => ?_)
      · top_name
        refine kord rfl ?_
        top_name
        rw [decide_eq_true h2] at q
        show Q (V.bl (!decide (((c : Nat) : Int) = 37))) H
        rw [decide_eq_false (show ¬ ((c : Nat) : Int) = 37 by omega)]
        exact q
      · rw [decide_eq_false h2] at q
        exact q
    · rename_i h1
      rw [decide_eq_false h1, Bool.false_and] at q
      exact q
def spS (K : PySem.W.Frag) (k : KD) : Sp := fun vs H Q _ => ∃ (a : Addr) (v : V) (b : Bool), vs = [.ref a, v] ∧ KI K H (.ref a) k ∧ Suit K H k v b ∧ ∀ H', Ex H H' → Q (.bl b) H'
theorem mf_suits (T : Txt K mg) : ∀ (k : KD), k.dep ≤ 1000 → Mf P w K mg base (3 + k.dep) (He.ga K k.cls) "suits" [] (spS K k) := by
  intro k
  induction k with
  | truth =>
    intro _
    refine mf_mk T.f_Truth_suits T.c_Truth.cl T.h_Truth_suits (fun _ _ _ _ _ _ us hl => match us, hl with | [_, _], _ => rfl) fun fd F => fn_mk (k := 2) F sc_Truth_suits (fun vs H Q E h => ?_) fun cd A outer s H vs Q E hr tk po h => ?_
    · obtain ⟨a, v, b, rfl, _⟩ := h; rfl
    · obtain ⟨a, v, b, rfl, hi, hs, q⟩ := h
      have n1 := T.n_isinstance
      have n2 := T.n_bool
      cases hs with
      | tyes x =>
        top_name
        exact q _ (Evl.Ex.refl _)
      | tno ty hk =>
        top_name
        exact q _ (Evl.Ex.refl _)
  | count =>
    intro _
    refine mf_mk T.f_Count_suits T.c_Count.cl T.h_Count_suits (fun _ _ _ _ _ _ us hl => match us, hl with | [_, _], _ => rfl) fun fd F => fn_mk (k := 2) F sc_Count_suits (fun vs H Q E h => ?_) fun cd A outer s H vs Q E hr tk po h => ?_
    · obtain ⟨a, v, b, rfl, _⟩ := h; rfl
    · obtain ⟨a, v, b, rfl, hi, hs, q⟩ := h
      cases hs with
      | count hs =>
        have g1 := T.g_MOST_NUMBER
        top_name
        refine zcall (ok_is_among T) hr (by decide) takesF rfl ?_
        top_name
        refine ⟨v, 0, MOST, b, rfl, hs, ?_⟩
        exact q _ (Evl.Ex.refl _)
  | whole =>
    intro _
    refine mf_mk T.f_Whole_suits T.c_Whole.cl T.h_Whole_suits (fun _ _ _ _ _ _ us hl => match us, hl with | [_, _], _ => rfl) fun fd F => fn_mk (k := 2) F sc_Whole_suits (fun vs H Q E h => ?_) fun cd A outer s H vs Q E hr tk po h => ?_
    · obtain ⟨a, v, b, rfl, _⟩ := h; rfl
    · obtain ⟨a, v, b, rfl, hi, hs, q⟩ := h
      cases hs with
      | whole hs =>
        have g1 := T.g_MOST_NUMBER
        top_name
        refine zcall (ok_is_among T) hr (by decide) takesF rfl ?_
        top_name
        rw [show (0 : Int) - 115792089237316195423570985008687907853269984665640564039457584007913129639935 / 2 - 1 = -HALF from by decide +kernel, show (115792089237316195423570985008687907853269984665640564039457584007913129639935 : Int) / 2 = HALF - 1 from by decide +kernel]
        refine ⟨v, -HALF, HALF - 1, b, rfl, hs, ?_⟩
        exact q _ (Evl.Ex.refl _)
  | upto n =>
    intro _
    refine mf_mk T.f_Upto_suits T.c_Upto.cl T.h_Upto_suits (fun _ _ _ _ _ _ us hl => match us, hl with | [_, _], _ => rfl) fun fd F => fn_mk (k := 2) F sc_Upto_suits (fun vs H Q E h => ?_) fun cd A outer s H vs Q E hr tk po h => ?_
    · obtain ⟨a, v, b, rfl, _⟩ := h; rfl
    · obtain ⟨a, v, b, rfl, hi, hs, q⟩ := h
      have c1 := T.c_Upto.cl
      have a1 := T.a_Upto_most
      cases hs with
      | upto hs =>
        cases hi with
        | upto hx =>
          top_name
          refine zcall (ok_is_among T) hr (by decide) takesF rfl ?_
          top_name
          refine ⟨v, 0, n, b, rfl, hs, ?_⟩
          exact q _ (Evl.Ex.refl _)
  | text n =>
    intro _
    refine mf_mk T.f_Text_suits T.c_Text.cl T.h_Text_suits (fun _ _ _ _ _ _ us hl => match us, hl with | [_, _], _ => rfl) fun fd F => fn_mk (k := 2) F sc_Text_suits (fun vs H Q E h => ?_) fun cd A outer s H vs Q E hr tk po h => ?_
    · obtain ⟨a, v, b, rfl, _⟩ := h; rfl
    · obtain ⟨a, v, b, rfl, hi, hs, q⟩ := h
      have nd := sc_Text_suits.nd
      have n1 := T.n_isinstance
      have n2 := T.n_str
      have n3 := T.n_len
      have n4 := T.n_all
      have c1 := T.c_Text.cl
      have a1 := T.a_Text_most
      cases hs with
      | textno ty hk =>
        top_name
        exact q _ (Evl.Ex.refl _)
      | text x hz hp =>
        cases hi with
        | text hx =>
          have hzs : x.length ≤ sizeLine := by rw [sizeLine_eq]; omega
          top_name
          · rename_i hgt
            have := q _ (Evl.Ex.refl _)
            rw [decide_eq_false (show ¬ (x.length : Int) ≤ n by omega)] at this
            exact this
          · rename_i hle
            refine zlc rfl nd [("sign", 2)] (blkOk_by (N := N_Text_suits) (sc := defScope s_Text_suits) (by decide +kernel)) piS (tmS (x := x) (fun j => (x.cps.toList.take j).map fun c => V.bl (signB c)) rfl ?_)
            top_name
            refine ⟨rfl, fun j c H1 hc e1 => ?_, fun L H1 hL e1 hxL => ?_⟩
            · have hc' : x.cps.toList[j]? = some c := by rw [Array.getElem?_toList]; exact hc
              top_name
              refine zcall (ok_is_sign T) hr (by decide) takesF rfl ?_
              top_name
              exact ⟨hp c (List.mem_of_getElem? hc'), take_sign hc, take_len (by omega) hc, Evl.Ex.refl _⟩
            · rw [take_all] at hxL
              top_name
              refine kall (bs := x.cps.toList.map signB) rfl (SqL.of (by rw [hxL, List.map_map]; rfl)) ?_
              have := q _ e1
              rw [decide_eq_true (show (x.length : Int) ≤ n by omega), Bool.true_and] at this
              rw [List.all_map]
              exact this
  | form s' =>
    intro _
    refine mf_mk T.f_Nested_suits T.c_Nested.cl T.h_Nested_suits (fun _ _ _ _ _ _ us hl => match us, hl with | [_, _], _ => rfl) fun fd F => fn_mk (k := 2) F sc_Nested_suits (fun vs H Q E h => ?_) fun cd A outer s H vs Q E hr tk po h => ?_
    · obtain ⟨a, v, b, rfl, _⟩ := h; rfl
    · obtain ⟨a, v, b, rfl, hi, hs, q⟩ := h
      cases hs with
      | form =>
        top_name
        exact q _ (Evl.Ex.refl _)
  | list k ih =>
    intro hdp
    refine mf_mk T.f_List_suits T.c_List.cl T.h_List_suits (fun _ _ _ _ _ _ us hl => match us, hl with | [_, _], _ => rfl) fun fd F => fn_mk (k := 3 + k.dep) F sc_List_suits (fun vs H Q E h => ?_) fun cd A outer s H vs Q E hr tk po h => ?_
    · obtain ⟨a, v, b, rfl, _⟩ := h; rfl
    · obtain ⟨a, v, b, rfl, hi, hs, q⟩ := h
      have nd := sc_List_suits.nd
      have n1 := T.n_isinstance
      have n2 := T.n_list
      have n3 := T.n_len
      have n4 := T.n_all
      have g1 := T.g_MOST_THINGS
      have c1 := T.c_List.cl
      have a1 := T.a_List_item
      cases hs with
      | listno ty hk =>
        top_name
        exact q _ (Evl.Ex.refl _)
      | @list _ l xs bs h hz al =>
        cases hi with
        | list hx hi =>
          top_name
          · rename_i hgt
            have := q _ (Evl.Ex.refl _)
            rw [decide_eq_false (show ¬ xs.length ≤ 20 by omega)] at this
            exact this
          · rename_i hle
            refine zlc rfl nd [("thing", 2)] (blkOk_by (N := N_List_suits) (sc := defScope s_List_suits) (by decide +kernel)) piL (tmL (xs := xs) (fun j => (bs.take j).map V.bl) rfl ?_)
            top_name
            refine ⟨SqL.of h, fun j y H1 hy e1 => ?_, fun L H1 hL e1 hxL => ?_⟩
            · obtain ⟨b', hb', hsu⟩ := al.get hy
              have hx1 := e1 _ _ hx
              top_name
              refine zmeth hr takesF ?_
              top_name
              obtain ⟨i, dx, fs, ei, hi2, hl⟩ := (hi.ex e1).ins
              subst ei
              refine ⟨i, _, dx, fs, _, [], _, rfl, hi2, hl "suits" (by decide +kernel), ih (by have : k.dep + 1 ≤ 1000 := hdp; omega), Nat.le_refl _, ?_⟩
              top_name
              refine ⟨i, y, b', rfl, hi.ex e1, hsu.ex e1, fun H2 e2 => ?_⟩
              refine ⟨take_map_succ hb', ?_, e2⟩
              rw [List.length_map, List.length_take, sizeLine_eq]
              have := (List.getElem?_eq_some_iff.mp hy).1
              omega
            · have hlb := al.length
              rw [hlb, List.take_length] at hxL
              top_name
              refine kall rfl (SqL.of hxL) ?_
              have := q _ e1
              rw [decide_eq_true (show xs.length ≤ 20 by omega), Bool.true_and] at this
              exact this
end

set_option maxRecDepth 100000
set_option maxHeartbeats 4000000
set_option pp.maxSteps 1500
section
open PySem PySem.Spec PyProof.Rows L2 Z
open Evl (Ex)
variable {P : Program} {w : World} {K : PySem.W.Frag} {mg : Str → Option Value} {base : Heap}
/-! ### what is drawn -/
def spNum (K : PySem.W.Frag) : Sp := fun vs H Q _ => ∃ (a : Addr) (ns : List Int) (k : Int), vs = [.ref a, .int k] ∧ SqL K H a (ns.map V.int) ∧ 0 ≤ k ∧ k ≤ 1000 ∧ ∀ c, 0 ≤ c → c < 2147483629 → Q (.int c) H
theorem ok_number (T : Txt K mg) : Gf P w K mg base 1 "_law_number" [] (spNum K) := by
  refine gf_mk T.f__law_number T.m__law_number (fun _ _ _ _ _ _ us hl => match us, hl with | [_, _], _ => rfl) fun fd F => fn_mk F sc__law_number (fun vs H Q E h => ?_) fun cd A outer s H vs Q E hr tk po h => ?_
  · obtain ⟨a, ns, k, rfl, _⟩ := h; rfl
  · obtain ⟨a, ns, k, rfl, hs, k0, k1, q⟩ := h
    have nd := sc__law_number.nd
    have n1 := T.n_len
    have hlm : (ns.map V.int).length = ns.length := List.length_map ..
    refine bcut (fun σ' H' => H = H' ∧ σ' = [some (.ref a), some (.int k), some (.int 1), none]) (by top_name; exact ⟨rfl, rfl⟩) ?_
    rintro _ _ ⟨rfl, rfl⟩
    refine bcut (fun σ' H' => H = H' ∧ ∃ c : Int, σ' = [some (.ref a), some (.int k), some (.int c), none]) ?_ ?_
    · top_name
      · rename_i hpos
        rw [hlm] at hpos
        have hm0 := Int.emod_nonneg k (show ((ns.length : Nat) : Int) ≠ 0 by omega)
        have hm1 := Int.emod_lt_of_pos k (show (0 : Int) < ((ns.length : Nat) : Int) by omega)
        obtain ⟨z, hz, hi⟩ := atN hm0 hm1
        try rw [hlm]
        refine ixL hs hi ?_
        (repeat refine bnil ?_)
        exact ⟨rfl, z, rfl⟩
      · (repeat refine bnil ?_)
        exact ⟨rfl, 1, rfl⟩
    rintro _ _ ⟨rfl, c, rfl⟩
    top_name
    exact q _ (Int.emod_nonneg _ (by decide)) (Int.emod_lt_of_pos _ (by decide))
def spMix : Sp := fun vs H Q _ => ∃ c k : Int, vs = [.int c, .int k] ∧ 0 ≤ k ∧ k ≤ 1000 ∧ ∀ z, 0 ≤ z → z < 2147483399 → Q (.int z) H
theorem ok_mixed (T : Txt K mg) : Gf P w K mg base 1 "_law_mixed" [] spMix := by
  refine gf_mk T.f__law_mixed T.m__law_mixed (fun _ _ _ _ _ _ us hl => match us, hl with | [_, _], _ => rfl) fun fd F => fn_mk F sc__law_mixed (fun vs H Q E h => ?_) fun cd A outer s H vs Q E hr tk po h => ?_
  · obtain ⟨c, k, rfl, _⟩ := h; rfl
  · obtain ⟨c, k, rfl, k0, k1, q⟩ := h
    have nd := sc__law_mixed.nd
    top_name
    exact q _ (Int.emod_nonneg _ (by decide)) (Int.emod_lt_of_pos _ (by decide))
end

set_option maxRecDepth 100000
set_option maxHeartbeats 4000000
set_option pp.maxSteps 400
section
open PySem PySem.Spec PyProof.Rows L2 Z
open Evl (Ex)
variable {P : Program} {w : World} {K : PySem.W.Frag} {mg : Str → Option Value} {base : Heap}
/-! ### a def whose code object's table is asked -/
theorem fn_mkC {x qual : Str} {params : Arguments} {body : List Stmt} {scope : Scope} {dvs : List V} {kws : List (Str × V)} {pt : He.Defn} {fd : FuncData} {N ps : List Str} {k : Nat} {sp : Sp} (F : FunD K x qual params body scope dvs kws (He.fAd K pt) fd) (S : FnScope N ps scope) (len : ∀ vs H Q E, sp vs H Q E → vs.length = ps.length)
    (hb : ∀ (A : Around) (outer : List Env) (s : Shared) (H : Hp) (vs : List V) (Q : VK) (E : XK), Room k (cx P w K mg base N qual scope (He.fAd K pt) (.ref (He.codeOf K pt)) A outer s H E).A → L2N.Takes (cx P w K mg base N qual scope (He.fAd K pt) (.ref (He.codeOf K pt)) A outer s H E) (fun cls d _ H' => E cls d H') →
      PassesOwn (model P w) (cx P w K mg base N qual scope (He.fAd K pt) (.ref (He.codeOf K pt)) A outer s H E).A (cx P w K mg base N qual scope (He.fAd K pt) (.ref (He.codeOf K pt)) A outer s H E).env (cx P w K mg base N qual scope (He.fAd K pt) (.ref (He.codeOf K pt)) A outer s H E).xe → sp vs H Q E →
      wB (cx P w K mg base N qual scope (He.fAd K pt) (.ref (He.codeOf K pt)) A outer s H E) body { nx := fun _ H' => Q .non H', rt := Q } (start N vs) H) : FnOk P w K mg base (L2N.CX P w) (k + 1) (He.fAd K pt) fd ps sp := by
  obtain ⟨oc, od, dV, kV, doc, pm, an, cdv, ct, osl, rfl, lk, hcd, _, _⟩ := F.ex
  obtain ⟨c, rfl⟩ := He.codeIn_ref hcd
  have e := He.codeOf_eq lk rfl
  subst e
  exact fn_of lk hcd S len fun A outer s H vs Q E hr h => ⟨_, sB, hb A outer s H vs Q E hr (L2N.takes_of rfl rfl rfl rfl) (passes_of rfl) h⟩
/-! ### fields, as they stand -/
inductive DV where
  | bl (b : Bool)
  | int (i : Int)
  | str (s : Str)
  | none
  | list
inductive DvAt (H : Hp) : V → DV → Prop
  | bl (b : Bool) : DvAt H (.bl b) (.bl b)
  | int (i : Int) : DvAt H (.int i) (.int i)
  | str (s : Str) : DvAt H (.str s) (.str s)
  | none : DvAt H .non .none
  | list {a : Addr} (h : H a = some (.lst [])) : DvAt H (.ref a) .list
theorem DvAt.ex {H H' : Hp} (e : Ex H H') {v : V} {d : DV} (h : DvAt H v d) : DvAt H' v d := by
  cases h with
  | bl => exact .bl _
  | int => exact .int _
  | str => exact .str _
  | none => exact .none
  | list h => exact .list (e _ _ h)
structure FD where
  mark : Int
  name : Str
  kind : KD
  must : Bool
  dflt : DV
structure FO (K : PySem.W.Frag) (H : Hp) (a : Addr) (fd : FD) : Prop where
  at_ : ∃ dx kv dv, H a = some (.ins (He.ga K "Field") dx [("number", .int fd.mark), ("name", .str fd.name), ("kind", kv), ("must", .bl fd.must), ("default", dv)]) ∧ KI K H kv fd.kind ∧ DvAt H dv fd.dflt
theorem FO.ex {H H' : Hp} (e : Ex H H') {a : Addr} {fd : FD} (h : FO K H a fd) : FO K H' a fd := by
  obtain ⟨dx, kv, dv, h1, h2, h3⟩ := h
  exact ⟨dx, kv, dv, e _ _ h1, h2.ex e, h3.ex e⟩
/-- a list of fields -/
def FOs (K : PySem.W.Frag) (H : Hp) (vs : List V) (fds : List FD) : Prop := ∃ zs : List (Addr × FD), vs = zs.map (fun z => V.ref z.1) ∧ fds = zs.map (fun z => z.2) ∧ ∀ z ∈ zs, FO K H z.1 z.2
theorem FOs.ex {H H' : Hp} (e : Ex H H') {vs : List V} {fds : List FD} (h : FOs K H vs fds) : FOs K H' vs fds := by
  obtain ⟨zs, h1, h2, h3⟩ := h
  exact ⟨zs, h1, h2, fun z hz => (h3 z hz).ex e⟩
theorem FOs.len {H : Hp} {vs : List V} {fds : List FD} (h : FOs K H vs fds) : vs.length = fds.length := by
  obtain ⟨zs, rfl, rfl, _⟩ := h
  rw [List.length_map, List.length_map]
theorem FOs.get {H : Hp} {vs : List V} {fds : List FD} {i : Nat} {v : V} (h : FOs K H vs fds) (hv : vs[i]? = some v) : ∃ a fd, v = .ref a ∧ fds[i]? = some fd ∧ FO K H a fd := by
  obtain ⟨zs, rfl, rfl, h3⟩ := h
  rw [List.getElem?_map] at hv
  cases z : zs[i]? with
  | none => rw [z] at hv; cases hv
  | some x =>
    rw [z] at hv
    exact ⟨x.1, x.2, (Option.some.inj hv).symm, by rw [List.getElem?_map, z]; rfl, h3 x (List.mem_of_getElem? z)⟩
theorem FOs.nil {H : Hp} : FOs K H [] [] := ⟨[], rfl, rfl, fun _ h => nomatch h⟩
theorem FOs.one {H : Hp} {vs : List V} {fds : List FD} {a : Addr} {fd : FD} (h : FOs K H vs fds) (g : FO K H a fd) : FOs K H (vs ++ [.ref a]) (fds ++ [fd]) := by
  obtain ⟨zs, rfl, rfl, h3⟩ := h
  refine ⟨zs ++ [(a, fd)], by rw [List.map_append]; rfl, by rw [List.map_append]; rfl, fun z hz => ?_⟩
  rcases List.mem_append.mp hz with hz | hz
  · exact h3 z hz
  · rw [List.mem_singleton.mp hz]; exact g
/-! ### fields by numbers -/
abbrev lamQ : Str := ("by_numbers" : Str) ++ ".<locals>." ++ "<lambda>"
def spBN (K : PySem.W.Frag) (T : Addr) : Sp := fun vs H Q _ => ∃ (l : Addr) (us : List V) (fds : List FD) (G : Hp), vs = [.ref l] ∧ Ex G (del H T) ∧ (del H T l = some (.lst us) ∨ del H T l = some (.tup us)) ∧ us.length ≤ 1000 ∧ FOs K G us fds ∧ LamX.TabS H T lamQ ∧
  ∀ p H' ws gds, H p = none → Ex (del H T) (del H' T) → LamX.TabS H' T lamQ → H' p = some (.lst ws) → FOs K G ws gds → gds.Perm fds → gds.Pairwise (fun x y => x.mark ≤ y.mark) → Q (.ref p) H'
theorem rep_succ (j : Nat) : (List.replicate (j + 1) true).map V.bl = (List.replicate j true).map V.bl ++ [V.bl (true && !false)] := by rw [List.replicate_succ', List.map_append]; rfl
theorem rep_true (n : Nat) : (List.replicate n true).all id = true := by
  rw [List.all_eq_true]; intro x hx; rw [(List.mem_replicate.mp hx).2]; rfl
theorem ok_by_numbers (T : Txt K mg) (TB : LamX.TabB base mg (He.codeOf K ("by_numbers", none)) (He.tabOf K (He.codeOf K ("by_numbers", none)))) : Gf P w K mg base 4 "by_numbers" [] (spBN K (He.tabOf K (He.codeOf K ("by_numbers", none)))) := by
  refine gf_mk T.f_by_numbers T.m_by_numbers (fun _ _ _ _ _ _ us hl => match us, hl with | [_], _ => rfl) fun fd F => fn_mkC F sc_by_numbers (fun vs H Q E h => ?_) fun A outer s H vs Q E hr tk po h => ?_
  · obtain ⟨l, us, fds, G, rfl, _⟩ := h; rfl
  · obtain ⟨l, us, fds, G, rfl, eG, hl, hz, hF, hT, q⟩ := h
    have nd := sc_by_numbers.nd
    have n1 := T.n_isinstance
    have n2 := T.n_list
    have n3 := T.n_tuple
    have n4 := T.n_all
    have n5 := T.n_sorted
    have m1 := T.m_Field
    have c1 := T.c_Field.cl
    have a1 := T.a_Field_number
    generalize hP : He.tabOf K (He.codeOf K ("by_numbers", none)) = TP at *
    have sub : Ex (del H TP) H := del_ex _ _
    have hl0 : H l = some (.lst us) ∨ H l = some (.tup us) := hl.imp (sub _ _) (sub _ _)
    have hF0 := hF.ex (eG.trans sub)
    have hty : ∃ t, TyX K H (.ref l) t ∧ PySem.W.kitAny K t [.type "list", .type "tuple"] = some true := by
      rcases hl0 with h | h
      · exact ⟨_, .base (.lst h), by rfl⟩
      · exact ⟨_, .base (.tup h), by rfl⟩
    obtain ⟨ty, hty, hkt⟩ := hty
    refine bcons (sif (tcutE false ?_ fun H1 e1 => ?_))
    · top_name
      rename_i tp G1 htp g1 hxt
      refine kisiT hxt (.cons (.ty _) (.cons (.ty _) .nil)) (TyX.ex g1 hty) hkt ?_
      top_name
      exact ⟨rfl, g1⟩
    have item : ∀ (H' : Hp) (x : V) (j : Nat), Ex H H' → us[j]? = some x → ∃ a dx fs n, x = .ref a ∧ H' a = some (.ins (He.ga K "Field") dx fs) ∧ fs.lookup ("number" : Str) = some (V.int n) := fun H' x j e hx => by
      obtain ⟨a, fd, rfl, _, dx, kv, dv, h1, _, _⟩ := hF0.get hx
      exact ⟨a, dx, _, fd.mark, rfl, e _ _ h1, rfl⟩
    refine ifF (bnil (bcons (sif (tcutE false ?_ fun H2 e2 => ?_))))
    · top_name
      rcases hl0 with hl0 | hl0
      · refine zlc rfl nd [("field", 1)] (blkOk_by (N := N_by_numbers) (sc := defScope s_by_numbers) (by decide +kernel)) piL (tmL (xs := us) (fun j => (List.replicate j true).map V.bl) rfl ?_)
        top_name
        refine ⟨SqL.of (e1 _ _ hl0), fun j x H3 hx e3 => ?_, fun L H3 hL e3 hx => ?_⟩
        · obtain ⟨a, dx, fs, n, rfl, h1, h2⟩ := item H3 x j (e1.trans e3) hx
          have hjl := (List.getElem?_eq_some_iff.mp hx).1
          top_name
          refine kisi (.own _) (T.c_Field.ty h1) T.k_Field_Field ?_
          top_name
          refine zcall (ok_is_whole T) hr (by decide) takesF rfl ?_
          top_name
          refine ⟨a, _, dx, fs, _, rfl, h1, c1, a1, h2, ?_⟩
          top_name
          refine ⟨Value.none, _, _, true, false, rfl, .base (.int _), rfl, rfl, ?_⟩
          exact ⟨rep_succ j, by show ((List.replicate j true).map V.bl).length < _; rw [List.length_map, List.length_replicate, sizeLine_eq]; omega, Evl.Ex.refl _⟩
        · top_name
          refine kall rfl (SqL.of hx) ?_
          rw [rep_true]
          top_name
          exact ⟨rfl, e3⟩
      · refine zlc rfl nd [("field", 1)] (blkOk_by (N := N_by_numbers) (sc := defScope s_by_numbers) (by decide +kernel)) piT (tmT (xs := us) (fun j => (List.replicate j true).map V.bl) rfl ?_)
        top_name
        refine ⟨SqT.of (e1 _ _ hl0), fun j x H3 hx e3 => ?_, fun L H3 hL e3 hx => ?_⟩
        · obtain ⟨a, dx, fs, n, rfl, h1, h2⟩ := item H3 x j (e1.trans e3) hx
          have hjl := (List.getElem?_eq_some_iff.mp hx).1
          top_name
          refine kisi (.own _) (T.c_Field.ty h1) T.k_Field_Field ?_
          top_name
          refine zcall (ok_is_whole T) hr (by decide) takesF rfl ?_
          top_name
          refine ⟨a, _, dx, fs, _, rfl, h1, c1, a1, h2, ?_⟩
          top_name
          refine ⟨Value.none, _, _, true, false, rfl, .base (.int _), rfl, rfl, ?_⟩
          exact ⟨rep_succ j, by show ((List.replicate j true).map V.bl).length < _; rw [List.length_map, List.length_replicate, sizeLine_eq]; omega, Evl.Ex.refl _⟩
        · top_name
          refine kall rfl (SqL.of hx) ?_
          rw [rep_true]
          top_name
          exact ⟨rfl, e3⟩
    have e02 := e1.trans e2
    have eD : Ex (del H TP) (del H2 TP) := del_mono fun b o _ z => e02 b o z
    obtain ⟨zs, rfl, rfl, hzs⟩ := hF
    top_name
    subst hP
    refine zsortk (k := 0) TB rfl hr rfl rfl n5 bt_sorted rfl rfl rfl rfl (by decide +kernel) rfl (fun _ _ _ _ _ _ => rfl) rfl ?_
    top_name
    refine ⟨l, zs.map fun z => (z.1, z.2.mark), rfl, ?_, ?_, fun b hb => ?_, hT.ext e02, fun p H3 cs hp e3 T3 perm ps h3 => ?_⟩
    · rw [List.map_map]
      exact hl.imp (fun z => SqL.of (eD _ _ z)) fun z => SqT.of (eD _ _ z)
    · rw [List.length_map] at hz ⊢; exact hz
    · obtain ⟨z, hz1, rfl⟩ := List.mem_map.mp hb
      obtain ⟨dx, kv, dv, h1, _, _⟩ := hzs z hz1
      exact ⟨_, dx, _, e02 _ _ (sub _ _ (eG _ _ h1)), c1, a1, rfl⟩
    · obtain ⟨zs', hperm, rfl⟩ := perm_lift (fun z : Addr × FD => (z.1, z.2.mark)) perm zs rfl
      refine q p H3 _ (zs'.map fun z => z.2) (Evl.fresh_back e02 hp) (eD.trans e3) T3 h3 ⟨zs', by rw [List.map_map]; rfl, rfl, fun z hz1 => hzs z (hperm.mem_iff.mp hz1)⟩ (hperm.map _) ?_
      rw [List.pairwise_map] at ps ⊢
      exact ps
end

set_option maxRecDepth 100000
set_option maxHeartbeats 4000000
set_option pp.maxSteps 400
section
open PySem PySem.Spec PyProof.Rows L2 Z
open Evl (Ex)
variable {P : Program} {w : World} {K : PySem.W.Frag} {mg : Str → Option Value} {base : Heap}
/-! ### a field made -/
theorem kind_is (T : Txt K mg) {H : Hp} {v : V} {k : KD} (h : KI K H v k) : ∃ t, TyX K H v t ∧ PySem.W.kitOne K t (.ref (He.ga K "Kind")) = some true := by
  cases h with
  | truth h => exact ⟨_, T.c_Truth.ty h, T.k_Truth_Kind⟩
  | count h => exact ⟨_, T.c_Count.ty h, T.k_Count_Kind⟩
  | whole h => exact ⟨_, T.c_Whole.ty h, T.k_Whole_Kind⟩
  | upto h => exact ⟨_, T.c_Upto.ty h, T.k_Upto_Kind⟩
  | text h => exact ⟨_, T.c_Text.ty h, T.k_Text_Kind⟩
  | form h => exact ⟨_, T.c_Nested.ty h, T.k_Nested_Kind⟩
  | list h _ => exact ⟨_, T.c_List.ty h, T.k_List_Kind⟩
def KD.bl : KD → DV
  | .truth => .bl false
  | .text _ => .str ""
  | .form _ => .none
  | .list _ => .list
  | _ => .int 0
/-- what is left out, where nothing is told -/
def eff (k : KD) : DV → DV
  | .none => k.bl
  | d => d
def Eb (b : Addr) (H H' : Hp) : Prop := ∀ x o, x ≠ b → H x = some o → H' x = some o
theorem Eb.of {b : Addr} {H H' : Hp} (e : Ex H H') : Eb b H H' := fun x o _ q => e x o q
theorem Eb.trans {b : Addr} {H H' H'' : Hp} (e : Eb b H H') (f : Eb b H' H'') : Eb b H H'' := fun x o n q => f x o n (e x o n q)
theorem Eb.upd {b : Addr} {H : Hp} {o : HO} : Eb b H (upd H b o) := fun x z n q => by rw [upd_ne n]; exact q
def insF (K : PySem.W.Frag) (dx : Addr) (n : Int) (s : Str) (kv : V) (m : Bool) (dv : V) : HO := .ins (He.ga K "Field") dx [("number", .int n), ("name", .str s), ("kind", kv), ("must", .bl m), ("default", dv)]
def spFI (K : PySem.W.Frag) : Sp := fun vs H Q _ => ∃ (a dx : Addr) (n : Int) (s : Str) (kv : V) (k : KD) (m : Bool) (dv : V) (d : DV), vs = [.ref a, .int n, .str s, kv, .bl m, dv] ∧ H a = some (.ins (He.ga K "Field") dx []) ∧ KI K (del H a) kv k ∧ DvAt (del H a) dv d ∧
  ∀ H' dv', Eb a H H' → H' a = some (insF K dx n s kv m dv') → DvAt (nw H H') dv' (eff k d) → Q .non H'
theorem fi_Field (T : Txt K mg) {fd : FuncData} {dvs : List V} (F : FunD K "__init__" "Field.__init__" (defArgs s_Field_init) (defBody s_Field_init) (defScope s_Field_init) dvs [] (He.fAd K ("Field", some "__init__")) fd) : FnOk P w K mg base (L2N.CX P w) 3 (He.fAd K ("Field", some "__init__")) fd ["self", "number", "name", "kind", "must", "default"] (spFI K) := by
  refine fn_mk F sc_Field_init (fun vs H Q E h => ?_) fun cd A outer s H vs Q E hr tk po h => ?_
  · obtain ⟨a, dx, n, s, kv, k, m, dv, d, rfl, _⟩ := h; rfl
  · obtain ⟨a, dx, n, s, kv, k, m, dv, d, rfl, hx, hk, hd, q⟩ := h
    have c1 := T.c_Field.cl
    have a1 := T.a_Field_number
    have a2 := T.a_Field_name
    have a3 := T.a_Field_kind
    have a4 := T.a_Field_must
    have a5 := T.a_Field_default
    have n1 := T.n_isinstance
    have n2 := T.n_list
    have m1 := T.m_Kind
    have nd := sc_Field_init.nd
    top_name
    refine ⟨a, _, dx, [], rfl, hx, c1, a1, by decide, ?_⟩
    top_name
    refine ⟨a, _, dx, _, rfl, upd_same, c1, a2, by show 1 < 1000; decide, ?_⟩
    top_name
    refine ⟨a, _, dx, _, rfl, upd_same, c1, a3, by show 2 < 1000; decide, ?_⟩
    top_name
    refine ⟨a, _, dx, _, rfl, upd_same, c1, a4, by show 3 < 1000; decide, ?_⟩
    top_name
    refine ⟨a, _, dx, _, rfl, upd_same, c1, a5, by show 4 < 1000; decide, ?_⟩
    rw [upd_upd, upd_upd, upd_upd, upd_upd]
    have eb : Eb a H (upd H a (insF K dx n s kv m dv)) := Eb.upd
    have hx2 : upd H a (insF K dx n s kv m dv) a = some (insF K dx n s kv m dv) := upd_same
    show wB _ _ _ _ (upd H a (insF K dx n s kv m dv))
    generalize upd H a (insF K dx n s kv m dv) = H2 at eb hx2 ⊢
    have eD : Ex (del H a) H2 := fun x o z => by
      have n : x ≠ a := fun y => by rw [y, del_same] at z; cases z
      rw [del_ne n] at z
      exact eb _ _ n z
    have hkH := hk.ex eD
    have putD : ∀ (v : V), putF "default" v [(("number" : Str), V.int n), ("name", .str s), ("kind", kv), ("must", .bl m), ("default", dv)] = [(("number" : Str), V.int n), ("name", .str s), ("kind", kv), ("must", .bl m), ("default", v)] := fun v => rfl
    unfold insF at hx2
    obtain ⟨ty, hty, hkt⟩ := kind_is T hkH
    obtain ⟨ka, kdx, kfs, rfl, hka, hkl⟩ := hkH.ins
    cases hd with
    | bl b =>
      top_name
      exact q H2 _ eb hx2 (.bl b)
    | int i =>
      top_name
      exact q H2 _ eb hx2 (.int i)
    | str z =>
      top_name
      exact q H2 _ eb hx2 (.str z)
    | none =>
      top_name
      refine kisi (.own _) hty hkt ?_
      top_name
      refine zmeth0 hr tk ?_
      top_name
      refine ⟨ka, _, kdx, kfs, 1, [], _, rfl, hka, hkl "blank" (by decide +kernel), mf_blank T k, by decide, ka, rfl, ?_⟩
      cases k with
      | list k =>
        intro t H3 ht e3 hx3
        have htH : H t = none := by
          cases z : H t with
          | none => rfl
          | some o => rw [eb _ _ (fun y => by rw [y, hx2] at ht; cases ht) z] at ht; cases ht
        top_name
        refine ⟨a, _, dx, _, rfl, e3 _ _ hx2, c1, a5, by show 5 < 1000; decide, ?_⟩
        rw [putD]
        (repeat refine bnil ?_)
        have nt : t ≠ a := fun y => by rw [y, hx] at htH; cases htH
        exact q _ _ ((eb.trans (Eb.of e3)).trans Eb.upd) upd_same (.list (nw_at htH (by rw [upd_ne nt]; exact hx3)))
      | truth =>
        top_name
        refine ⟨a, _, dx, _, rfl, hx2, c1, a5, by show 5 < 1000; decide, ?_⟩
        rw [putD]
        (repeat refine bnil ?_)
        exact q _ _ (eb.trans Eb.upd) upd_same (.bl _)
      | text z =>
        top_name
        refine ⟨a, _, dx, _, rfl, hx2, c1, a5, by show 5 < 1000; decide, ?_⟩
        rw [putD]
        (repeat refine bnil ?_)
        exact q _ _ (eb.trans Eb.upd) upd_same (.str _)
      | form z =>
        top_name
        refine ⟨a, _, dx, _, rfl, hx2, c1, a5, by show 5 < 1000; decide, ?_⟩
        rw [putD]
        (repeat refine bnil ?_)
        exact q _ _ (eb.trans Eb.upd) upd_same .none
      | count =>
        top_name
        refine ⟨a, _, dx, _, rfl, hx2, c1, a5, by show 5 < 1000; decide, ?_⟩
        rw [putD]
        (repeat refine bnil ?_)
        exact q _ _ (eb.trans Eb.upd) upd_same (.int _)
      | whole =>
        top_name
        refine ⟨a, _, dx, _, rfl, hx2, c1, a5, by show 5 < 1000; decide, ?_⟩
        rw [putD]
        (repeat refine bnil ?_)
        exact q _ _ (eb.trans Eb.upd) upd_same (.int _)
      | upto z =>
        top_name
        refine ⟨a, _, dx, _, rfl, hx2, c1, a5, by show 5 < 1000; decide, ?_⟩
        rw [putD]
        (repeat refine bnil ?_)
        exact q _ _ (eb.trans Eb.upd) upd_same (.int _)
    | @list l h =>
      have hl2 := eD _ _ h
      top_name
      rename_i t H3 ht e3 hx3
      have htH : H t = none := by
        cases z : H t with
        | none => rfl
        | some o => rw [eb _ _ (fun y => by rw [y, hx2] at ht; cases ht) z] at ht; cases ht
      refine ⟨a, _, dx, _, rfl, e3 _ _ hx2, c1, a5, by show 5 < 1000; decide, ?_⟩
      rw [putD]
      have nt : t ≠ a := fun y => by rw [y, hx] at htH; cases htH
      have q' := q _ _ ((eb.trans (Eb.of e3)).trans Eb.upd) upd_same (.list (nw_at htH (by rw [upd_ne nt]; exact hx3)))
      top_name
      exact q'
/-- Field(..): the new field, all of it that isn't handed in is new -/
theorem field_to {H : Hp} {a dx : Addr} {n : Int} {s : Str} {kv : V} {k : KD} {m : Bool} {dv : V} {d : DV} {Q : VK} {E : XK} (ha : H a = none) (hd : H dx = none) (hne : dx ≠ a) (hk : KI K H kv k) (hv : DvAt H dv d)
    (q : ∀ H' dx' dv', Ex H H' → nw H H' a = some (insF K dx' n s kv m dv') → DvAt (nw H H') dv' (eff k d) → Q (.ref a) H') :
    spFI K [.ref a, .int n, .str s, kv, .bl m, dv] (upd (upd H dx (.own a)) a (.ins (He.ga K "Field") dx [])) (fun v H2 => v = .non ∧ Q (.ref a) H2) E := by
  have e0 : Ex H (del (upd (upd H dx (.own a)) a (.ins (He.ga K "Field") dx [])) a) := fun x o z => by
    have n1 : x ≠ a := fun y => by rw [y, ha] at z; cases z
    have n2 : x ≠ dx := fun y => by rw [y, hd] at z; cases z
    rw [del_ne n1, upd_ne n1, upd_ne n2]; exact z
  refine ⟨a, dx, n, s, kv, k, m, dv, d, rfl, upd_same, hk.ex e0, hv.ex e0, fun H' dv' eb hx hd' => ⟨rfl, ?_⟩⟩
  refine q H' dx dv' (fun x o z => ?_) (nw_at ha hx) (hd'.ex (nw_more fun x o z => del_ex _ _ _ _ (e0 _ _ z)))
  exact eb _ _ (fun y => by rw [y, ha] at z; cases z) (del_ex _ _ _ _ (e0 _ _ z))
theorem nf_Field (T : Txt K mg) : Nf P w K mg base 3 "Field" (He.ga K "Field") [] (spFI K) := by
  obtain ⟨fd, F⟩ := T.f_Field_init
  obtain ⟨ds, hv, hb⟩ := F.binds1 (ps := ["self", "number", "name", "kind", "must", "default"]) 6 2 (by simp) rfl fun T' kV doc pm an cdv ct us its h1 h2 => match us, h1, its, h2 with
    | [_, _, _, _, _, _], _, [_, _], _ => ⟨_, rfl, rfl⟩
  exact ⟨_, fd, _, ds, T.m_Field, T.mk_Field, hb, hv, fi_Field T F⟩
theorem nf_Field1 (T : Txt K mg) : Nf P w K mg base 3 "Field" (He.ga K "Field") [.non] (spFI K) := by
  obtain ⟨fd, F⟩ := T.f_Field_init
  obtain ⟨ds, hv, hb⟩ := F.binds1 (ps := ["self", "number", "name", "kind", "must", "default"]) 5 1 (by simp) rfl fun T' kV doc pm an cdv ct us its h1 h2 => match us, h1, its, h2 with
    | [_, _, _, _, _], _, [_, _], _ => ⟨_, rfl, rfl⟩
  exact ⟨_, fd, _, ds, T.m_Field, T.mk_Field, hb, hv, fi_Field T F⟩
theorem nf_Field2 (T : Txt K mg) : Nf P w K mg base 3 "Field" (He.ga K "Field") [.bl false, .non] (spFI K) := by
  obtain ⟨fd, F⟩ := T.f_Field_init
  obtain ⟨ds, hv, hb⟩ := F.binds1 (ps := ["self", "number", "name", "kind", "must", "default"]) 4 0 (by simp) rfl fun T' kV doc pm an cdv ct us its h1 h2 => match us, h1, its, h2 with
    | [_, _, _, _], _, [_, _], _ => ⟨_, rfl, rfl⟩
  exact ⟨_, fd, _, ds, T.m_Field, T.mk_Field, hb, hv, fi_Field T F⟩
end

set_option maxRecDepth 100000
set_option maxHeartbeats 4000000
set_option pp.maxSteps 400
section
open PySem PySem.Spec PyProof.Rows L2 Z
open Evl (Ex)
variable {P : Program} {w : World} {K : PySem.W.Frag} {mg : Str → Option Value} {base : Heap}
/-! ### numbers rising -/
def spRi : Sp := fun vs H Q _ => ∃ (l : Addr) (ns : List Int), vs = [.ref l] ∧ (H l = some (.lst (ns.map V.int)) ∨ H l = some (.tup (ns.map V.int))) ∧ ns.length < 64 ∧
  ∀ p H' (ms : List Int), H p = none → Ex H H' → H' p = some (.lst (ms.map V.int)) → ms.Perm ns → ms.Pairwise (· ≤ ·) → Q (.ref p) H'
theorem ok_rising (T : Txt K mg) : Gf P w K mg base 2 "rising" [] spRi := by
  refine gf_mk T.f_rising T.m_rising (fun _ _ _ _ _ _ us hl => match us, hl with | [_], _ => rfl) fun fd F => fn_mk F sc_rising (fun vs H Q E h => ?_) fun cd A outer s H vs Q E hr tk po h => ?_
  · obtain ⟨l, ns, rfl, _⟩ := h; rfl
  · obtain ⟨l, ns, rfl, hl, hz, q⟩ := h
    have nd := sc_rising.nd
    have n1 := T.n_isinstance
    have n2 := T.n_list
    have n3 := T.n_tuple
    have n4 := T.n_all
    have n5 := T.n_sorted
    have hty : ∃ t, TyX K H (.ref l) t ∧ PySem.W.kitAny K t [.type "list", .type "tuple"] = some true := by
      rcases hl with h | h
      · exact ⟨_, .base (.lst h), by rfl⟩
      · exact ⟨_, .base (.tup h), by rfl⟩
    obtain ⟨ty, hty, hkt⟩ := hty
    refine bcons (sif (tcutE false ?_ fun H1 e1 => ?_))
    · top_name
      rename_i tp G1 htp g1 hxt
      refine kisiT hxt (.cons (.ty _) (.cons (.ty _) .nil)) (TyX.ex g1 hty) hkt ?_
      top_name
      exact ⟨rfl, g1⟩
    refine ifF (bnil (bcons (sif (tcutE false ?_ fun H2 e2 => ?_))))
    · top_name
      rcases hl with hl0 | hl0
      · refine zlc rfl nd [("number", 1)] (blkOk_by (N := N_rising) (sc := defScope s_rising) (by decide +kernel)) piL (tmL (xs := ns.map V.int) (fun j => (List.replicate j true).map V.bl) rfl ?_)
        top_name
        refine ⟨SqL.of (e1 _ _ hl0), fun j x H3 hx e3 => ?_, fun L H3 hL e3 hx => ?_⟩
        · have hjl := (List.getElem?_eq_some_iff.mp hx).1
          rw [List.length_map] at hjl
          obtain ⟨n, _, rfl⟩ := List.mem_map.mp (List.mem_of_getElem? hx)
          top_name
          refine zcall (ok_is_whole T) hr (by decide) takesF rfl ?_
          top_name
          refine ⟨Value.none, _, _, true, false, rfl, .base (.int _), rfl, rfl, ?_⟩
          exact ⟨rep_succ j, by show ((List.replicate j true).map V.bl).length < _; rw [List.length_map, List.length_replicate, sizeLine_eq]; omega, Evl.Ex.refl _⟩
        · top_name
          refine kall rfl (SqL.of hx) ?_
          rw [rep_true]
          top_name
          exact ⟨rfl, e3⟩
      · refine zlc rfl nd [("number", 1)] (blkOk_by (N := N_rising) (sc := defScope s_rising) (by decide +kernel)) piT (tmT (xs := ns.map V.int) (fun j => (List.replicate j true).map V.bl) rfl ?_)
        top_name
        refine ⟨SqT.of (e1 _ _ hl0), fun j x H3 hx e3 => ?_, fun L H3 hL e3 hx => ?_⟩
        · have hjl := (List.getElem?_eq_some_iff.mp hx).1
          rw [List.length_map] at hjl
          obtain ⟨n, _, rfl⟩ := List.mem_map.mp (List.mem_of_getElem? hx)
          top_name
          refine zcall (ok_is_whole T) hr (by decide) takesF rfl ?_
          top_name
          refine ⟨Value.none, _, _, true, false, rfl, .base (.int _), rfl, rfl, ?_⟩
          exact ⟨rep_succ j, by show ((List.replicate j true).map V.bl).length < _; rw [List.length_map, List.length_replicate, sizeLine_eq]; omega, Evl.Ex.refl _⟩
        · top_name
          refine kall rfl (SqL.of hx) ?_
          rw [rep_true]
          top_name
          exact ⟨rfl, e3⟩
    have e02 := e1.trans e2
    top_name
    refine zbfn n5 bt_sorted rfl ?_
    top_name
    refine ksortI hr (hl.imp (fun z => SqL.of (e02 _ _ z)) fun z => SqT.of (e02 _ _ z)) hz fun ms p H3 pm pw hp e3 hx => ?_
    exact q p H3 ms (Evl.fresh_back e02 hp) (e02.trans e3) hx pm pw
/-! ### forms, as they stand -/
structure FM where
  name : Str
  choice : Bool
  fields : List FD
  gone : List Int
def fcls (c : Bool) : Str := if c = true then "Choice" else "Record"
structure RO (K : PySem.W.Frag) (H : Hp) (a : Addr) (fm : FM) : Prop where
  at_ : ∃ dx l g ws, H a = some (.ins (He.ga K (fcls fm.choice)) dx [("name", .str fm.name), ("fields", .ref l), ("gone", .ref g)]) ∧ H l = some (.lst ws) ∧ FOs K H ws fm.fields ∧ H g = some (.lst (fm.gone.map V.int))
theorem RO.ex {H H' : Hp} (e : Ex H H') {a : Addr} {fm : FM} (h : RO K H a fm) : RO K H' a fm := by
  obtain ⟨dx, l, g, ws, h1, h2, h3, h4⟩ := h
  exact ⟨dx, l, g, ws, e _ _ h1, e _ _ h2, h3.ex e, e _ _ h4⟩
def Gw (T : List Addr) (H H' : Hp) : Prop := ∀ x o, x ∉ T → H x = some o → H' x = some o
theorem Gw.of {T : List Addr} {H H' : Hp} (e : Ex H H') : Gw T H H' := fun x o _ q => e x o q
theorem Gw.trans {T : List Addr} {H H' H'' : Hp} (e : Gw T H H') (f : Gw T H' H'') : Gw T H H'' := fun x o n q => f x o n (e x o n q)
theorem Gw.put {T : List Addr} {H : Hp} {b : Addr} {o : HO} (h : b ∈ T) : Gw T H (upd H b o) := fun x z n q => by rw [upd_ne (fun y => n (by rw [y]; exact h))]; exact q
theorem Gw.dl {T : List Addr} {H H' : Hp} {b : Addr} (h : b ∈ T) (e : Ex (del H b) (del H' b)) : Gw T H H' := fun x o n q => by
  have nb : x ≠ b := fun z => n (by rw [z]; exact h)
  exact del_ex _ _ _ _ (e x o (by rw [del_ne nb]; exact q))
theorem tab_keep {H H' : Hp} {TP a : Addr} {q : Str} {C dx : Addr} {fs : List (Str × V)} (h : LamX.TabS H TP q) (hx : H a = some (.ins C dx fs)) (e : ∀ b o, b ≠ a → H b = some o → H' b = some o) : LamX.TabS H' TP q := by
  obtain ⟨ps, hP, h3, h4⟩ := h
  refine ⟨ps, e _ _ (fun z => by rw [z, hx] at hP; cases hP) hP, h3, fun pos cv hc => ?_⟩
  obtain ⟨c, z1, z2⟩ := h4 pos cv hc
  exact ⟨c, z1, e _ _ (fun y => by rw [y, hx] at z2; cases z2) z2⟩
def GoneAt (H : Hp) (v : V) (ns : List Int) : Prop := (v = .non ∧ ns = []) ∨ ∃ g, v = .ref g ∧ (H g = some (.lst (ns.map V.int)) ∨ H g = some (.tup (ns.map V.int)))
theorem GoneAt.ex {H H' : Hp} (e : Ex H H') {v : V} {ns : List Int} (h : GoneAt H v ns) : GoneAt H' v ns := by
  rcases h with h | ⟨g, h1, h2⟩
  · exact .inl h
  · exact .inr ⟨g, h1, h2.imp (e _ _) (e _ _)⟩
def insR (dx C : Addr) (s : Str) (l g : Addr) : HO := .ins C dx [("name", .str s), ("fields", .ref l), ("gone", .ref g)]
def spFm (K : PySem.W.Frag) (TP C : Addr) : Sp := fun vs H Q _ => ∃ (a dx l : Addr) (s : Str) (us : List V) (fds : List FD) (gv : V) (ns : List Int) (G : Hp), vs = [.ref a, .str s, .ref l, gv] ∧ H a = some (.ins C dx []) ∧ (del (del H a) TP l = some (.lst us) ∨ del (del H a) TP l = some (.tup us)) ∧ us.length ≤ 1000 ∧
  Ex G (del (del H a) TP) ∧ FOs K G us fds ∧ LamX.TabS H TP lamQ ∧ GoneAt (del (del H a) TP) gv ns ∧ ns.length < 64 ∧
  ∀ H' l' g' ws gds (ms : List Int), Gw [a, TP] H H' → LamX.TabS H' TP lamQ → H' a = some (insR dx C s l' g') → l' ≠ a → l' ≠ TP → H l' = none → H' l' = some (.lst ws) → FOs K G ws gds → gds.Perm fds → gds.Pairwise (fun x y => x.mark ≤ y.mark) → g' ≠ a → g' ≠ TP → H g' = none → H' g' = some (.lst (ms.map V.int)) → ms.Perm ns → ms.Pairwise (· ≤ ·) → Q .non H'
theorem fi_Form (T : Txt K mg) (TB : LamX.TabB base mg (He.codeOf K ("by_numbers", none)) (He.tabOf K (He.codeOf K ("by_numbers", none)))) {C : Addr} (c1 : Cls K C) (a1 : NoAttr K C "name") (a2 : NoAttr K C "fields") (a3 : NoAttr K C "gone") {fd : FuncData} {dvs : List V}
    (F : FunD K "__init__" "Form.__init__" (defArgs s_Form_init) (defBody s_Form_init) (defScope s_Form_init) dvs [] (He.fAd K ("Form", some "__init__")) fd) : FnOk P w K mg base (L2N.CX P w) 5 (He.fAd K ("Form", some "__init__")) fd ["self", "name", "fields", "gone"] (spFm K (He.tabOf K (He.codeOf K ("by_numbers", none))) C) := by
  refine fn_mk F sc_Form_init (fun vs H Q E h => ?_) fun cd A outer s0 H vs Q E hr tk po h => ?_
  · obtain ⟨a, dx, l, s, us, fds, gv, ns, G, rfl, _⟩ := h; rfl
  · obtain ⟨a, dx, l, s, us, fds, gv, ns, G, rfl, hx, hl, hz, eG, hF, hT, hg, hn, q⟩ := h
    have B := ok_by_numbers (P := P) (w := w) T TB
    generalize hTP : He.tabOf K (He.codeOf K ("by_numbers", none)) = TP at *
    have nTa : TP ≠ a := fun z => by obtain ⟨ps, hP, _⟩ := hT; rw [z, hx] at hP; cases hP
    have nd := sc_Form_init.nd
    top_name
    refine ⟨a, _, dx, [], rfl, hx, c1, a1, by decide, ?_⟩
    top_name
    refine zcall B hr (by decide) takesF rfl ?_
    top_name
    have e1 : Ex (del (del H a) TP) (del (upd H a (.ins C dx (putF "name" (.str s) []))) TP) := fun x o z => by
      have n1 : x ≠ TP := fun y => by rw [y, del_same] at z; cases z
      rw [del_ne n1] at z ⊢
      have n2 : x ≠ a := fun y => by rw [y, del_same] at z; cases z
      rw [del_ne n2] at z
      rw [upd_ne n2]; exact z
    have hT1 : LamX.TabS (upd H a (.ins C dx (putF "name" (.str s) []))) TP lamQ := tab_keep hT hx fun b o n z => by rw [upd_ne n]; exact z
    refine ⟨l, us, fds, G, rfl, eG.trans e1, hl.imp (e1 _ _) (e1 _ _), hz, hF, hT1, fun p H2 ws gds hp e2 hT2 hp2 hF2 pm pw => ?_⟩
    have hx2 : H2 a = some (.ins C dx [("name", .str s)]) := del_ex _ _ _ _ (e2 _ _ (del_at upd_same nTa.symm))
    have g2 : Gw [a, TP] H H2 := (Gw.put (T := [a, TP]) List.mem_cons_self).trans (Gw.dl (List.mem_cons_of_mem _ List.mem_cons_self) e2)
    have npa : p ≠ a := fun z => by rw [z, upd_same] at hp; cases hp
    have npT : p ≠ TP := fun z => by obtain ⟨ps, hP, _⟩ := hT2; rw [z, hP] at hp2; cases hp2
    have hp0 : H p = none := by rwa [upd_ne npa] at hp
    have back : ∀ {H' : Hp} {x : Addr}, Gw [a, TP] H H' → x ≠ a → x ≠ TP → H' x = none → H x = none := fun {H' x} g n1 n2 hn => by
      cases z : H x with
      | none => rfl
      | some o => rw [g x o (fun y => (List.mem_cons.mp y).elim n1 fun y => n2 (List.mem_singleton.mp y)) z] at hn; cases hn
    clear e1 e2 hT1 hp
    top_name
    refine ⟨a, _, dx, _, rfl, hx2, c1, a2, by show 1 < 1000; decide, ?_⟩
    have hT3 := tab_keep hT2 hx2 (H' := upd H2 a (.ins C dx [("name", .str s), ("fields", .ref p)])) fun b o n z => by rw [upd_ne n]; exact z
    have g3 : Gw [a, TP] H (upd H2 a (.ins C dx [("name", .str s), ("fields", .ref p)])) := g2.trans (Gw.put List.mem_cons_self)
    have hx3 : upd H2 a (.ins C dx [("name", .str s), ("fields", .ref p)]) a = _ := upd_same
    have hp3 : upd H2 a (.ins C dx [("name", .str s), ("fields", .ref p)]) p = _ := (upd_ne npa).trans hp2
    show wB _ _ _ _ (upd H2 a (.ins C dx [("name", .str s), ("fields", .ref p)]))
    generalize upd H2 a (.ins C dx [("name", .str s), ("fields", .ref p)]) = H3 at hT3 g3 hx3 hp3 ⊢
    top_name
    rename_i g H4 hg4 e4 hxg4
    refine ⟨a, _, dx, _, rfl, e4 _ _ hx3, c1, a3, by show 2 < 1000; decide, ?_⟩
    have nga : g ≠ a := fun z => by rw [z, hx3] at hg4; cases hg4
    have ngT : g ≠ TP := fun z => by obtain ⟨ps, hP, _⟩ := hT3; rw [z, hP] at hg4; cases hg4
    have hg0 : H g = none := back g3 nga ngT hg4
    have hT5 := tab_keep (hT3.ext e4) (e4 _ _ hx3) (H' := upd H4 a (insR dx C s p g)) fun b o n z => by rw [upd_ne n]; exact z
    have g5 : Gw [a, TP] H (upd H4 a (insR dx C s p g)) := (g3.trans (Gw.of e4)).trans (Gw.put List.mem_cons_self)
    have hx5 : upd H4 a (insR dx C s p g) a = _ := upd_same
    have hp5 : upd H4 a (insR dx C s p g) p = _ := (upd_ne npa).trans (e4 _ _ hp3)
    have hg5 : upd H4 a (insR dx C s p g) g = _ := (upd_ne nga).trans hxg4
    show wB _ _ _ _ (upd H4 a (insR dx C s p g))
    generalize upd H4 a (insR dx C s p g) = H5 at hT5 g5 hx5 hp5 hg5 ⊢
    rcases hg with ⟨rfl, rfl⟩ | ⟨g0, rfl, hg0⟩
    · top_name
      exact q H5 p g ws gds [] g5 hT5 hx5 npa npT hp0 hp5 hF2 pm pw nga ngT hg0 hg5 (.refl _) .nil
    · have up : ∀ o, del (del H a) TP g0 = some o → H5 g0 = some o := fun o z => by
        have n1 : g0 ≠ TP := fun y => by rw [y, del_same] at z; cases z
        rw [del_ne n1] at z
        have n2 : g0 ≠ a := fun y => by rw [y, del_same] at z; cases z
        rw [del_ne n2] at z
        exact g5 _ _ (fun y => (List.mem_cons.mp y).elim n2 fun y => n1 (List.mem_singleton.mp y)) z
      top_name
      refine zcall (ok_rising T) hr (by decide) takesF rfl ?_
      top_name
      refine ⟨g0, ns, rfl, hg0.imp (up _) (up _), hn, fun g6 H6 ms hg6 e6 hxg6 pm6 pw6 => ?_⟩
      have hx6 := e6 _ _ hx5
      unfold insR at hx6
      top_name
      refine ⟨a, _, dx, _, rfl, hx6, c1, a3, by show 3 < 1000; decide, ?_⟩
      have n6a : g6 ≠ a := fun z => by rw [z, hx5] at hg6; cases hg6
      have n6T : g6 ≠ TP := fun z => by obtain ⟨ps, hP, _⟩ := hT5; rw [z, hP] at hg6; cases hg6
      (repeat refine bnil ?_)
      exact q _ p g6 ws gds ms ((g5.trans (Gw.of e6)).trans (Gw.put List.mem_cons_self)) (tab_keep (hT5.ext e6) hx6 fun b o n z => by rw [upd_ne n]; exact z) upd_same npa npT hp0 ((upd_ne npa).trans (e6 _ _ hp5)) hF2 pm pw n6a n6T (back g5 n6a n6T hg6) ((upd_ne n6a).trans hxg6) pm6 pw6
end

set_option maxRecDepth 100000
set_option maxHeartbeats 4000000
set_option pp.maxSteps 400
section
open PySem PySem.Spec PyProof.Rows L2 Z
open Evl (Ex)
variable {P : Program} {w : World} {K : PySem.W.Frag} {mg : Str → Option Value} {base : Heap}
/-! ### a form made -/
/-- a form that is new since H0, its fields in G -/
structure ROn (K : PySem.W.Frag) (H0 H' G : Hp) (a : Addr) (fm : FM) : Prop where
  at_ : ∃ dx l g ws, H' a = some (.ins (He.ga K (fcls fm.choice)) dx [("name", .str fm.name), ("fields", .ref l), ("gone", .ref g)]) ∧ H' l = some (.lst ws) ∧ FOs K G ws fm.fields ∧ H' g = some (.lst (fm.gone.map V.int)) ∧ H0 a = none ∧ H0 l = none ∧ H0 g = none
theorem ROn.to {H0 H' G F : Hp} {a : Addr} {fm : FM} (h : ROn K H0 H' G a fm) (e : Ex G F) (n : ∀ x o, H0 x = none → H' x = some o → F x = some o) : RO K F a fm := by
  obtain ⟨dx, l, g, ws, h1, h2, h3, h4, h5, h6, h7⟩ := h
  exact ⟨dx, l, g, ws, n _ _ h5 h1, n _ _ h6 h2, h3.ex e, n _ _ h7 h4⟩
theorem form_to {H G : Hp} {a dx l TP : Addr} {s : Str} {c : Bool} {us : List V} {fds : List FD} {gv : V} {ns : List Int} {Q : VK} {E : XK} (ha : H a = none) (hd : H dx = none) (hne : dx ≠ a) (hl : del H TP l = some (.lst us) ∨ del H TP l = some (.tup us)) (hz : us.length ≤ 1000) (eG : Ex G (del H TP)) (hF : FOs K G us fds) (hT : LamX.TabS H TP lamQ) (hg : GoneAt (del H TP) gv ns) (hn : ns.length < 64)
    (q : ∀ H' gds (ms : List Int), Ex (del H TP) (del H' TP) → LamX.TabS H' TP lamQ → ROn K H (del H' TP) G a ⟨s, c, gds, ms⟩ → gds.Perm fds → gds.Pairwise (fun x y => x.mark ≤ y.mark) → ms.Perm ns → ms.Pairwise (· ≤ ·) → Q (.ref a) H') :
    spFm K TP (He.ga K (fcls c)) [.ref a, .str s, .ref l, gv] (upd (upd H dx (.own a)) a (.ins (He.ga K (fcls c)) dx [])) (fun v H2 => v = .non ∧ Q (.ref a) H2) E := by
  have nT : a ≠ TP := fun z => by obtain ⟨ps, hP, _⟩ := hT; rw [← z, ha] at hP; cases hP
  have nTd : dx ≠ TP := fun z => by obtain ⟨ps, hP, _⟩ := hT; rw [← z, hd] at hP; cases hP
  have e0 : Ex (del H TP) (del (del (upd (upd H dx (.own a)) a (.ins (He.ga K (fcls c)) dx [])) a) TP) := fun x o z => by
    have n0 : x ≠ TP := fun y => by rw [y, del_same] at z; cases z
    rw [del_ne n0] at z ⊢
    have n1 : x ≠ a := fun y => by rw [y, ha] at z; cases z
    have n2 : x ≠ dx := fun y => by rw [y, hd] at z; cases z
    rw [del_ne n1, upd_ne n1, upd_ne n2]; exact z
  have eo : Ex H (upd (upd H dx (.own a)) a (.ins (He.ga K (fcls c)) dx [])) := own_ex ha hd
  refine ⟨a, dx, l, s, us, fds, gv, ns, G, rfl, upd_same, hl.imp (e0 _ _) (e0 _ _), hz, eG.trans e0, hF, hT.ext eo, hg.ex e0, hn, fun H' l' g' ws gds ms gw hT' hx la lT hl0 hl' hF' pm pw ga gT hg0 hg' pm' pw' => ⟨rfl, ?_⟩⟩
  have up : Ex (del (del (upd (upd H dx (.own a)) a (.ins (He.ga K (fcls c)) dx [])) a) TP) (del H' TP) := fun x o z => by
    have n0 : x ≠ TP := fun y => by rw [y, del_same] at z; cases z
    rw [del_ne n0] at z ⊢
    have n1 : x ≠ a := fun y => by rw [y, del_same] at z; cases z
    rw [del_ne n1] at z
    exact gw _ _ (fun y => (List.mem_cons.mp y).elim n1 fun y => n0 (List.mem_singleton.mp y)) z
  exact q H' gds ms (e0.trans up) hT' ⟨dx, l', g', ws, del_at hx nT, del_at hl' lT, hF', del_at hg' gT, ha, Evl.fresh_back eo hl0, Evl.fresh_back eo hg0⟩ pm pw pm' pw'
theorem clsF (T : Txt K mg) (c : Bool) : Cls K (He.ga K (fcls c)) ∧ NoAttr K (He.ga K (fcls c)) "name" ∧ NoAttr K (He.ga K (fcls c)) "fields" ∧ NoAttr K (He.ga K (fcls c)) "gone" := by
  cases c with
  | true => exact ⟨T.c_Choice.cl, T.a_Choice_name, T.a_Choice_fields, T.a_Choice_gone⟩
  | false => exact ⟨T.c_Record.cl, T.a_Record_name, T.a_Record_fields, T.a_Record_gone⟩
theorem nf_Form (T : Txt K mg) (TB : LamX.TabB base mg (He.codeOf K ("by_numbers", none)) (He.tabOf K (He.codeOf K ("by_numbers", none)))) (c : Bool) : Nf P w K mg base 5 (fcls c) (He.ga K (fcls c)) [] (spFm K (He.tabOf K (He.codeOf K ("by_numbers", none))) (He.ga K (fcls c))) := by
  obtain ⟨fd, F⟩ := T.f_Form_init
  obtain ⟨ds, hv, hb⟩ := F.binds1 (ps := ["self", "name", "fields", "gone"]) 4 1 (by simp) rfl fun T' kV doc pm an cdv ct us its h1 h2 => match us, h1, its, h2 with
    | [_, _, _, _], _, [_], _ => ⟨_, rfl, rfl⟩
  obtain ⟨c1, a1, a2, a3⟩ := clsF T c
  cases c with
  | true => exact ⟨_, fd, _, ds, T.m_Choice, T.mk_Choice, hb, hv, fi_Form T TB c1 a1 a2 a3 F⟩
  | false => exact ⟨_, fd, _, ds, T.m_Record, T.mk_Record, hb, hv, fi_Form T TB c1 a1 a2 a3 F⟩
theorem nf_Form1 (T : Txt K mg) (TB : LamX.TabB base mg (He.codeOf K ("by_numbers", none)) (He.tabOf K (He.codeOf K ("by_numbers", none)))) (c : Bool) : Nf P w K mg base 5 (fcls c) (He.ga K (fcls c)) [.non] (spFm K (He.tabOf K (He.codeOf K ("by_numbers", none))) (He.ga K (fcls c))) := by
  obtain ⟨fd, F⟩ := T.f_Form_init
  obtain ⟨ds, hv, hb⟩ := F.binds1 (ps := ["self", "name", "fields", "gone"]) 3 0 (by simp) rfl fun T' kV doc pm an cdv ct us its h1 h2 => match us, h1, its, h2 with
    | [_, _, _], _, [_], _ => ⟨_, rfl, rfl⟩
  obtain ⟨c1, a1, a2, a3⟩ := clsF T c
  cases c with
  | true => exact ⟨_, fd, _, ds, T.m_Choice, T.mk_Choice, hb, hv, fi_Form T TB c1 a1 a2 a3 F⟩
  | false => exact ⟨_, fd, _, ds, T.m_Record, T.mk_Record, hb, hv, fi_Form T TB c1 a1 a2 a3 F⟩
/-! ### a form's methods -/
theorem mf_choice (T : Txt K mg) (c : Bool) : Mf P w K mg base 1 (He.ga K (fcls c)) "is_choice" [] (spC (.bl c)) := by
  cases c with
  | true =>
    refine mf_mk T.f_Choice_is_choice T.c_Choice.cl T.h_Choice_is_choice (fun _ _ _ _ _ _ us hl => match us, hl with | [_], _ => rfl) fun fd F => fn_mk F sc_Choice_is_choice (fun vs H Q E h => ?_) fun cd A outer s H vs Q E hr tk po h => ?_
    · obtain ⟨a, rfl, _⟩ := h; rfl
    · obtain ⟨a, rfl, q⟩ := h
      top_name
      exact q
  | false =>
    refine mf_mk T.f_Form_is_choice T.c_Record.cl T.h_Record_is_choice (fun _ _ _ _ _ _ us hl => match us, hl with | [_], _ => rfl) fun fd F => fn_mk F sc_Form_is_choice (fun vs H Q E h => ?_) fun cd A outer s H vs Q E hr tk po h => ?_
    · obtain ⟨a, rfl, _⟩ := h; rfl
    · obtain ⟨a, rfl, q⟩ := h
      top_name
      exact q
def fword (c : Bool) : Str := if c = true then "choice" else "record"
theorem mf_called (T : Txt K mg) (c : Bool) : Mf P w K mg base 1 (He.ga K (fcls c)) "called" [] (spC (.str (fword c))) := by
  cases c with
  | true =>
    refine mf_mk T.f_Choice_called T.c_Choice.cl T.h_Choice_called (fun _ _ _ _ _ _ us hl => match us, hl with | [_], _ => rfl) fun fd F => fn_mk F sc_Choice_called (fun vs H Q E h => ?_) fun cd A outer s H vs Q E hr tk po h => ?_
    · obtain ⟨a, rfl, _⟩ := h; rfl
    · obtain ⟨a, rfl, q⟩ := h
      top_name
      exact q
  | false =>
    refine mf_mk T.f_Record_called T.c_Record.cl T.h_Record_called (fun _ _ _ _ _ _ us hl => match us, hl with | [_], _ => rfl) fun fd F => fn_mk F sc_Record_called (fun vs H Q E h => ?_) fun cd A outer s H vs Q E hr tk po h => ?_
    · obtain ⟨a, rfl, _⟩ := h; rfl
    · obtain ⟨a, rfl, q⟩ := h
      top_name
      exact q
/-- what is found among fields -/
def Found (K : PySem.W.Frag) (H : Hp) (Q : VK) (fds : List FD) (p : FD → Bool) : Prop := match fds.find? p with
  | some fd => ∀ b, FO K H b fd → Q (.ref b) H
  | none => Q .non H
def spAt (K : PySem.W.Frag) : Sp := fun vs H Q _ => ∃ (a : Addr) (n : Int) (fm : FM), vs = [.ref a, .int n] ∧ RO K H a fm ∧ Found K H Q fm.fields fun fd => decide (fd.mark = n)
theorem find_take {p : FD → Bool} {fds : List FD} {i : Nat} {fd : FD} (h : fds[i]? = some fd) (hp : p fd = true) (hn : ∀ x ∈ fds.take i, p x = false) : fds.find? p = some fd := by
  obtain ⟨hl, rfl⟩ := List.getElem?_eq_some_iff.mp h
  have z : (fds.take i ++ fds.drop i).find? p = some fds[i] := by
    rw [List.find?_append, List.find?_eq_none.mpr (fun x hx => by rw [hn x hx]; exact Bool.false_ne_true), List.drop_eq_getElem_cons hl, List.find?_cons_of_pos hp]
    rfl
  rwa [List.take_append_drop] at z
theorem take_no {p : FD → Bool} {fds : List FD} {i : Nat} {fd : FD} (h : fds[i]? = some fd) (hp : p fd = false) (hn : ∀ x ∈ fds.take i, p x = false) : ∀ x ∈ fds.take (i + 1), p x = false := by
  rw [List.take_add_one, h]
  intro x hx
  rcases List.mem_append.mp hx with hx | hx
  · exact hn x hx
  · have hx : x ∈ [fd] := hx
    rw [List.mem_singleton.mp hx]; exact hp
theorem find_none {p : FD → Bool} {fds : List FD} (hn : ∀ x ∈ fds, p x = false) : fds.find? p = none := List.find?_eq_none.mpr fun x hx => by rw [hn x hx]; exact Bool.false_ne_true
theorem fi_at (T : Txt K mg) (c : Bool) {fd : FuncData} (F : FunD K "field_at" "Form.field_at" (defArgs s_Form_field_at) (defBody s_Form_field_at) (defScope s_Form_field_at) [] [] (He.fAd K ("Form", some "field_at")) fd) : FnOk P w K mg base (L2N.CX P w) 1 (He.fAd K ("Form", some "field_at")) fd ["self", "number"] (spAt K) := by
  refine fn_mk F sc_Form_field_at (fun vs H Q E h => ?_) fun cd A outer s H vs Q E hr tk po h => ?_
  · obtain ⟨a, n, fm, rfl, _⟩ := h; rfl
  · obtain ⟨a, n, fm, rfl, ⟨dx, l, g, ws, hx, hl, hF, hg⟩, q⟩ := h
    have nd := sc_Form_field_at.nd
    obtain ⟨c1, a1, a2, a3⟩ := clsF T fm.choice
    have d1 := T.c_Field.cl
    have d2 := T.a_Field_number
    have hlen := hF.len
    refine bcons (lforL (xs := ws) po rfl (fun i σ' H' => H = H' ∧ (∀ x ∈ fm.fields.take i, decide (x.mark = n) = false) ∧ ∃ r, σ' = [some (.ref a), some (.int n), r]) ?_)
    top_name
    refine ⟨SqL.of hl, ⟨rfl, (fun _ h => by simp at h), none, rfl⟩, fun i σ' H' _ ⟨e, _⟩ => by rw [← e]; exact SqL.of hl, fun i x σ' H' hx hv => ?_, fun σ' H' hv => ?_⟩
    · obtain ⟨rfl, hn, r, rfl⟩ := hv
      obtain ⟨b, fd, rfl, hj, hfo⟩ := hF.get hx
      obtain ⟨fdx, kv, dv, h1, h2, h3⟩ := id hfo
      top_name
      · rename_i hq
        have := find_take (p := fun fd => decide (fd.mark = n)) hj (decide_eq_true hq) hn
        unfold Found at q
        rw [this] at q
        exact q b hfo
      · rename_i hq
        exact ⟨rfl, take_no (p := fun fd => decide (fd.mark = n)) hj (decide_eq_false hq) hn, _, rfl⟩
    · obtain ⟨rfl, hn, r, rfl⟩ := hv
      rw [hlen, List.take_length] at hn
      have := find_none (p := fun fd => decide (fd.mark = n)) hn
      unfold Found at q
      rw [this] at q
      top_name
      exact q
theorem mf_at (T : Txt K mg) (c : Bool) : Mf P w K mg base 1 (He.ga K (fcls c)) "field_at" [] (spAt K) := by
  cases c with
  | true => exact mf_mk T.f_Form_field_at T.c_Choice.cl T.h_Choice_field_at (fun _ _ _ _ _ _ us hl => match us, hl with | [_, _], _ => rfl) fun fd F => fi_at T true F
  | false => exact mf_mk T.f_Form_field_at T.c_Record.cl T.h_Record_field_at (fun _ _ _ _ _ _ us hl => match us, hl with | [_, _], _ => rfl) fun fd F => fi_at T false F
def foundS (s : Option Str) : FD → Bool := fun fd => match s with
  | some s => decide (fd.name = s)
  | none => false
def spOf (K : PySem.W.Frag) : Sp := fun vs H Q _ => ∃ (a : Addr) (u : V) (o : Option Str) (fm : FM), vs = [.ref a, u] ∧ TxtOr K H u o ∧ RO K H a fm ∧ Found K H Q fm.fields (foundS o)
theorem fi_of (T : Txt K mg) {fd : FuncData} (F : FunD K "field_of" "Form.field_of" (defArgs s_Form_field_of) (defBody s_Form_field_of) (defScope s_Form_field_of) [] [] (He.fAd K ("Form", some "field_of")) fd) : FnOk P w K mg base (L2N.CX P w) 1 (He.fAd K ("Form", some "field_of")) fd ["self", "name"] (spOf K) := by
  refine fn_mk F sc_Form_field_of (fun vs H Q E h => ?_) fun cd A outer s H vs Q E hr tk po h => ?_
  · obtain ⟨a, u, o, fm, rfl, _⟩ := h; rfl
  · obtain ⟨a, u, o, fm, rfl, hu, ⟨dx, l, g, ws, hx, hl, hF, hg⟩, q⟩ := h
    have nd := sc_Form_field_of.nd
    obtain ⟨c1, a1, a2, a3⟩ := clsF T fm.choice
    have d1 := T.c_Field.cl
    have d2 := T.a_Field_name
    have n1 := T.n_isinstance
    have n2 := T.n_str
    have hlen := hF.len
    refine bcons (lforL (xs := ws) po rfl (fun i σ' H' => H = H' ∧ (∀ x ∈ fm.fields.take i, foundS o x = false) ∧ ∃ r, σ' = [some (.ref a), some u, r]) ?_)
    top_name
    refine ⟨SqL.of hl, ⟨rfl, (fun _ h => by simp at h), none, rfl⟩, fun i σ' H' _ ⟨e, _⟩ => by rw [← e]; exact SqL.of hl, fun i x σ' H' hx hv => ?_, fun σ' H' hv => ?_⟩
    · obtain ⟨rfl, hn, r, rfl⟩ := hv
      obtain ⟨b, fd, rfl, hj, hfo⟩ := hF.get hx
      obtain ⟨fdx, kv, dv, h1, h2, h3⟩ := id hfo
      cases hu with
      | str z hz =>
        top_name
        · rename_i hq
          have hq := V.str.inj hq
          have := find_take (p := foundS (some z)) hj (decide_eq_true hq) hn
          unfold Found at q
          rw [this] at q
          exact q b hfo
        · rename_i hq
          exact ⟨rfl, take_no (p := foundS (some z)) hj (decide_eq_false fun z => hq (congrArg V.str z)) hn, _, rfl⟩
      | odd ty hk =>
        top_name
        exact ⟨rfl, take_no (p := foundS none) hj rfl hn, _, rfl⟩
    · obtain ⟨rfl, hn, r, rfl⟩ := hv
      rw [hlen, List.take_length] at hn
      have := find_none (p := foundS o) hn
      unfold Found at q
      rw [this] at q
      top_name
      exact q
theorem mf_of (T : Txt K mg) (c : Bool) : Mf P w K mg base 1 (He.ga K (fcls c)) "field_of" [] (spOf K) := by
  cases c with
  | true => exact mf_mk T.f_Form_field_of T.c_Choice.cl T.h_Choice_field_of (fun _ _ _ _ _ _ us hl => match us, hl with | [_, _], _ => rfl) fun fd F => fi_of T F
  | false => exact mf_mk T.f_Form_field_of T.c_Record.cl T.h_Record_field_of (fun _ _ _ _ _ _ us hl => match us, hl with | [_, _], _ => rfl) fun fd F => fi_of T F
end

set_option maxRecDepth 100000
set_option maxHeartbeats 4000000
set_option pp.maxSteps 400
section
open PySem PySem.Spec PyProof.Rows L2 Z
open Evl (Ex)
variable {P : Program} {w : World} {K : PySem.W.Frag} {mg : Str → Option Value} {base : Heap}
local macro_rules | `(tactic| tb_rel) => `(tactic| first
  | ((with_reducible refine (?_ : wE _ (.Subscript _ (.Constant (.str _) _ _) _) _ _ _)); refine zdat (by first | assumption | omega) ?_)
  | ((with_reducible refine (?_ : wS _ (.Assign [.Subscript _ _ _] _ _) _ _ _)); refine sdput (by first | assumption | omega) ?_)
  | fail)
/-! ### what a form must be -/
theorem ok_row_of (T : Txt K mg) : Gf P w K mg base 1 "is_row_of" [] (fun vs H Q _ => ∃ (l : Addr) (xs : List V) (n : Int), vs = [.ref l, .int n] ∧ H l = some (.lst xs) ∧ Q (.bl (decide ((xs.length : Int) ≤ n))) H) := by
  refine gf_mk T.f_is_row_of T.m_is_row_of (fun _ _ _ _ _ _ us hl => match us, hl with | [_, _], _ => rfl) fun fd F => fn_mk F sc_is_row_of (fun vs H Q E h => ?_) fun cd A outer s H vs Q E hr tk po h => ?_
  · obtain ⟨l, xs, n, rfl, _⟩ := h; rfl
  · obtain ⟨l, xs, n, rfl, hl, q⟩ := h
    have n1 := T.n_isinstance
    have n2 := T.n_list
    have n3 := T.n_len
    top_name
    exact q
theorem ok_many (T : Txt K mg) : Gf P w K mg base 2 "are_many" [] (fun vs H Q _ => ∃ (a : Addr) (fm : FM), vs = [.ref a] ∧ RO K H a fm ∧ fm.fields.length ≤ 10 ∧ fm.gone.length ≤ 10 ∧ (fm.choice = true → 0 < fm.fields.length) ∧ Q (.bl true) H) := by
  refine gf_mk T.f_are_many T.m_are_many (fun _ _ _ _ _ _ us hl => match us, hl with | [_], _ => rfl) fun fd F => fn_mk F sc_are_many (fun vs H Q E h => ?_) fun cd A outer s H vs Q E hr tk po h => ?_
  · obtain ⟨a, fm, rfl, _⟩ := h; rfl
  · obtain ⟨a, fm, rfl, ⟨dx, l, g, ws, hx, hl, hF, hg⟩, h1, h2, h3, q⟩ := h
    obtain ⟨c1, a1, a2, a3⟩ := clsF T fm.choice
    have g1 := T.g_MOST_FIELDS
    have n3 := T.n_len
    have hlen := hF.len
    have hgl : (fm.gone.map V.int).length = fm.gone.length := List.length_map ..
    refine bcons (sif (tcut false ?_ ?_))
    · top_name
      refine zcall (ok_row_of T) hr (by decide) takesF rfl ?_
      top_name
      refine ⟨l, _, _, rfl, hl, ?_⟩
      rw [decide_eq_true (by omega)]
      top_name
      refine zcall (ok_row_of T) hr (by decide) takesF rfl ?_
      top_name
      refine ⟨g, _, _, rfl, hg, ?_⟩
      rw [decide_eq_true (by omega)]
      top_name
      exact ⟨rfl, rfl⟩
    refine ifF (bnil ?_)
    top_name
    refine zmeth0 hr tk ?_
    top_name
    refine ⟨a, _, dx, _, 1, [], _, rfl, hx, rfl, mf_choice T fm.choice, by decide, a, rfl, ?_⟩
    cases hc : fm.choice with
    | false =>
      top_name
      exact q
    | true =>
      have := h3 hc
      top_name
      rw [decide_eq_true (by omega)]
      exact q
/-! ### names and numbers, none twice -/
def seenK (ks : List Key) : List (Key × V) := ks.map fun k => (k, V.bl true)
theorem seen_no : ∀ {ks : List Key} {k : Key}, k ∉ ks → valV (seenK ks) k = none
  | [], _, _ => rfl
  | j :: ks, k, h => by
    unfold seenK
    rw [List.map_cons, valV_neg (fun z => h (by rw [← z]; exact List.mem_cons_self))]
    exact seen_no fun z => h (List.mem_cons_of_mem _ z)
theorem seen_put {ks : List Key} {k : Key} (h : k ∉ ks) : putK (seenK ks) k (.bl true) = seenK (ks ++ [k]) := by
  rw [putK_new _ (seen_no h)]
  unfold seenK
  rw [List.map_append]
  rfl
theorem not_mem_take {α : Type} {xs : List α} {i : Nat} {x : α} (h : xs.Nodup) (hx : xs[i]? = some x) : x ∉ xs.take i := by
  obtain ⟨hl, rfl⟩ := List.getElem?_eq_some_iff.mp hx
  have e : xs.take i ++ xs[i] :: xs.drop (i + 1) = xs := by rw [← List.drop_eq_getElem_cons hl, List.take_append_drop]
  have h2 : (xs.take i ++ xs[i] :: xs.drop (i + 1)).Nodup := by rw [e]; exact h
  exact fun z => ((List.pairwise_append (R := (· ≠ ·))).mp h2).2.2 _ z _ List.mem_cons_self rfl
theorem nodup_map {α β : Type} {f : α → β} (hf : ∀ x y, f x = f y → x = y) {xs : List α} (h : xs.Nodup) : (xs.map f).Nodup := by
  unfold List.Nodup at h ⊢
  rw [List.pairwise_map]
  exact h.imp fun {x y} n z => n (hf x y z)
theorem ok_fields (T : Txt K mg) : Gf P w K mg base 3 "are_fields" [] (fun vs H Q _ => ∃ (l : Addr) (ws : List V) (fds : List FD), vs = [.ref l] ∧ H l = some (.lst ws) ∧ FOs K H ws fds ∧ fds.length ≤ 1000 ∧ (∀ fd ∈ fds, nameB fd.name = true) ∧ (fds.map (·.name)).Nodup ∧ ∀ H', Ex H H' → Q (.bl true) H') := by
  refine gf_mk T.f_are_fields T.m_are_fields (fun _ _ _ _ _ _ us hl => match us, hl with | [_], _ => rfl) fun fd F => fn_mk F sc_are_fields (fun vs H Q E h => ?_) fun cd A outer s H vs Q E hr tk po h => ?_
  · obtain ⟨l, ws, fds, rfl, _⟩ := h; rfl
  · obtain ⟨l, ws, fds, rfl, hl, hF, hz, hn, hd, q⟩ := h
    have nd := sc_are_fields.nd
    have n1 := T.n_isinstance
    have m1 := T.m_Field
    have c1 := T.c_Field.cl
    have a1 := T.a_Field_name
    have hu := hr.units
    have hu1 := Nat.lt_of_le_of_lt (Nat.add_le_add_left (show 1 ≤ 64 by decide) _) hr.units
    have hlen := hF.len
    refine bcut (fun σ' H' => Ex H H' ∧ ∃ d, H d = none ∧ H' d = some (.dK []) ∧ σ' = [some (.ref l), some (.ref d), none]) ?_ ?_
    · top_name
      rename_i d H1 hd0 e1 hx1
      exact ⟨e1, d, hd0, hx1, rfl⟩
    rintro _ H1 ⟨e1, d, hd0, hx1, rfl⟩
    refine bcons (lforL (xs := ws) po rfl (fun i σ' H' => Ex H H' ∧ H' d = some (.dK (seenK ((fds.take i).map fun fd => .inr fd.name))) ∧ ∃ r, σ' = [some (.ref l), some (.ref d), r]) ?_)
    top_name
    refine ⟨SqL.of (e1 _ _ hl), ⟨e1, hx1, none, rfl⟩, fun i σ' H' _ ⟨e, _⟩ => SqL.of (e _ _ hl), fun i x σ' H2 hx hv => ?_, fun σ' H' hv => ?_⟩
    · obtain ⟨e2, hd2, r, rfl⟩ := hv
      obtain ⟨b, fd, rfl, hj, hfo⟩ := hF.get hx
      obtain ⟨fdx, kv, dv, h1, h2, h3⟩ := hfo.ex e2
      have hjl := (List.getElem?_eq_some_iff.mp hj).1
      have hnb := hn fd (List.mem_of_getElem? hj)
      have hno : (.inr fd.name : Key) ∉ (fds.take i).map fun fd => (.inr fd.name : Key) := by
        have z := not_mem_take (x := fd.name) (i := i) hd (by rw [List.getElem?_map, hj]; rfl)
        rw [← List.map_take] at z
        intro y
        obtain ⟨g, hg, hg2⟩ := List.mem_map.mp y
        exact z (List.mem_map.mpr ⟨g, hg, Sum.inr.inj hg2⟩)
      have hlb : fd.name.length ≤ 12 := by
        unfold nameB at hnb
        rw [Bool.and_eq_true] at hnb
        exact (of_decide_eq_true hnb.1).2
      tb_rel
      refine bcut (fun σ' H' => Ex H2 H' ∧ H' d = some (.dK (seenK ((fds.take i).map fun fd => .inr fd.name))) ∧ σ' = [some (.ref l), some (.ref d), some (.ref b)]) ?_ ?_
      · refine sif (tcutE false ?_ fun H3 e3 => ?_)
        · top_name
          refine kisi (.own _) (T.c_Field.ty h1) T.k_Field_Field ?_
          top_name
          refine zcall (ok_name T) hr (by decide) takesF rfl ?_
          top_name
          refine ⟨_, _, rfl, .str _ (by omega), fun H3 e3 => ?_⟩
          rw [show nameO (some fd.name) = true from hnb]
          top_name
          refine odin (r := none) (by omega) (by have := DGet.k (k := .inr fd.name) (e3 _ _ hd2); rwa [seen_no hno] at this) ?_
          top_name
          exact ⟨rfl, e3⟩
        · top_name
          exact ⟨e3, e3 _ _ hd2, rfl⟩
      rintro _ H3 ⟨e3, hd3, rfl⟩
      have h1' := e3 _ _ h1
      top_name
      refine ⟨d, _, rfl, DPut.k (k := .inr fd.name) hd3 (by unfold seenK; rw [List.length_map, List.length_map, List.length_take, sizeLine_eq]; omega), ?_⟩
      rw [seen_put hno]
      (repeat refine bnil ?_)
      refine ⟨Ex.past (e2.trans e3) hd0, ?_, _, rfl⟩
      rw [take_map_succ hj]
      exact upd_same
    · obtain ⟨e2, hd2, r, rfl⟩ := hv
      top_name
      exact q _ e2
end

set_option maxRecDepth 100000
set_option maxHeartbeats 4000000
set_option pp.maxSteps 400
section
open PySem PySem.Spec PyProof.Rows L2 Z
open Evl (Ex)
variable {P : Program} {w : World} {K : PySem.W.Frag} {mg : Str → Option Value} {base : Heap}
local macro_rules | `(tactic| tb_rel) => `(tactic| first
  | ((with_reducible refine (?_ : wE _ (.Subscript _ (.Constant (.str _) _ _) _) _ _ _)); refine zdat (by first | assumption | omega) ?_)
  | ((with_reducible refine (?_ : wS _ (.Assign [.Subscript _ _ _] _ _) _ _ _)); refine sdput (by first | assumption | omega) ?_)
  | fail)
theorem asked_in {H : Hp} {lo hi n : Int} (h0 : lo ≤ n) (h1 : n ≤ hi) : Asked K H lo hi (.int n) true := by
  have := Asked.int (K := K) (H := H) (lo := lo) (hi := hi) n
  rwa [decide_eq_true ⟨h0, h1⟩] at this
theorem ok_numbers (T : Txt K mg) : Gf P w K mg base 3 "are_numbers" [] (fun vs H Q _ => ∃ (a : Addr) (fm : FM), vs = [.ref a] ∧ RO K H a fm ∧ fm.fields.length ≤ 1000 ∧ fm.gone.length ≤ 1000 ∧ (∀ n ∈ fm.fields.map (·.mark) ++ fm.gone, 1 ≤ n ∧ n ≤ 200) ∧ (fm.fields.map (·.mark) ++ fm.gone).Nodup ∧ ∀ H', Ex H H' → Q (.bl true) H') := by
  refine gf_mk T.f_are_numbers T.m_are_numbers (fun _ _ _ _ _ _ us hl => match us, hl with | [_], _ => rfl) fun fd F => fn_mk F sc_are_numbers (fun vs H Q E h => ?_) fun cd A outer s H vs Q E hr tk po h => ?_
  · obtain ⟨a, fm, rfl, _⟩ := h; rfl
  · obtain ⟨a, fm, rfl, ⟨dx, l, g, ws, hx, hl, hF, hg⟩, hz1, hz2, hn, hd, q⟩ := h
    have nd := sc_are_numbers.nd
    obtain ⟨c1, a1, a2, a3⟩ := clsF T fm.choice
    have d1 := T.c_Field.cl
    have d2 := T.a_Field_number
    have g1 := T.g_MOST_MARK
    have hu := hr.units
    have hu1 := Nat.lt_of_le_of_lt (Nat.add_le_add_left (show 1 ≤ 64 by decide) _) hr.units
    have hlen := hF.len
    refine bcut (fun σ' H' => Ex H H' ∧ ∃ d, H d = none ∧ H' d = some (.dK []) ∧ σ' = [some (.ref a), some (.ref d), none, none]) ?_ ?_
    · top_name
      rename_i d H1 hd0 e1 hx1
      exact ⟨e1, d, hd0, hx1, rfl⟩
    rintro _ H1 ⟨e1, d, hd0, hx1, rfl⟩
    have hx' := e1 _ _ hx
    generalize hN : fm.fields.map (·.mark) ++ fm.gone = ns at *
    have hnl : ns.length ≤ 2000 := by rw [← hN, List.length_append, List.length_map]; omega
    refine bcons (lforLa (xs := ns.map V.int) po rfl ?_)
    top_name
    refine zlc rfl nd [("field", 3)] (blkOk_by (N := N_are_numbers) (sc := defScope s_are_numbers) (by decide +kernel)) piL (tmL (xs := ws) (fun j => ((fm.fields.map (·.mark)).take j).map V.int) rfl ?_)
    top_name
    refine ⟨SqL.of (e1 _ _ hl), fun j x H2 hx e2 => ?_, fun M H2 hM e2 hxM => ?_⟩
    · obtain ⟨b, fd, rfl, hj, hfo⟩ := hF.get hx
      have hjl := (List.getElem?_eq_some_iff.mp hj).1
      obtain ⟨fdx, kv, dv, h1, h2, h3⟩ := hfo.ex (e1.trans e2)
      top_name
      exact ⟨take_map_succ (by rw [List.getElem?_map, hj]; rfl), by rw [List.length_map, List.length_take, List.length_map, sizeLine_eq]; omega, Evl.Ex.refl _⟩
    have hM2 : H2 M = some (.lst ((fm.fields.map (·.mark)).map V.int)) := by rw [hxM, hlen, List.take_of_length_le (by rw [List.length_map]; omega)]
    have hx2 := e2 _ _ hx'
    top_name
    refine ocatE hM2 (e2 _ _ (e1 _ _ hg)) (by rw [List.length_map, List.length_map, List.length_map, sizeLine_eq]; omega) fun L H3 hL e3 hxL => ?_
    rw [← List.map_append, hN] at hxL
    have e13 := e2.trans e3
    have nLd : L ≠ d := fun z => by rw [z, e2 _ _ hx1] at hL; cases hL
    refine ⟨L, rfl, SqL.of hxL, fun i σ' H' => H' L = some (.lst (ns.map V.int)) ∧ Ex H H' ∧ H' d = some (.dK (seenK ((ns.take i).map .inl))) ∧ ∃ r x, σ' = [some (.ref a), some (.ref d), r, x], ⟨hxL, e1.trans e13, e13 _ _ hx1, none, none, rfl⟩, fun i σ' H' _ v => SqL.of v.1, fun i x σ' H4 hx hv => ?_, fun σ' H' hv => ?_⟩
    · obtain ⟨hL4, e4, hd4, r, y, rfl⟩ := hv
      have hil := (List.getElem?_eq_some_iff.mp hx).1
      rw [List.length_map] at hil
      obtain ⟨n, hj, rfl⟩ : ∃ n, ns[i]? = some n ∧ x = .int n := by
        rw [List.getElem?_map] at hx
        cases z : ns[i]? with
        | none => rw [z] at hx; cases hx
        | some n => rw [z] at hx; exact ⟨n, rfl, (Option.some.inj hx).symm⟩
      obtain ⟨b1, b2⟩ := hn n (List.mem_of_getElem? hj)
      have hno : (.inl n : Key) ∉ (ns.take i).map (.inl : Int → Key) := fun z => by
        obtain ⟨m, hm, hm2⟩ := List.mem_map.mp z
        exact not_mem_take hd hj (by rw [← Sum.inl.inj hm2]; exact hm)
      tb_rel
      refine bcut (fun σ' H' => H4 = H' ∧ σ' = [some (.ref a), some (.ref d), some (.int n), y]) ?_ ?_
      · refine sif (tcut false ?_ ?_)
        · top_name
          refine zcall (ok_is_among T) hr (by decide) takesF rfl ?_
          top_name
          refine ⟨_, _, _, true, rfl, asked_in b1 b2, ?_⟩
          top_name
          refine odin (r := none) (by omega) (by have := DGet.k (k := .inl n) hd4; rwa [seen_no hno] at this) ?_
          top_name
          exact ⟨rfl, rfl⟩
        · top_name
          exact ⟨rfl, rfl⟩
      rintro _ _ ⟨rfl, rfl⟩
      top_name
      refine ⟨d, _, rfl, DPut.k (k := .inl n) hd4 (by unfold seenK; rw [List.length_map, List.length_map, List.length_take, sizeLine_eq]; omega), ?_⟩
      rw [seen_put hno]
      (repeat refine bnil ?_)
      refine ⟨by rw [upd_ne nLd]; exact hL4, Ex.past e4 hd0, ?_, _, _, rfl⟩
      rw [take_map_succ hj]
      exact upd_same
    · obtain ⟨_, e4, _, r, y, rfl⟩ := hv
      top_name
      exact q _ e4
end

set_option maxRecDepth 100000
set_option maxHeartbeats 4000000
set_option pp.maxSteps 400
section
open PySem PySem.Spec PyProof.Rows L2 Z
open Evl (Ex)
variable {P : Program} {w : World} {K : PySem.W.Frag} {mg : Str → Option Value} {base : Heap}
/-! ### kinds by their class -/
def KD.tag : KD → Nat
  | .truth => 0
  | .count => 1
  | .whole => 2
  | .upto _ => 3
  | .text _ => 4
  | .form _ => 5
  | .list _ => 6
structure KitK (K : PySem.W.Frag) (t : Value) (k : KD) : Prop where
  tr : PySem.W.kitOne K t (.ref (He.ga K "Truth")) = some (k.tag == 0)
  co : PySem.W.kitOne K t (.ref (He.ga K "Count")) = some (k.tag == 1)
  wh : PySem.W.kitOne K t (.ref (He.ga K "Whole")) = some (k.tag == 2)
  up : PySem.W.kitOne K t (.ref (He.ga K "Upto")) = some (k.tag == 3)
  te : PySem.W.kitOne K t (.ref (He.ga K "Text")) = some (k.tag == 4)
  ne : PySem.W.kitOne K t (.ref (He.ga K "Nested")) = some (k.tag == 5)
  li : PySem.W.kitOne K t (.ref (He.ga K "List")) = some (k.tag == 6)
theorem kit_k (T : Txt K mg) {H : Hp} {v : V} {k : KD} (h : KI K H v k) : ∃ t, TyX K H v t ∧ KitK K t k := by
  cases h with
  | truth h => exact ⟨_, T.c_Truth.ty h, T.k_Truth_Truth, T.k_Truth_Count, T.k_Truth_Whole, T.k_Truth_Upto, T.k_Truth_Text, T.k_Truth_Nested, T.k_Truth_List⟩
  | count h => exact ⟨_, T.c_Count.ty h, T.k_Count_Truth, T.k_Count_Count, T.k_Count_Whole, T.k_Count_Upto, T.k_Count_Text, T.k_Count_Nested, T.k_Count_List⟩
  | whole h => exact ⟨_, T.c_Whole.ty h, T.k_Whole_Truth, T.k_Whole_Count, T.k_Whole_Whole, T.k_Whole_Upto, T.k_Whole_Text, T.k_Whole_Nested, T.k_Whole_List⟩
  | upto h => exact ⟨_, T.c_Upto.ty h, T.k_Upto_Truth, T.k_Upto_Count, T.k_Upto_Whole, T.k_Upto_Upto, T.k_Upto_Text, T.k_Upto_Nested, T.k_Upto_List⟩
  | text h => exact ⟨_, T.c_Text.ty h, T.k_Text_Truth, T.k_Text_Count, T.k_Text_Whole, T.k_Text_Upto, T.k_Text_Text, T.k_Text_Nested, T.k_Text_List⟩
  | form h => exact ⟨_, T.c_Nested.ty h, T.k_Nested_Truth, T.k_Nested_Count, T.k_Nested_Whole, T.k_Nested_Upto, T.k_Nested_Text, T.k_Nested_Nested, T.k_Nested_List⟩
  | list h _ => exact ⟨_, T.c_List.ty h, T.k_List_Truth, T.k_List_Count, T.k_List_Whole, T.k_List_Upto, T.k_List_Text, T.k_List_Nested, T.k_List_List⟩
/-- a kind that may be in a book, behind these forms -/
def KD.in_ (ahead : List Str) : KD → Prop
  | .list (.list _) => False
  | .list k => k.in_ ahead
  | .form s => s ∈ ahead
  | .upto n => 1 ≤ n ∧ n ≤ MOST
  | .text n => 1 ≤ n ∧ n ≤ 100
  | _ => True
/-- the weights of the forms ahead, as a dict -/
def wtsK (ws : List (Str × Int)) : List (Key × V) := ws.map fun p => (.inr p.1, .int p.2)
theorem wts_has : ∀ {ws : List (Str × Int)} {s : Str}, s ∈ ws.map (·.1) → ∃ i, (s, i) ∈ ws ∧ valV (wtsK ws) (.inr s) = some (.int i)
  | p :: ws, s, h => by
    unfold wtsK
    rw [List.map_cons]
    by_cases e : p.1 = s
    · exact ⟨p.2, by rw [← e]; exact List.mem_cons_self, valV_pos (p := ((.inr p.1 : Key), V.int p.2)) (congrArg Sum.inr e)⟩
    · rcases List.mem_cons.mp h with z | z
      · exact absurd z.symm e
      · obtain ⟨i, h1, h2⟩ := wts_has z
        refine ⟨i, List.mem_cons_of_mem _ h1, ?_⟩
        rw [valV_neg (p := ((.inr p.1 : Key), V.int p.2)) (fun z => e (Sum.inr.inj z))]
        exact h2
theorem wts_no : ∀ {ws : List (Str × Int)} {s : Str}, s ∉ ws.map (·.1) → valV (wtsK ws) (.inr s) = none
  | [], _, _ => rfl
  | p :: ws, s, h => by
    unfold wtsK
    rw [List.map_cons, valV_neg (p := ((.inr p.1 : Key), V.int p.2)) (fun z => h (by rw [← Sum.inr.inj z]; exact List.mem_cons_self))]
    exact wts_no fun z => h (List.mem_cons_of_mem _ z)
def spIK (K : PySem.W.Frag) (k : KD) : Sp := fun vs H Q _ => ∃ (v : V) (d : Addr) (ws : List (Str × Int)), vs = [v, .ref d] ∧ KI K H v k ∧ H d = some (.dK (wtsK ws)) ∧ k.in_ (ws.map (·.1)) ∧ ∀ H', Ex H H' → Q (.bl true) H'
theorem kit_any {t a b c : Value} {x y z : Bool} (h1 : PySem.W.kitOne K t a = some x) (h2 : PySem.W.kitOne K t b = some y) (h3 : PySem.W.kitOne K t c = some z) : PySem.W.kitAny K t [a, b, c] = some (x || y || z) := by
  simp only [PySem.W.kitAny, h1, h2, h3]
  cases x <;> cases y <;> cases z <;> rfl
theorem is_kind_rest (T : Txt K mg) {k : KD} (h0 : k.dep = 0) (h : k = .truth ∨ k = .count ∨ k = .whole) : Gf P w K mg base (3 + k.dep) "is_kind" [] (spIK K k) := by
  rw [h0]
  refine gf_mk T.f_is_kind T.m_is_kind (fun _ _ _ _ _ _ us hl => match us, hl with | [_, _], _ => rfl) fun fd F => fn_mk (k := 2) F sc_is_kind (fun vs H Q E h => ?_) fun cd A outer s H vs Q E hr tk po h' => ?_
  · obtain ⟨v, d, ws, rfl, _⟩ := h; rfl
  · obtain ⟨v, d, ws, rfl, hk, hd, hin, q⟩ := h'
    obtain ⟨t, ty, kk⟩ := kit_k T hk
    have n1 := T.n_isinstance
    have m1 := T.m_List
    have m2 := T.m_Nested
    have m3 := T.m_Upto
    have m4 := T.m_Text
    have m5 := T.m_Truth
    have m6 := T.m_Count
    have m7 := T.m_Whole
    have z6 : (k.tag == 6) = false := by rcases h with rfl | rfl | rfl <;> rfl
    have z5 : (k.tag == 5) = false := by rcases h with rfl | rfl | rfl <;> rfl
    have z4 : (k.tag == 4) = false := by rcases h with rfl | rfl | rfl <;> rfl
    have z3 : (k.tag == 3) = false := by rcases h with rfl | rfl | rfl <;> rfl
    have z0 : (k.tag == 0 || k.tag == 1 || k.tag == 2) = true := by rcases h with rfl | rfl | rfl <;> rfl
    have kl := kk.li
    have kn := kk.ne
    have ku := kk.up
    have kt := kk.te
    rw [z6] at kl
    rw [z5] at kn
    rw [z4] at kt
    rw [z3] at ku
    top_name
    refine kisi (.own _) ty kl ?_
    top_name
    refine kisi (.own _) ty kn ?_
    top_name
    refine kisi (.own _) ty ku ?_
    top_name
    refine kisi (.own _) ty kt ?_
    top_name
    rename_i tp H1 htp e1 hx1
    refine kisiT hx1 (.cons (.own _) (.cons (.own _) (.cons (.own _) .nil))) (TyX.ex e1 ty) (kit_any kk.tr kk.co kk.wh) ?_
    rw [z0]
    exact q _ e1
theorem ok_is_kind (T : Txt K mg) : ∀ k : KD, Gf P w K mg base (3 + k.dep) "is_kind" [] (spIK K k) := by
  intro k
  induction k with
  | list k ih =>
    refine gf_mk T.f_is_kind T.m_is_kind (fun _ _ _ _ _ _ us hl => match us, hl with | [_, _], _ => rfl) fun fd F => fn_mk (k := 3 + k.dep) F sc_is_kind (fun vs H Q E h => ?_) fun cd A outer s H vs Q E hr tk po h => ?_
    · obtain ⟨v, d, ws, rfl, _⟩ := h; rfl
    · obtain ⟨v, d, ws, rfl, hk, hd, hin, q⟩ := h
      obtain ⟨t, ty, kk⟩ := kit_k T hk
      have n1 := T.n_isinstance
      have m1 := T.m_List
      have c1 := T.c_List.cl
      have a1 := T.a_List_item
      cases hk with
      | @list a dx v k' hx hi =>
        obtain ⟨t2, ty2, kk2⟩ := kit_k T hi
        top_name
        refine kisi (.own _) ty kk.li ?_
        top_name
        refine kisi (.own _) ty2 kk2.li ?_
        have hnl : (k.tag == 6) = false := by
          cases k with
          | list _ => exact hin.elim
          | _ => rfl
        rw [hnl]
        top_name
        refine zcall ih hr (Nat.le_refl _) takesF rfl ?_
        top_name
        exact ⟨v, d, ws, rfl, hi, hd, by cases k <;> first | exact hin.elim | exact hin, q⟩
  | form s' =>
    refine gf_mk T.f_is_kind T.m_is_kind (fun _ _ _ _ _ _ us hl => match us, hl with | [_, _], _ => rfl) fun fd F => fn_mk (k := 2) F sc_is_kind (fun vs H Q E h => ?_) fun cd A outer s H vs Q E hr tk po h => ?_
    · obtain ⟨v, d, ws, rfl, _⟩ := h; rfl
    · obtain ⟨v, d, ws, rfl, hk, hd, hin, q⟩ := h
      obtain ⟨t, ty, kk⟩ := kit_k T hk
      have n1 := T.n_isinstance
      have n2 := T.n_str
      have m1 := T.m_List
      have m2 := T.m_Nested
      have c1 := T.c_Nested.cl
      have a1 := T.a_Nested_name
      have hu1 := Nat.lt_of_le_of_lt (Nat.add_le_add_left (show 1 ≤ 64 by decide) _) hr.units
      cases hk with
      | form hx =>
        top_name
        refine kisi (.own _) ty kk.li ?_
        top_name
        refine kisi (.own _) ty kk.ne ?_
        top_name
        obtain ⟨i, _, hv⟩ := wts_has hin
        refine odin (r := some (.int i)) hu1 (by have := DGet.k (k := .inr s') hd; rwa [hv] at this) ?_
        exact q _ (Evl.Ex.refl _)
  | upto n =>
    refine gf_mk T.f_is_kind T.m_is_kind (fun _ _ _ _ _ _ us hl => match us, hl with | [_, _], _ => rfl) fun fd F => fn_mk (k := 2) F sc_is_kind (fun vs H Q E h => ?_) fun cd A outer s H vs Q E hr tk po h => ?_
    · obtain ⟨v, d, ws, rfl, _⟩ := h; rfl
    · obtain ⟨v, d, ws, rfl, hk, hd, hin, q⟩ := h
      obtain ⟨t, ty, kk⟩ := kit_k T hk
      have n1 := T.n_isinstance
      have m1 := T.m_List
      have m2 := T.m_Nested
      have m3 := T.m_Upto
      have c1 := T.c_Upto.cl
      have a1 := T.a_Upto_most
      have g1 := T.g_MOST_NUMBER
      cases hk with
      | upto hx =>
        top_name
        refine kisi (.own _) ty kk.li ?_
        top_name
        refine kisi (.own _) ty kk.ne ?_
        top_name
        refine kisi (.own _) ty kk.up ?_
        top_name
        refine zcall (ok_is_among T) hr (by decide) takesF rfl ?_
        top_name
        exact ⟨_, _, _, true, rfl, asked_in hin.1 hin.2, q _ (Evl.Ex.refl _)⟩
  | text n =>
    refine gf_mk T.f_is_kind T.m_is_kind (fun _ _ _ _ _ _ us hl => match us, hl with | [_, _], _ => rfl) fun fd F => fn_mk (k := 2) F sc_is_kind (fun vs H Q E h => ?_) fun cd A outer s H vs Q E hr tk po h => ?_
    · obtain ⟨v, d, ws, rfl, _⟩ := h; rfl
    · obtain ⟨v, d, ws, rfl, hk, hd, hin, q⟩ := h
      obtain ⟨t, ty, kk⟩ := kit_k T hk
      have n1 := T.n_isinstance
      have m1 := T.m_List
      have m2 := T.m_Nested
      have m3 := T.m_Upto
      have m4 := T.m_Text
      have c1 := T.c_Text.cl
      have a1 := T.a_Text_most
      have g1 := T.g_MOST_SIGNS
      cases hk with
      | text hx =>
        top_name
        refine kisi (.own _) ty kk.li ?_
        top_name
        refine kisi (.own _) ty kk.ne ?_
        top_name
        refine kisi (.own _) ty kk.up ?_
        top_name
        refine kisi (.own _) ty kk.te ?_
        top_name
        refine zcall (ok_is_among T) hr (by decide) takesF rfl ?_
        top_name
        exact ⟨_, _, _, true, rfl, asked_in hin.1 hin.2, q _ (Evl.Ex.refl _)⟩
  | truth => exact is_kind_rest T rfl (.inl rfl)
  | count => exact is_kind_rest T rfl (.inr (.inl rfl))
  | whole => exact is_kind_rest T rfl (.inr (.inr rfl))
end

set_option maxRecDepth 100000
set_option maxHeartbeats 4000000
set_option pp.maxSteps 400
section
open PySem PySem.Spec PyProof.Rows L2 Z
open Evl (Ex)
variable {P : Program} {w : World} {K : PySem.W.Frag} {mg : Str → Option Value} {base : Heap}
/-! ### what is left out -/
def DV.suits : KD → DV → Prop
  | .truth, .bl _ => True
  | .count, .int i => 0 ≤ i ∧ i ≤ MOST
  | .whole, .int i => -HALF ≤ i ∧ i ≤ HALF - 1
  | .upto n, .int i => 0 ≤ i ∧ i ≤ n
  | .text n, .str s => s = "" ∨ (nameB s = true ∧ (s.length : Int) ≤ n)
  | _, _ => False
theorem letters_ok : ∀ c ∈ letters.cps.toList, c ≠ 37 ∧ signB c = true := by decide +kernel
theorem name_signs {s : Str} (h : nameB s = true) : s.length ≤ 12 ∧ (∀ c ∈ s.cps.toList, c ≠ 37) ∧ s.cps.toList.all signB = true := by
  unfold nameB at h
  rw [Bool.and_eq_true] at h
  have h2 : ∀ c ∈ s.cps.toList, c ∈ letters.cps.toList := fun c hc => of_decide_eq_true (List.all_eq_true.mp h.2 c hc)
  exact ⟨(of_decide_eq_true h.1).2, fun c hc => (letters_ok c (h2 c hc)).1, List.all_eq_true.mpr fun c hc => (letters_ok c (h2 c hc)).2⟩
theorem suit_of {H : Hp} {k : KD} {v : V} {d : DV} (hk : k.Ok) (h : DV.suits k d) (hv : DvAt H v d) : Suit K H k v true := by
  cases k with
  | truth => cases hv <;> first | exact h.elim | exact .tyes _
  | count => cases hv <;> first | exact h.elim | exact .count (asked_in h.1 h.2)
  | whole => cases hv <;> first | exact h.elim | exact .whole (asked_in h.1 h.2)
  | upto n => cases hv <;> first | exact h.elim | exact .upto (asked_in h.1 h.2)
  | text n =>
    cases hv with
    | str s =>
      have h : s = "" ∨ (nameB s = true ∧ (s.length : Int) ≤ n) := h
      have hk : 1 ≤ n ∧ n ≤ 100 := hk
      rcases h with rfl | ⟨h1, h2⟩
      · have := Suit.text (K := K) (H := H) (n := n) "" (by decide) (fun c hc => nomatch hc)
        rwa [show (decide (((("" : Str).length : Nat) : Int) ≤ n) && ("" : Str).cps.toList.all signB) = true from by rw [decide_eq_true (show ((("" : Str).length : Nat) : Int) ≤ n from by show ((0 : Nat) : Int) ≤ n; omega)]; rfl] at this
      · obtain ⟨a1, a2, a3⟩ := name_signs h1
        have := Suit.text (K := K) (H := H) (n := n) s (by omega) a2
        rwa [decide_eq_true h2, a3] at this
    | _ => exact h.elim
  | form s => cases hv <;> exact h.elim
  | list k => cases hv <;> exact h.elim
theorem bl_suits {k : KD} (hk : k.Ok) (hp : k.plain = true) : DV.suits k k.bl := by
  cases k with
  | truth => trivial
  | count => exact ⟨by decide, by decide⟩
  | whole => exact ⟨by decide, by decide⟩
  | upto n => have hk : 1 ≤ n ∧ n ≤ MOST := hk; exact ⟨by decide, by omega⟩
  | text n => exact .inl rfl
  | form s => cases hp
  | list k => cases hp
def spBk (K : PySem.W.Frag) : Sp := fun vs H Q _ => ∃ (kv v : V) (k : KD), vs = [kv, v] ∧ KI K H kv k ∧ k.Ok ∧ k.dep ≤ 1000 ∧ DvAt H v k.bl ∧ ∀ H', Ex H H' → Q (.bl true) H'
theorem ok_is_blank (T : Txt K mg) : Gf P w K mg base 5 "is_blank" [] (spBk K) := by
  refine gf_mk T.f_is_blank T.m_is_blank (fun _ _ _ _ _ _ us hl => match us, hl with | [_, _], _ => rfl) fun fd F => fn_mk F sc_is_blank (fun vs H Q E h => ?_) fun cd A outer s H vs Q E hr tk po h => ?_
  · obtain ⟨kv, v, k, rfl, _⟩ := h; rfl
  · obtain ⟨kv, v, k, rfl, hk, hok, hdp, hv, q⟩ := h
    obtain ⟨t, ty, kk⟩ := kit_k T hk
    obtain ⟨ka, kdx, kfs, rfl, hka, hkl⟩ := hk.ins
    have n1 := T.n_isinstance
    have n2 := T.n_list
    have m1 := T.m_List
    have m2 := T.m_Nested
    have kn := kk.ne
    have kl := kk.li
    have plain : k.plain = true → k.tag ≠ 5 → k.tag ≠ 6 → wB (cx P w K mg base N_is_blank "is_blank" (defScope s_is_blank) (He.fAd K ("is_blank", none)) cd A outer s H E) (defBody s_is_blank) { nx := fun _ H' => Q .non H', rt := Q } (start N_is_blank [.ref ka, v]) H := fun hp h5 h6 => by
      rw [show (k.tag == 5) = false from by simpa using h5] at kn
      rw [show (k.tag == 6) = false from by simpa using h6] at kl
      top_name
      refine kisi (.own _) ty kn ?_
      top_name
      refine kisi (.own _) ty kl ?_
      top_name
      refine zmeth hr tk ?_
      top_name
      refine ⟨ka, _, kdx, kfs, 3 + k.dep, [], _, rfl, hka, hkl "suits" (by decide +kernel), mf_suits T k hdp, ?_, ?_⟩
      · cases k <;> first | (show 3 + 0 ≤ _; decide) | cases hp
      top_name
      refine ⟨ka, v, true, rfl, hk, suit_of hok (bl_suits hok hp) hv, fun H1 e1 => ?_⟩
      top_name
      refine zmeth0 hr tk ?_
      top_name
      refine ⟨ka, _, kdx, kfs, 1, [], _, rfl, e1 _ _ hka, hkl "blank" (by decide +kernel), mf_blank T k, by decide, ka, rfl, ?_⟩
      cases k with
      | truth => cases hv; top_name; exact q _ e1
      | count => cases hv; top_name; exact q _ e1
      | whole => cases hv; top_name; exact q _ e1
      | upto n => cases hv; top_name; exact q _ e1
      | text n => cases hv; top_name; exact q _ e1
      | form _ => cases hp
      | list _ => cases hp
    cases k with
    | form z =>
      cases hv
      top_name
      refine kisi (.own _) ty kn ?_
      top_name
      exact q _ (Evl.Ex.refl _)
    | list k =>
      cases hv with
      | @list l h =>
        top_name
        refine kisi (.own _) ty kn ?_
        top_name
        refine kisi (.own _) ty kl ?_
        top_name
        rename_i e H1 he e1 hx1
        refine oeqNil hr (SqL.of (e1 _ _ h)) (SqL.of hx1) ?_
        exact q _ e1
    | truth => exact plain rfl (by decide) (by decide)
    | count => exact plain rfl (by decide) (by decide)
    | whole => exact plain rfl (by decide) (by decide)
    | upto n => exact plain rfl (show (3 : Nat) ≠ 5 by decide) (show (3 : Nat) ≠ 6 by decide)
    | text n => exact plain rfl (show (4 : Nat) ≠ 5 by decide) (show (4 : Nat) ≠ 6 by decide)
/-- what a field may leave out -/
def FD.dok (c : Bool) (fd : FD) : Prop := (fd.must = true → c = false) ∧ if fd.must = true ∨ c = true ∨ fd.kind.plain = false then fd.dflt = fd.kind.bl else DV.suits fd.kind fd.dflt
def spDf (K : PySem.W.Frag) : Sp := fun vs H Q _ => ∃ (a b dx : Addr) (fs : List (Str × V)) (c : Bool) (fd : FD), vs = [.ref a, .ref b] ∧ H a = some (.ins (He.ga K (fcls c)) dx fs) ∧ fs.lookup ("is_choice" : Str) = none ∧ FO K H b fd ∧ fd.kind.Ok ∧ fd.kind.dep ≤ 1 ∧ fd.dok c ∧ ∀ H', Ex H H' → Q (.bl true) H'
theorem ok_is_default (T : Txt K mg) : Gf P w K mg base 6 "is_default" [] (spDf K) := by
  refine gf_mk T.f_is_default T.m_is_default (fun _ _ _ _ _ _ us hl => match us, hl with | [_, _], _ => rfl) fun fd F => fn_mk F sc_is_default (fun vs H Q E h => ?_) fun cd A outer s H vs Q E hr tk po h => ?_
  · obtain ⟨a, b, dx, fs, c, fd, rfl, _⟩ := h; rfl
  · obtain ⟨a, b, dx, fs, c, ⟨mark, nm, k, must, dflt⟩, rfl, ha, hl, ⟨fdx, kv, dv, h1, hk, hd⟩, hok, hdp, ⟨hm, hdo⟩, q⟩ := h
    have hk : KI K H kv k := hk
    have hd : DvAt H dv dflt := hd
    have hok : k.Ok := hok
    have hdp : k.dep ≤ 1 := hdp
    have hm : must = true → c = false := hm
    have hdo : if must = true ∨ c = true ∨ k.plain = false then dflt = k.bl else DV.suits k dflt := hdo
    obtain ⟨t, ty, kk⟩ := kit_k T hk
    obtain ⟨ka, kdx, kfs, rfl, hka, hkl⟩ := hk.ins
    have n1 := T.n_isinstance
    have n2 := T.n_bool
    have m1 := T.m_Text
    have d1 := T.c_Field.cl
    have d2 := T.a_Field_must
    have d3 := T.a_Field_kind
    have d4 := T.a_Field_default
    have hms : fs.lookup ("is_choice" : Str) = none := hl
    refine bcons (sif (tcut false ?_ ?_))
    · top_name
      exact ⟨rfl, rfl⟩
    refine ifF (bnil (bcons (sif (tcut false ?_ ?_))))
    · cases must with
      | true =>
        have hc := hm rfl
        subst hc
        top_name
        refine zmeth0 hr tk ?_
        top_name
        exact ⟨a, _, dx, _, 1, [], _, rfl, ha, hms, mf_choice T false, by decide, a, rfl, _, rfl, rfl, rfl⟩
      | false =>
        top_name
        exact ⟨rfl, rfl⟩
    refine ifF (bnil (bcons (sif (tcut (must || c || !k.plain) ?_ ?_))))
    · cases must with
      | true =>
        top_name
        exact ⟨rfl, rfl⟩
      | false =>
        top_name
        refine zmeth0 hr tk ?_
        top_name
        refine ⟨a, _, dx, _, 1, [], _, rfl, ha, hms, mf_choice T c, by decide, a, rfl, ?_⟩
        cases c with
        | true =>
          top_name
          exact ⟨rfl, rfl⟩
        | false =>
          top_name
          refine zmeth0 hr tk ?_
          top_name
          refine ⟨ka, _, kdx, kfs, 1, [], _, rfl, hka, hkl "is_plain" (by decide +kernel), mf_plain T k, by decide, ka, rfl, ?_⟩
          exact ⟨_, rfl, rfl, rfl⟩
    cases hp : (must || c || !k.plain) with
    | true =>
      rw [if_pos (by simpa [or_assoc] using hp)] at hdo
      top_name
      refine zcall (ok_is_blank T) hr (by decide) takesF rfl ?_
      top_name
      exact ⟨_, _, k, rfl, hk, hok, by omega, by rw [← hdo]; exact hd, q⟩
    | false =>
      rw [if_neg (by intro z; have : (must || c || !k.plain) = true := by simpa [or_assoc] using z
                     rw [hp] at this; cases this)] at hdo
      have hkp : k.plain = true := by
        cases z : k.plain with
        | true => rfl
        | false => rw [z] at hp; simp at hp
      have suits : ∀ {H' : Hp} {Q' : VK}, Ex H H' → (∀ H'', Ex H' H'' → Q' (.bl true) H'') → spS K k [.ref ka, dv] H' Q' (fun _ _ _ => False) := fun {H' Q'} e z => ⟨ka, dv, true, rfl, hk.ex e, (suit_of hok hdo hd).ex e, z⟩
      have hkte := kk.te
      refine ifF (bnil (bcons (sif (tcut (k.tag == 4) ?_ ?_))))
      · top_name
        refine kisi (.own _) ty hkte ?_
        exact ⟨_, rfl, rfl, rfl⟩
      cases k with
      | text n =>
        cases hd with
        | str z =>
          have hz : z = "" ∨ (nameB z = true ∧ (z.length : Int) ≤ n) := hdo
          top_name
          · exact q _ (Evl.Ex.refl _)
          · rename_i e
            obtain ⟨hn, hzl⟩ := hz.resolve_left (fun y => e (congrArg V.str y))
            have hnl := (name_signs hn).1
            refine zcall (ok_name T) hr (by decide) takesF rfl ?_
            top_name
            refine ⟨_, _, rfl, .str _ (by omega), fun H2 e2 => ?_⟩
            rw [show nameO (some z) = true from hn]
            have h12 := e2 _ _ h1
            top_name
            refine zmeth hr takesF ?_
            top_name
            refine ⟨ka, _, kdx, kfs, 3, [], _, rfl, e2 _ _ hka, hkl "suits" (by decide +kernel), mf_suits T (.text n) (show (0 : Nat) ≤ 1000 by decide), by decide, ?_⟩
            top_name
            exact suits e2 fun H3 e3 => q _ (e2.trans e3)
        | _ => exact hdo.elim
      | truth =>
        top_name
        refine zmeth hr takesF ?_
        top_name
        refine ⟨ka, _, kdx, kfs, 3, [], _, rfl, hka, hkl "suits" (by decide +kernel), mf_suits T _ (by decide), by decide, ?_⟩
        top_name
        exact suits (Evl.Ex.refl _) q
      | count =>
        top_name
        refine zmeth hr takesF ?_
        top_name
        refine ⟨ka, _, kdx, kfs, 3, [], _, rfl, hka, hkl "suits" (by decide +kernel), mf_suits T _ (by decide), by decide, ?_⟩
        top_name
        exact suits (Evl.Ex.refl _) q
      | whole =>
        top_name
        refine zmeth hr takesF ?_
        top_name
        refine ⟨ka, _, kdx, kfs, 3, [], _, rfl, hka, hkl "suits" (by decide +kernel), mf_suits T _ (by decide), by decide, ?_⟩
        top_name
        exact suits (Evl.Ex.refl _) q
      | upto n =>
        top_name
        refine zmeth hr takesF ?_
        top_name
        refine ⟨ka, _, kdx, kfs, 3, [], _, rfl, hka, hkl "suits" (by decide +kernel), mf_suits T _ (show (0 : Nat) ≤ 1000 by decide), by decide, ?_⟩
        top_name
        exact suits (Evl.Ex.refl _) q
      | form _ => cases hkp
      | list _ => cases hkp
end

set_option maxRecDepth 100000
set_option maxHeartbeats 4000000
set_option pp.maxSteps 400
section
open PySem PySem.Spec PyProof.Rows L2 Z
open Evl (Ex)
variable {P : Program} {w : World} {K : PySem.W.Frag} {mg : Str → Option Value} {base : Heap}
local macro_rules | `(tactic| tb_rel) => `(tactic| first
  | ((with_reducible refine (?_ : wE _ (.Subscript _ (.Attribute _ _ _) _) _ _ _)); refine zdat (by first | assumption | omega) ?_)
  | fail)
/-! ### weights -/
def wOf (ws : List (Str × Int)) (s : Str) : Int := ((ws.find? fun p => decide (p.1 = s)).map (·.2)).getD 0
theorem wts_val : ∀ {ws : List (Str × Int)} {s : Str}, s ∈ ws.map (·.1) → valV (wtsK ws) (.inr s) = some (.int (wOf ws s))
  | p :: ws, s, h => by
    unfold wtsK wOf
    rw [List.map_cons]
    by_cases e : p.1 = s
    · rw [List.find?_cons_of_pos (p := fun q : Str × Int => decide (q.1 = s)) (by exact decide_eq_true e)]
      exact valV_pos (p := ((.inr p.1 : Key), V.int p.2)) (congrArg Sum.inr e)
    · rcases List.mem_cons.mp h with z | z
      · exact absurd z.symm e
      · rw [List.find?_cons_of_neg (p := fun q : Str × Int => decide (q.1 = s)) (by simpa using e), valV_neg (p := ((.inr p.1 : Key), V.int p.2)) (fun z => e (Sum.inr.inj z))]
        exact wts_val z
def KD.wt (ws : List (Str × Int)) : KD → Int
  | .form s => wOf ws s
  | _ => 1
def minI (ns : List Int) : Int := ns.min?.getD 0
theorem minI_eq {ns : List Int} {m : Int} (h : m ∈ ns) (hm : ∀ y, y ∈ ns → m ≤ y) : minI ns = m := by
  unfold minI
  rw [List.min?_eq_some_iff.mpr ⟨h, hm⟩]
  rfl
def FM.wt (ws : List (Str × Int)) (fm : FM) : Int := if fm.choice = true then 1 + minI (fm.fields.map (·.kind.wt ws)) else 1 + ((fm.fields.filter (·.must)).map (·.kind.wt ws)).sum
def KD.there (ws : List Str) : KD → Prop
  | .form s => s ∈ ws
  | _ => True
theorem KD.in_there {ws : List Str} {k : KD} (h : k.in_ ws) : k.there ws := by
  cases k <;> first | trivial | exact h
theorem ok_kweight (T : Txt K mg) : Gf P w K mg base 1 "kind_weight" [] (fun vs H Q _ => ∃ (kv : V) (d : Addr) (k : KD) (ws : List (Str × Int)), vs = [kv, .ref d] ∧ KI K H kv k ∧ H d = some (.dK (wtsK ws)) ∧ k.there (ws.map (·.1)) ∧ Q (.int (k.wt ws)) H) := by
  refine gf_mk T.f_kind_weight T.m_kind_weight (fun _ _ _ _ _ _ us hl => match us, hl with | [_, _], _ => rfl) fun fd F => fn_mk F sc_kind_weight (fun vs H Q E h => ?_) fun cd A outer s H vs Q E hr tk po h => ?_
  · obtain ⟨kv, d, k, ws, rfl, _⟩ := h; rfl
  · obtain ⟨kv, d, k, ws, rfl, hk, hd, hin, q⟩ := h
    obtain ⟨t, ty, kk⟩ := kit_k T hk
    have n1 := T.n_isinstance
    have m1 := T.m_Nested
    have hu1 := Nat.lt_of_le_of_lt (Nat.add_le_add_left (show 1 ≤ 64 by decide) _) hr.units
    have kn := kk.ne
    have rest : (k.tag == 5) = false → k.wt ws = 1 → wB (cx P w K mg base N_kind_weight "kind_weight" (defScope s_kind_weight) (He.fAd K ("kind_weight", none)) cd A outer s H E) (defBody s_kind_weight) { nx := fun _ H' => Q .non H', rt := Q } (start N_kind_weight [kv, .ref d]) H := fun h5 hw => by
      rw [h5] at kn
      rw [hw] at q
      top_name
      refine kisi (.own _) ty kn ?_
      top_name
      exact q
    cases hk with
    | @form _ _ s' hx =>
      have c1 := T.c_Nested.cl
      have a1 := T.a_Nested_name
      top_name
      refine kisi (.own _) ty kn ?_
      top_name
      exact ⟨d, _, rfl, by have := DGet.k (k := .inr s') hd; rwa [wts_val hin] at this, q⟩
    | truth _ => exact rest rfl rfl
    | count _ => exact rest rfl rfl
    | whole _ => exact rest rfl rfl
    | upto _ => exact rest rfl rfl
    | text _ => exact rest rfl rfl
    | list _ _ => exact rest rfl rfl
theorem filter_succ {α β : Type} {f : α → β} {p : α → Bool} {ks : List α} {j : Nat} {k : α} (h : ks[j]? = some k) : ((ks.take (j + 1)).filter p).map f = ((ks.take j).filter p).map f ++ (if p k = true then [f k] else []) := by
  rw [List.take_add_one, h]
  show ((ks.take j ++ [k]).filter p).map f = _
  rw [List.filter_append, List.map_append]
  congr 1
  cases hp : p k <;> simp [hp]
theorem mapI_succ {α : Type} {f : α → Int} {ks : List α} {j : Nat} {k : α} (h : ks[j]? = some k) : ((ks.take (j + 1)).map f).map V.int = ((ks.take j).map f).map V.int ++ [V.int (f k)] := by rw [take_map_succ h, List.map_append]; rfl
theorem filtI_succ {α : Type} {f : α → Int} {p : α → Bool} {ks : List α} {j : Nat} {k : α} (h : ks[j]? = some k) (hp : p k = true) : (((ks.take (j + 1)).filter p).map f).map V.int = (((ks.take j).filter p).map f).map V.int ++ [V.int (f k)] := by rw [filter_succ h, if_pos hp, List.map_append]; rfl
theorem filtI_no {α : Type} {f : α → Int} {p : α → Bool} {ks : List α} {j : Nat} {k : α} (h : ks[j]? = some k) (hp : p k = false) : (((ks.take (j + 1)).filter p).map f).map V.int = (((ks.take j).filter p).map f).map V.int := by rw [filter_succ h, hp, if_neg Bool.false_ne_true, List.append_nil]
def spFW (K : PySem.W.Frag) : Sp := fun vs H Q _ => ∃ (a d : Addr) (fm : FM) (ws : List (Str × Int)), vs = [.ref a, .ref d] ∧ RO K H a fm ∧ H d = some (.dK (wtsK ws)) ∧ fm.fields.length ≤ 1000 ∧ (∀ fd ∈ fm.fields, fd.kind.there (ws.map (·.1))) ∧ (fm.choice = true → 0 < fm.fields.length) ∧ ∀ H', Ex H H' → Q (.int (fm.wt ws)) H'
theorem ok_fweight (T : Txt K mg) : Gf P w K mg base 2 "form_weight" [] (spFW K) := by
  refine gf_mk T.f_form_weight T.m_form_weight (fun _ _ _ _ _ _ us hl => match us, hl with | [_, _], _ => rfl) fun fd F => fn_mk F sc_form_weight (fun vs H Q E h => ?_) fun cd A outer s H vs Q E hr tk po h => ?_
  · obtain ⟨a, d, fm, ws, rfl, _⟩ := h; rfl
  · obtain ⟨a, d, fm, wts, rfl, ⟨dx, l, g, ws, hx, hl, hF, hg⟩, hd, hz, hth, hch, q⟩ := h
    have nd := sc_form_weight.nd
    obtain ⟨c1, a1, a2, a3⟩ := clsF T fm.choice
    have d1 := T.c_Field.cl
    have d2 := T.a_Field_kind
    have d3 := T.a_Field_must
    have n1 := T.n_min
    have n2 := T.n_sum
    have hlen := hF.len
    have hms : List.lookup ("is_choice" : Str) [(("name" : Str), V.str fm.name), ("fields", .ref l), ("gone", .ref g)] = none := rfl
    refine bcons (sif (tcut fm.choice ?_ ?_))
    · top_name
      refine zmeth0 hr tk ?_
      top_name
      refine ⟨a, _, dx, _, 1, [], _, rfl, hx, hms, mf_choice T fm.choice, by decide, a, rfl, ?_⟩
      exact ⟨_, rfl, rfl, rfl⟩
    unfold FM.wt at q
    cases hc : fm.choice with
    | true =>
      rw [hc] at q
      rw [if_pos rfl] at q
      top_name
      refine zlc rfl nd [("field", 2)] (blkOk_by (N := N_form_weight) (sc := defScope s_form_weight) (by decide +kernel)) piL (tmL (xs := ws) (fun j => ((fm.fields.take j).map (·.kind.wt wts)).map V.int) rfl ?_)
      top_name
      refine ⟨SqL.of hl, fun j x H2 hx e2 => ?_, fun M H2 hM e2 hxM => ?_⟩
      · obtain ⟨b, fd, rfl, hj, hfo⟩ := hF.get hx
        have hjl := (List.getElem?_eq_some_iff.mp hj).1
        obtain ⟨fdx, kv, dv, h1, h2, h3⟩ := hfo.ex e2
        top_name
        refine zcall (ok_kweight T) hr (by decide) takesF rfl ?_
        top_name
        refine ⟨kv, d, fd.kind, wts, rfl, h2, e2 _ _ hd, hth fd (List.mem_of_getElem? hj), ?_⟩
        exact ⟨mapI_succ hj, by show (List.map _ _).length < _; rw [List.length_map, List.length_map, List.length_take, sizeLine_eq]; omega, Evl.Ex.refl _⟩
      · rw [hlen, List.take_length] at hxM
        top_name
        refine kminL rfl (SqL.of hxM) (by rw [List.length_map]; exact hch hc) fun m hm1 hm2 => ?_
        top_name
        rw [minI_eq hm1 hm2] at q
        exact q _ e2
    | false =>
      rw [hc] at q
      rw [if_neg Bool.false_ne_true] at q
      top_name
      refine zlc rfl nd [("field", 2)] (blkOk_by (N := N_form_weight) (sc := defScope s_form_weight) (by decide +kernel)) piL (tmL (xs := ws) (fun j => (((fm.fields.take j).filter (·.must)).map (·.kind.wt wts)).map V.int) rfl ?_)
      top_name
      refine ⟨SqL.of hl, fun j x H2 hx e2 => ?_, fun M H2 hM e2 hxM => ?_⟩
      · obtain ⟨b, fd, rfl, hj, hfo⟩ := hF.get hx
        have hjl := (List.getElem?_eq_some_iff.mp hj).1
        obtain ⟨fdx, kv, dv, h1, h2, h3⟩ := hfo.ex e2
        cases hmu : fd.must with
        | true =>
          rw [hmu] at h1
          top_name
          refine zcall (ok_kweight T) hr (by decide) takesF rfl ?_
          top_name
          refine ⟨kv, d, fd.kind, wts, rfl, h2, e2 _ _ hd, hth fd (List.mem_of_getElem? hj), ?_⟩
          refine ⟨filtI_succ (p := fun fd : FD => fd.must) hj hmu, ?_, Evl.Ex.refl _⟩
          have := List.length_filter_le (·.must) (fm.fields.take j)
          rw [List.length_take] at this
          show (List.map _ _).length < _
          rw [List.length_map, List.length_map, sizeLine_eq]
          omega
        | false =>
          rw [hmu] at h1
          top_name
          exact ⟨filtI_no (p := fun fd : FD => fd.must) hj hmu, Evl.Ex.refl _⟩
      · rw [hlen, List.take_length] at hxM
        top_name
        refine ksum rfl (SqL.of hxM) ?_
        top_name
        exact q _ e2
/-! ### what a form may be -/
structure FmOk (ws : List (Str × Int)) (fm : FM) : Prop where
  nm : nameB fm.name = true
  new : fm.name ∉ ws.map (·.1)
  nf : fm.fields.length ≤ 10
  ng : fm.gone.length ≤ 10
  ch : fm.choice = true → 0 < fm.fields.length
  fnm : ∀ fd ∈ fm.fields, nameB fd.name = true
  fnd : (fm.fields.map (·.name)).Nodup
  mks : ∀ n ∈ fm.fields.map (·.mark) ++ fm.gone, 1 ≤ n ∧ n ≤ 200
  mnd : (fm.fields.map (·.mark) ++ fm.gone).Nodup
  ki : ∀ fd ∈ fm.fields, fd.kind.in_ (ws.map (·.1)) ∧ fd.kind.Ok ∧ fd.kind.dep ≤ 1
  df : ∀ fd ∈ fm.fields, fd.dok fm.choice
  wt : fm.wt ws ≤ 100
theorem name_len {s : Str} (h : nameB s = true) : s.length ≤ 12 := (name_signs h).1
def spFa (K : PySem.W.Frag) : Sp := fun vs H Q _ => ∃ (a d : Addr) (fm : FM) (ws : List (Str × Int)), vs = [.ref a, .ref d] ∧ RO K H a fm ∧ H d = some (.dK (wtsK ws)) ∧ FmOk ws fm ∧ ∀ H', Ex H H' → Q .non H'
theorem ok_fault (T : Txt K mg) : Gf P w K mg base 7 "fault" [] (spFa K) := by
  refine gf_mk T.f_fault T.m_fault (fun _ _ _ _ _ _ us hl => match us, hl with | [_, _], _ => rfl) fun fd F => fn_mk F sc_fault (fun vs H Q E h => ?_) fun cd A outer s H vs Q E hr tk po h => ?_
  · obtain ⟨a, d, fm, ws, rfl, _⟩ := h; rfl
  · obtain ⟨a, d, fm, wts, rfl, hro, hd, ok, q⟩ := h
    have nd := sc_fault.nd
    obtain ⟨c1, a1, a2, a3⟩ := clsF T fm.choice
    have d1 := T.c_Field.cl
    have d2 := T.a_Field_kind
    have n1 := T.n_isinstance
    have n2 := T.n_all
    have m1 := T.m_Record
    have m2 := T.m_Choice
    have g1 := T.g_MOST_WEIGHT
    have hu1 := Nat.lt_of_le_of_lt (Nat.add_le_add_left (show 1 ≤ 64 by decide) _) hr.units
    obtain ⟨dx, l, g, ws, hx, hl, hF, hg⟩ := id hro
    have hlen := hF.len
    have hnf := ok.nf
    have hng := ok.ng
    have hty : ∃ t, TyX K H (.ref a) t ∧ PySem.W.kitAny K t [.ref (He.ga K "Record"), .ref (He.ga K "Choice")] = some true := by
      cases hc : fm.choice with
      | true =>
        rw [hc] at hx
        exact ⟨_, T.c_Choice.ty hx, by simp only [PySem.W.kitAny, T.k_Choice_Record, T.k_Choice_Choice]⟩
      | false =>
        rw [hc] at hx
        exact ⟨_, T.c_Record.ty hx, by simp only [PySem.W.kitAny, T.k_Record_Record, T.k_Record_Choice]⟩
    obtain ⟨ty, hty, hkt⟩ := hty
    refine bcons (sif (tcutE false ?_ fun H1 e1 => ?_))
    · top_name
      rename_i tp G1 htp g1 hxt
      refine kisiT hxt (.cons (.own _) (.cons (.own _) .nil)) (TyX.ex g1 hty) hkt ?_
      top_name
      exact ⟨rfl, g1⟩
    have hx1 := e1 _ _ hx
    refine ifF (bnil (bcons (sif (tcutE false ?_ fun H2 e2 => ?_))))
    · top_name
      refine zcall (ok_name T) hr (by decide) takesF rfl ?_
      top_name
      refine ⟨_, _, rfl, .str _ (by have := name_len ok.nm; omega), fun H3 e3 => ?_⟩
      rw [show nameO (some fm.name) = true from ok.nm]
      have hx3 := e3 _ _ hx1
      top_name
      refine odin (r := none) (by omega) (by have := DGet.k (k := .inr fm.name) (e3 _ _ (e1 _ _ hd)); rwa [wts_no ok.new] at this) ?_
      top_name
      exact ⟨rfl, e3⟩
    have e12 := e1.trans e2
    refine ifF (bnil (bcons (sif (tcut false ?_ ?_))))
    · top_name
      refine zcall (ok_many T) hr (by decide) takesF rfl ?_
      top_name
      exact ⟨a, fm, rfl, hro.ex e12, ok.nf, ok.ng, ok.ch, _, rfl, rfl, rfl⟩
    have hx2 := e12 _ _ hx
    refine ifF (bnil (bcons (sif (tcutE false ?_ fun H3 e3 => ?_))))
    · top_name
      refine zcall (ok_fields T) hr (by decide) takesF rfl ?_
      top_name
      exact ⟨l, ws, fm.fields, rfl, e12 _ _ hl, hF.ex e12, by omega, ok.fnm, ok.fnd, fun H3 e3 => ⟨_, rfl, rfl, e3⟩⟩
    have e13 := e12.trans e3
    refine ifF (bnil (bcons (sif (tcutE false ?_ fun H4 e4 => ?_))))
    · top_name
      refine zcall (ok_numbers T) hr (by decide) takesF rfl ?_
      top_name
      exact ⟨a, fm, rfl, hro.ex e13, by omega, by omega, ok.mks, ok.mnd, fun H3 e3 => ⟨_, rfl, rfl, e3⟩⟩
    have e14 := e13.trans e4
    have hx4 := e14 _ _ hx
    refine ifF (bnil (bcons (sif (tcutE false ?_ fun H5 e5 => ?_))))
    · top_name
      refine zlc rfl nd [("field", 2)] (blkOk_by (N := N_fault) (sc := defScope s_fault) (by decide +kernel)) piL (tmL (xs := ws) (fun j => (List.replicate j true).map V.bl) rfl ?_)
      top_name
      refine ⟨SqL.of (e14 _ _ hl), fun j x H5 hx e5 => ?_, fun M H5 hM e5 hxM => ?_⟩
      · obtain ⟨b, fd, rfl, hj, hfo⟩ := hF.get hx
        have hjl := (List.getElem?_eq_some_iff.mp hj).1
        obtain ⟨fdx, kv, dv, h1, h2, h3⟩ := hfo.ex (e14.trans e5)
        obtain ⟨k1, k2, k3⟩ := ok.ki fd (List.mem_of_getElem? hj)
        top_name
        refine zcall (ok_is_kind T fd.kind) hr (by omega) takesF rfl ?_
        top_name
        refine ⟨kv, d, wts, rfl, h2, e5 _ _ (e14 _ _ hd), k1, fun H6 e6 => ?_⟩
        exact ⟨rep_succ j, by show ((List.replicate j true).map V.bl).length < _; rw [List.length_map, List.length_replicate, sizeLine_eq]; omega, e6⟩
      · top_name
        refine kall rfl (SqL.of hxM) ?_
        rw [rep_true]
        top_name
        exact ⟨rfl, e5⟩
    have e15 := e14.trans e5
    have hx5 := e15 _ _ hx
    refine ifF (bnil (bcons (sif (tcutE false ?_ fun H6 e6 => ?_))))
    · top_name
      refine zlc rfl nd [("field", 2)] (blkOk_by (N := N_fault) (sc := defScope s_fault) (by decide +kernel)) piL (tmL (xs := ws) (fun j => (List.replicate j true).map V.bl) rfl ?_)
      top_name
      refine ⟨SqL.of (e15 _ _ hl), fun j x H6 hx' e6 => ?_, fun M H6 hM e6 hxM => ?_⟩
      · obtain ⟨b, fd, rfl, hj, hfo⟩ := hF.get hx'
        have hjl := (List.getElem?_eq_some_iff.mp hj).1
        obtain ⟨k1, k2, k3⟩ := ok.ki fd (List.mem_of_getElem? hj)
        top_name
        refine zcall (ok_is_default T) hr (by decide) takesF rfl ?_
        top_name
        refine ⟨a, b, dx, _, fm.choice, fd, rfl, e6 _ _ hx5, rfl, hfo.ex (e15.trans e6), k2, k3, ok.df fd (List.mem_of_getElem? hj), fun H7 e7 => ?_⟩
        exact ⟨rep_succ j, by show ((List.replicate j true).map V.bl).length < _; rw [List.length_map, List.length_replicate, sizeLine_eq]; omega, e7⟩
      · top_name
        refine kall rfl (SqL.of hxM) ?_
        rw [rep_true]
        top_name
        exact ⟨rfl, e6⟩
    have e16 := e15.trans e6
    refine ifF (bnil (bcons (sif (tcutE false ?_ fun H7 e7 => ?_))))
    · top_name
      refine zcall (ok_fweight T) hr (by decide) takesF rfl ?_
      top_name
      refine ⟨a, d, fm, wts, rfl, hro.ex e16, e16 _ _ hd, by omega, fun fd hfd => KD.in_there (ok.ki fd hfd).1, ok.ch, fun H7 e7 => ?_⟩
      top_name
      have := ok.wt
      exact ⟨decide_eq_false (by omega), e7⟩
    top_name
    exact q _ (e16.trans e7)
end

set_option maxRecDepth 100000
set_option maxHeartbeats 4000000
set_option pp.maxSteps 400
section
open PySem PySem.Spec PyProof.Rows L2 Z
open Evl (Ex)
variable {P : Program} {w : World} {K : PySem.W.Frag} {mg : Str → Option Value} {base : Heap}
local macro_rules | `(tactic| tb_rel) => `(tactic| first
  | ((with_reducible refine (?_ : wE _ (.Subscript (.Attribute _ _ _) (.Attribute _ _ _) _) _ _ _)); refine zdat (by first | assumption | omega) ?_)
  | ((with_reducible refine (?_ : wS _ (.Assign [.Subscript _ _ _] _ _) _ _ _)); refine sdput (by first | assumption | omega) ?_)
  | fail)
/-! ### forms, books, as they stand -/
def ROs (K : PySem.W.Frag) (H : Hp) (vs : List V) (fms : List FM) : Prop := ∃ zs : List (Addr × FM), vs = zs.map (fun z => V.ref z.1) ∧ fms = zs.map (fun z => z.2) ∧ ∀ z ∈ zs, RO K H z.1 z.2
theorem ROs.ex {H H' : Hp} (e : Ex H H') {vs : List V} {fms : List FM} (h : ROs K H vs fms) : ROs K H' vs fms := by
  obtain ⟨zs, h1, h2, h3⟩ := h
  exact ⟨zs, h1, h2, fun z hz => (h3 z hz).ex e⟩
theorem ROs.len {H : Hp} {vs : List V} {fms : List FM} (h : ROs K H vs fms) : vs.length = fms.length := by
  obtain ⟨zs, rfl, rfl, _⟩ := h
  rw [List.length_map, List.length_map]
theorem ROs.get {H : Hp} {vs : List V} {fms : List FM} {i : Nat} {v : V} (h : ROs K H vs fms) (hv : vs[i]? = some v) : ∃ a fm, v = .ref a ∧ fms[i]? = some fm ∧ RO K H a fm := by
  obtain ⟨zs, rfl, rfl, h3⟩ := h
  rw [List.getElem?_map] at hv
  cases z : zs[i]? with
  | none => rw [z] at hv; cases hv
  | some x =>
    rw [z] at hv
    exact ⟨x.1, x.2, (Option.some.inj hv).symm, by rw [List.getElem?_map, z]; rfl, h3 x (List.mem_of_getElem? z)⟩
theorem ROs.nil {H : Hp} : ROs K H [] [] := ⟨[], rfl, rfl, fun _ h => nomatch h⟩
theorem ROs.one {H : Hp} {vs : List V} {fms : List FM} {a : Addr} {fm : FM} (h : ROs K H vs fms) (g : RO K H a fm) : ROs K H (vs ++ [.ref a]) (fms ++ [fm]) := by
  obtain ⟨zs, rfl, rfl, h3⟩ := h
  refine ⟨zs ++ [(a, fm)], by rw [List.map_append]; rfl, by rw [List.map_append]; rfl, fun z hz => ?_⟩
  rcases List.mem_append.mp hz with hz | hz
  · exact h3 z hz
  · rw [List.mem_singleton.mp hz]; exact g
def wtsOf (fms : List FM) : List (Str × Int) := fms.foldl (fun ws fm => ws ++ [(fm.name, fm.wt ws)]) []
theorem wtsOf_succ {fms : List FM} {i : Nat} {fm : FM} (h : fms[i]? = some fm) : wtsOf (fms.take (i + 1)) = wtsOf (fms.take i) ++ [(fm.name, fm.wt (wtsOf (fms.take i)))] := by
  unfold wtsOf
  rw [List.take_add_one, h, List.foldl_append]
  rfl
theorem wtsOf_names (fms : List FM) : ∀ ws, (fms.foldl (fun ws fm => ws ++ [(fm.name, fm.wt ws)]) ws).map (·.1) = ws.map (·.1) ++ fms.map (·.name) := by
  induction fms with
  | nil => intro ws; simp
  | cons fm fms ih => intro ws; rw [List.foldl_cons, ih, List.map_append, List.append_assoc]; rfl
theorem wts_names (fms : List FM) : (wtsOf fms).map (·.1) = fms.map (·.name) := by unfold wtsOf; rw [wtsOf_names]; rfl
structure BookOk (fms : List FM) : Prop where
  lo : 1 ≤ fms.length
  hi : fms.length ≤ 8
  each : ∀ i fm, fms[i]? = some fm → FmOk (wtsOf (fms.take i)) fm
  last : ∀ fm, fms.getLast? = some fm → fm.choice = false
def insB (K : PySem.W.Frag) (dx l d : Addr) : HO := .ins (He.ga K "Book") dx [("forms", .ref l), ("weights", .ref d)]
structure BO (K : PySem.W.Frag) (H : Hp) (b : Addr) (fms : List FM) : Prop where
  at_ : ∃ dx l d us, H b = some (insB K dx l d) ∧ H l = some (.lst us) ∧ ROs K H us fms ∧ H d = some (.dK (wtsK (wtsOf fms)))
theorem BO.ex {H H' : Hp} (e : Ex H H') {b : Addr} {fms : List FM} (h : BO K H b fms) : BO K H' b fms := by
  obtain ⟨dx, l, d, us, h1, h2, h3, h4⟩ := h
  exact ⟨dx, l, d, us, e _ _ h1, e _ _ h2, h3.ex e, e _ _ h4⟩
theorem wtsK_put {ws : List (Str × Int)} {s : Str} {i : Int} (h : s ∉ ws.map (·.1)) : putK (wtsK ws) (.inr s) (.int i) = wtsK (ws ++ [(s, i)]) := by
  rw [putK_new _ (wts_no h)]
  unfold wtsK
  rw [List.map_append]
  rfl
theorem atI_last {α : Type} {xs : List α} {x : α} (h : xs.getLast? = some x) : atI xs (-1) = some x := by
  rw [List.getLast?_eq_getElem?] at h
  have hl := (List.getElem?_eq_some_iff.mp h).1
  unfold atI ixN
  rw [if_neg (by omega), if_pos (by omega)]
  show xs[((-1 : Int) + (xs.length : Int)).toNat]? = some x
  rw [show ((-1 : Int) + (xs.length : Int)).toNat = xs.length - 1 from by omega]
  exact h
def spBI (K : PySem.W.Frag) : Sp := fun vs H Q _ => ∃ (a dx l : Addr) (us : List V) (fms : List FM), vs = [.ref a, .ref l] ∧ H a = some (.ins (He.ga K "Book") dx []) ∧ H l = some (.lst us) ∧ ROs K (del H a) us fms ∧ BookOk fms ∧
  ∀ H' l' d, Eb a H H' → H l' = none → H d = none → H' a = some (insB K dx l' d) → H' l' = some (.lst us) → H' d = some (.dK (wtsK (wtsOf fms))) → Q .non H'
theorem fi_Book (T : Txt K mg) {fd : FuncData} (F : FunD K "__init__" "Book.__init__" (defArgs s_Book_init) (defBody s_Book_init) (defScope s_Book_init) [] [] (He.fAd K ("Book", some "__init__")) fd) : FnOk P w K mg base (L2N.CX P w) 8 (He.fAd K ("Book", some "__init__")) fd ["self", "forms"] (spBI K) := by
  refine fn_mk F sc_Book_init (fun vs H Q E h => ?_) fun cd A outer s0 H vs Q E hr tk po h => ?_
  · obtain ⟨a, dx, l, us, fms, rfl, _⟩ := h; rfl
  · obtain ⟨a, dx, l, us, fms, rfl, hx, hl, hF, ok, q⟩ := h
    have nd := sc_Book_init.nd
    have c1 := T.c_Book.cl
    have a1 := T.a_Book_forms
    have a2 := T.a_Book_weights
    have n1 := T.n_isinstance
    have n2 := T.n_list
    have n3 := T.n_len
    have n4 := T.n_enumerate
    have g1 := T.g_MOST_FORMS
    have hu1 := Nat.lt_of_le_of_lt (Nat.add_le_add_left (show 1 ≤ 64 by decide) _) hr.units
    have hlen := hF.len
    have hlo := ok.lo
    have hhi := ok.hi
    have nla : l ≠ a := fun z => by rw [z, hx] at hl; cases hl
    refine bcons (sif (tcut false ?_ ?_))
    · top_name
      all_goals first | omega | exact ⟨by rw [decide_eq_true (by omega)]; rfl, rfl⟩
    refine ifF (bnil ?_)
    refine bcut (fun σ' H' => Eb a H H' ∧ ∃ l', H l' = none ∧ H' a = some (.ins (He.ga K "Book") dx [("forms", .ref l')]) ∧ H' l' = some (.lst us) ∧ σ' = [some (.ref a), some (.ref l), none, none, none]) ?_ ?_
    · top_name
      rename_i l' H1 hl0 e1 hx1
      refine ⟨a, _, dx, [], rfl, e1 _ _ hx, c1, a1, by decide, ?_⟩
      have nl : l' ≠ a := fun z => by rw [z, hx] at hl0; cases hl0
      exact ⟨(Eb.of e1).trans Eb.upd, l', hl0, upd_same, (upd_ne nl).trans hx1, rfl⟩
    rintro _ H1 ⟨e1, l', hl0, hx1, hl1, rfl⟩
    refine bcut (fun σ' H' => Eb a H H' ∧ ∃ d, H1 d = none ∧ H d = none ∧ H' a = some (insB K dx l' d) ∧ H' l' = some (.lst us) ∧ H' d = some (.dK []) ∧ σ' = [some (.ref a), some (.ref l), none, none, none]) ?_ ?_
    · top_name
      rename_i d H2 hd0 e2 hx2
      refine ⟨a, _, dx, _, rfl, e2 _ _ hx1, c1, a2, by show 1 < 1000; decide, ?_⟩
      have nd' : d ≠ a := fun z => by rw [z, hx1] at hd0; cases hd0
      have nl : l' ≠ a := fun z => by rw [z, hx] at hl0; cases hl0
      refine ⟨(e1.trans (Eb.of e2)).trans Eb.upd, d, hd0, ?_, upd_same, (upd_ne nl).trans (e2 _ _ hl1), (upd_ne nd').trans hx2, rfl⟩
      cases z : H d with
      | none => rfl
      | some o => rw [e1 _ _ nd' z] at hd0; cases hd0
    rintro _ H2 ⟨e2, d, hd1, hd0, hx2, hl2, hd2, rfl⟩
    have nda : d ≠ a := fun z => by rw [z, hx] at hd0; cases hd0
    have nla' : l' ≠ a := fun z => by rw [z, hx] at hl0; cases hl0
    have ndl : d ≠ l' := fun z => by rw [z, hl1] at hd1; cases hd1
    have up : ∀ {H' : Hp}, Eb a H H' → Ex (del H a) H' := fun e b o z => by
      have n1 : b ≠ a := fun y => by rw [y, del_same] at z; cases z
      rw [del_ne n1] at z
      exact e _ _ n1 z
    refine bcut (fun σ' H' => (Eb a H H' ∧ H' a = some (insB K dx l' d) ∧ H' l' = some (.lst us) ∧ H' d = some (.dK (wtsK (wtsOf fms)))) ∧ ∃ r1 r2 r3, σ' = [some (.ref a), some (.ref l), r1, r2, r3]) ?_ ?_
    · refine lforEn n4 po rfl rfl ?_
      unfold insB at hx2
      top_name
      refine ⟨l', us, rfl, ⟨SqL.of hl2, trivial⟩, fun i σ' H' => (Eb a H H' ∧ H' a = some (insB K dx l' d) ∧ H' l' = some (.lst us) ∧ H' d = some (.dK (wtsK (wtsOf (fms.take i))))) ∧ ∃ r1 r2 r3, σ' = [some (.ref a), some (.ref l), r1, r2, r3], ⟨⟨e2, hx2, hl2, hd2⟩, none, none, none, rfl⟩, fun i σ' H' _ v => SqL.of v.1.2.2.1, fun i x σ' H3 TT H4 hxi hv hTT e34 hT4 => ?_, fun σ' H' hv => ?_⟩
      · obtain ⟨⟨e3, hx3, hl3, hd3⟩, r1, r2, r3, rfl⟩ := hv
        obtain ⟨b, fm, rfl, hj, hro⟩ := hF.get hxi
        have okf := ok.each i fm hj
        have hro4 := (hro.ex (up e3)).ex e34
        have e4 : Eb a H H4 := e3.trans (Eb.of e34)
        have hx4 := e34 _ _ hx3
        have hl4 := e34 _ _ hl3
        have hd4 := e34 _ _ hd3
        top_name
        refine vcut (fun v H' => v = .non ∧ Ex H4 H') ?_ ?_
        · unfold insB at hx4
          refine zcall (ok_fault T) hr (by decide) takesF rfl ?_
          top_name
          refine ⟨b, d, fm, _, rfl, hro4, hd4, okf, fun H5 e5 => ?_⟩
          exact ⟨rfl, e5⟩
        rintro _ H5 ⟨rfl, e45⟩
        have hx5 := e45 _ _ hx4
        have hl5 := e45 _ _ hl4
        have hd5 := e45 _ _ hd4
        have hro5 := hro4.ex e45
        have e5 : Eb a H H5 := e4.trans (Eb.of e45)
        refine bcons (sif (tcut false ?_ ?_))
        · top_name
          exact ⟨rfl, rfl⟩
        refine ifF (bnil ?_)
        unfold insB at hx5
        obtain ⟨fdx, fl, fg, fws, hb1, hb2, hb3, hb4⟩ := id hro5
        obtain ⟨f1, b1, b2, b3⟩ := clsF T fm.choice
        top_name
        refine zcall (ok_fweight T) hr (by decide) takesF rfl ?_
        top_name
        have := okf.nf
        refine ⟨b, d, fm, _, rfl, hro5, hd5, by omega, fun fd hfd => KD.in_there (okf.ki fd hfd).1, okf.ch, fun H6 e56 => ?_⟩
        have hx6 := e56 _ _ hx5
        have hb6 := e56 _ _ hb1
        have hd6 := e56 _ _ hd5
        top_name
        refine ⟨d, _, rfl, DPut.k (k := .inr fm.name) hd6 (by unfold wtsK; rw [List.length_map, ← List.length_map (f := (·.1)), wts_names, List.length_map, List.length_take, sizeLine_eq]; omega), ?_⟩
        rw [wtsK_put okf.new, ← wtsOf_succ hj]
        (repeat refine bnil ?_)
        refine ⟨⟨fun x o n z => ?_, (upd_ne nda.symm).trans hx6, (upd_ne ndl.symm).trans (e56 _ _ hl5), upd_same⟩, _, _, _, rfl⟩
        rw [upd_ne (fun y => by rw [y, hd0] at z; cases z)]
        exact (e5.trans (Eb.of e56)) _ _ n z
      · obtain ⟨hv, r⟩ := hv
        rw [hlen, List.take_length] at hv
        exact ⟨hv, r⟩
    rintro _ H3 ⟨⟨e3, hx3, hl3, hd3⟩, r1, r2, r3, rfl⟩
    have hx3' := hx3
    unfold insB at hx3'
    obtain ⟨fm, hfm⟩ : ∃ fm, fms.getLast? = some fm := by
      cases z : fms.getLast? with
      | none => rw [List.getLast?_eq_none_iff] at z; rw [z] at hlo; exact absurd hlo (by decide)
      | some fm => exact ⟨fm, rfl⟩
    obtain ⟨x, hxl⟩ : ∃ x, us.getLast? = some x := by
      cases z : us.getLast? with
      | none => rw [List.getLast?_eq_none_iff] at z; rw [z] at hlen; simp at hlen; omega
      | some x => exact ⟨x, rfl⟩
    have hx9 := hxl
    rw [List.getLast?_eq_getElem?] at hx9
    obtain ⟨b, fm', rfl, hj, hro⟩ := hF.get hx9
    have : fm' = fm := by
      rw [List.getLast?_eq_getElem?, ← hlen, hj] at hfm
      exact Option.some.inj hfm
    subst this
    obtain ⟨fdx, fl, fg, fws, hb1, hb2, hb3, hb4⟩ := hro.ex (up e3)
    refine bcons (sif (tcut false ?_ ?_))
    · top_name
      refine zmeth0 hr tk ?_
      top_name
      refine ixL (SqL.of hl3) (atI_last hxl) ?_
      refine ⟨b, _, fdx, _, 1, [], _, rfl, hb1, rfl, mf_choice T fm'.choice, by decide, b, rfl, ?_⟩
      rw [ok.last _ hfm]
      exact ⟨_, rfl, rfl, rfl⟩
    refine ifF (bnil (bnil ?_))
    exact q H3 l' d e3 hl0 hd0 hx3 hl3 hd3
theorem nf_Book (T : Txt K mg) : Nf P w K mg base 8 "Book" (He.ga K "Book") [] (spBI K) := nf_mk T.f_Book_init T.m_Book T.mk_Book (fun _ _ _ _ _ _ us hl => match us, hl with | [_, _], _ => rfl) fun fd F => fi_Book T F
/-- Book(..) -/
theorem book_to {H F : Hp} {a dx l : Addr} {us : List V} {fms : List FM} {Q : VK} {E : XK} (ha : H a = none) (hd : H dx = none) (hl : H l = some (.lst us)) (eF : Ex F H) (hF : ROs K F us fms) (ok : BookOk fms)
    (q : ∀ H' dx l' d, Ex H H' → H l' = none → H d = none → H' a = some (insB K dx l' d) → H' l' = some (.lst us) → H' d = some (.dK (wtsK (wtsOf fms))) → Q (.ref a) H') : spBI K [.ref a, .ref l] (upd (upd H dx (.own a)) a (.ins (He.ga K "Book") dx [])) (fun v H2 => v = .non ∧ Q (.ref a) H2) E := by
  have e0 : Ex H (upd (upd H dx (.own a)) a (.ins (He.ga K "Book") dx [])) := own_ex ha hd
  have ea : Ex F (del (upd (upd H dx (.own a)) a (.ins (He.ga K "Book") dx [])) a) := fun x o z => by
    have z := eF _ _ z
    have n1 : x ≠ a := fun y => by rw [y, ha] at z; cases z
    rw [del_ne n1]
    exact e0 _ _ z
  refine ⟨a, dx, l, us, fms, rfl, upd_same, e0 _ _ hl, hF.ex ea, ok, fun H' l' d eb hl' hd' h1 h2 h3 => ⟨rfl, ?_⟩⟩
  have e1 : Ex H H' := fun x o z => by
    have n1 : x ≠ a := fun y => by rw [y, ha] at z; cases z
    exact eb _ _ n1 (e0 _ _ z)
  exact q H' dx l' d e1 (Evl.fresh_back e0 hl') (Evl.fresh_back e0 hd') h1 h2 h3
/-! ### a book's methods -/
def FoundM (K : PySem.W.Frag) (H : Hp) (Q : VK) (fms : List FM) (p : FM → Bool) : Prop := match fms.find? p with
  | some fm => ∀ b, RO K H b fm → Q (.ref b) H
  | none => Q .non H
theorem findM_take {α : Type} {p : α → Bool} {fds : List α} {i : Nat} {fd : α} (h : fds[i]? = some fd) (hp : p fd = true) (hn : ∀ x ∈ fds.take i, p x = false) : fds.find? p = some fd := by
  obtain ⟨hl, rfl⟩ := List.getElem?_eq_some_iff.mp h
  have z : (fds.take i ++ fds.drop i).find? p = some fds[i] := by
    rw [List.find?_append, List.find?_eq_none.mpr (fun x hx => by rw [hn x hx]; exact Bool.false_ne_true), List.drop_eq_getElem_cons hl, List.find?_cons_of_pos hp]
    rfl
  rwa [List.take_append_drop] at z
theorem takeM_no {α : Type} {p : α → Bool} {fds : List α} {i : Nat} {fd : α} (h : fds[i]? = some fd) (hp : p fd = false) (hn : ∀ x ∈ fds.take i, p x = false) : ∀ x ∈ fds.take (i + 1), p x = false := by
  rw [List.take_add_one, h]
  intro x hx
  rcases List.mem_append.mp hx with hx | hx
  · exact hn x hx
  · have hx : x ∈ [fd] := hx
    rw [List.mem_singleton.mp hx]; exact hp
theorem findM_none {α : Type} {p : α → Bool} {fds : List α} (hn : ∀ x ∈ fds, p x = false) : fds.find? p = none := List.find?_eq_none.mpr fun x hx => by rw [hn x hx]; exact Bool.false_ne_true
def foundM (s : Option Str) : FM → Bool := fun fm => match s with
  | some s => decide (fm.name = s)
  | none => false
def spFo (K : PySem.W.Frag) : Sp := fun vs H Q _ => ∃ (a : Addr) (u : V) (o : Option Str) (fms : List FM), vs = [.ref a, u] ∧ TxtOr K H u o ∧ BO K H a fms ∧ FoundM K H Q fms (foundM o)
theorem mf_form_of (T : Txt K mg) : Mf P w K mg base 1 (He.ga K "Book") "form_of" [] (spFo K) := by
  refine mf_mk T.f_Book_form_of T.c_Book.cl T.h_Book_form_of (fun _ _ _ _ _ _ us hl => match us, hl with | [_, _], _ => rfl) fun fd F => fn_mk F sc_Book_form_of (fun vs H Q E h => ?_) fun cd A outer s H vs Q E hr tk po h => ?_
  · obtain ⟨a, u, o, fms, rfl, _⟩ := h; rfl
  · obtain ⟨a, u, o, fms, rfl, hu, ⟨dx, l, d, us, hx, hl, hF, hd⟩, q⟩ := h
    have nd := sc_Book_form_of.nd
    have c1 := T.c_Book.cl
    have a1 := T.a_Book_forms
    have n1 := T.n_isinstance
    have n2 := T.n_str
    have hlen := hF.len
    unfold insB at hx
    refine bcons (lforL (xs := us) po rfl (fun i σ' H' => H = H' ∧ (∀ x ∈ fms.take i, foundM o x = false) ∧ ∃ r, σ' = [some (.ref a), some u, r]) ?_)
    top_name
    refine ⟨SqL.of hl, ⟨rfl, (fun _ h => by simp at h), none, rfl⟩, fun i σ' H' _ ⟨e, _⟩ => by rw [← e]; exact SqL.of hl, fun i x σ' H' hx hv => ?_, fun σ' H' hv => ?_⟩
    · obtain ⟨rfl, hn, r, rfl⟩ := hv
      obtain ⟨b, fm, rfl, hj, hfo⟩ := hF.get hx
      obtain ⟨fdx, fl, fg, fws, h1, h2, h3, h4⟩ := id hfo
      obtain ⟨f1, b1, b2, b3⟩ := clsF T fm.choice
      cases hu with
      | str z hz =>
        top_name
        · rename_i hq
          have hq := V.str.inj hq
          have := findM_take (p := foundM (some z)) hj (decide_eq_true hq) hn
          unfold FoundM at q
          rw [this] at q
          exact q b hfo
        · rename_i hq
          exact ⟨rfl, takeM_no (p := foundM (some z)) hj (decide_eq_false fun z => hq (congrArg V.str z)) hn, _, rfl⟩
      | odd ty hk =>
        top_name
        exact ⟨rfl, takeM_no (p := foundM none) hj rfl hn, _, rfl⟩
    · obtain ⟨rfl, hn, r, rfl⟩ := hv
      rw [hlen, List.take_length] at hn
      have := findM_none (p := foundM o) hn
      unfold FoundM at q
      rw [this] at q
      top_name
      exact q
def spHd (K : PySem.W.Frag) : Sp := fun vs H Q _ => ∃ (a : Addr) (fms : List FM) (fm : FM), vs = [.ref a] ∧ BO K H a fms ∧ fms.getLast? = some fm ∧ ∀ b, RO K H b fm → Q (.ref b) H
theorem ROs.last {H : Hp} {vs : List V} {fms : List FM} {fm : FM} (h : ROs K H vs fms) (hl : fms.getLast? = some fm) : ∃ b, vs.getLast? = some (.ref b) ∧ RO K H b fm := by
  obtain ⟨zs, rfl, rfl, h3⟩ := h
  rw [List.getLast?_map] at hl ⊢
  cases z : zs.getLast? with
  | none => rw [z] at hl; cases hl
  | some y =>
    rw [z] at hl
    have : y.2 = fm := Option.some.inj hl
    exact ⟨y.1, rfl, by rw [← this]; exact h3 y (List.mem_of_getLast? z)⟩
theorem mf_head (T : Txt K mg) : Mf P w K mg base 1 (He.ga K "Book") "head" [] (spHd K) := by
  refine mf_mk T.f_Book_head T.c_Book.cl T.h_Book_head (fun _ _ _ _ _ _ us hl => match us, hl with | [_], _ => rfl) fun fd F => fn_mk F sc_Book_head (fun vs H Q E h => ?_) fun cd A outer s H vs Q E hr tk po h => ?_
  · obtain ⟨a, fms, fm, rfl, _⟩ := h; rfl
  · obtain ⟨a, fms, fm, rfl, ⟨dx, l, d, us, hx, hl, hF, hd⟩, hfm, q⟩ := h
    have c1 := T.c_Book.cl
    have a1 := T.a_Book_forms
    unfold insB at hx
    obtain ⟨b, hb1, hb2⟩ := hF.last hfm
    top_name
    refine ixL (SqL.of hl) (atI_last hb1) ?_
    exact q b hb2
theorem ok_weight (T : Txt K mg) : Gf P w K mg base 1 "weight" [] (fun vs H Q _ => ∃ (a b : Addr) (fms : List FM) (fm : FM), vs = [.ref a, .ref b] ∧ BO K H a fms ∧ RO K H b fm ∧ fm.name ∈ fms.map (·.name) ∧ Q (.int (wOf (wtsOf fms) fm.name)) H) := by
  refine gf_mk T.f_weight T.m_weight (fun _ _ _ _ _ _ us hl => match us, hl with | [_, _], _ => rfl) fun fd F => fn_mk F sc_weight (fun vs H Q E h => ?_) fun cd A outer s H vs Q E hr tk po h => ?_
  · obtain ⟨a, b, fms, fm, rfl, _⟩ := h; rfl
  · obtain ⟨a, b, fms, fm, rfl, ⟨dx, l, d, us, hx, hl, hF, hd⟩, ⟨fdx, fl, fg, fws, h1, h2, h3, h4⟩, hin, q⟩ := h
    have c1 := T.c_Book.cl
    have a1 := T.a_Book_weights
    obtain ⟨f1, b1, b2, b3⟩ := clsF T fm.choice
    have hu1 := Nat.lt_of_le_of_lt (Nat.add_le_add_left (show 1 ≤ 64 by decide) _) hr.units
    unfold insB at hx
    top_name
    exact ⟨d, _, rfl, by have := DGet.k (k := .inr fm.name) hd; rwa [wts_val (by rw [wts_names]; exact hin)] at this, q⟩
end

set_option maxRecDepth 100000
set_option maxHeartbeats 4000000
set_option pp.maxSteps 400
section
open PySem PySem.Spec PyProof.Rows L2 Z
open Evl (Ex)
variable {P : Program} {w : World} {K : PySem.W.Frag} {mg : Str → Option Value} {base : Heap}
local macro_rules | `(tactic| tb_rel) => `(tactic| first
  | ((with_reducible refine (?_ : wE _ (.Call (.Attribute _ "append" _) _ _ _) _ _ _)); refine zapp ?_)
  | ((with_reducible refine (?_ : wE _ (.Call (.Attribute _ "extend" _) _ _ _) _ _ _)); refine zext ?_)
  | ((with_reducible refine (?_ : wE _ (.Call (.Attribute _ "join" _) _ _ _) _ _ _)); refine zjoin ?_)
  | fail)
/-! ### the lines of a book, plainly -/
def DV.word : DV → Str
  | .bl b => if b = true then "yes" else "no"
  | .int i => toString i
  | .str s => s
  | _ => ""
def neD : DV → DV → Bool
  | .bl a, .bl b => !decide (a = b)
  | .int a, .int b => !decide (a = b)
  | .str a, .str b => !decide (a = b)
  | _, _ => false
def FD.told (fd : FD) : Bool := fd.kind.plain && neD fd.dflt fd.kind.bl
def FD.tail (fd : FD) : List Str := if fd.must = true then ["must"] else if fd.told = true then ["=", fd.dflt.word] else []
def FD.head (fd : FD) : List Str := [(toString fd.mark : Str), fd.name] ++ fd.kind.words
def FD.words (fd : FD) : List Str := fd.head ++ fd.tail
def FD.line (fd : FD) : Str := Txt.join " " fd.words
def goneLine (ns : List Int) : Str := Txt.join " " ("gone" :: ns.map fun n => (toString n : Str))
def goneLines (ns : List Int) : List Str := if ns.isEmpty = true then [] else [goneLine ns]
def FM.line (fm : FM) : Str := fword fm.choice ++ " " ++ fm.name
def FM.lines (fm : FM) : List Str := fm.line :: (fm.fields.map FD.line ++ goneLines fm.gone)
def bookLines (fms : List FM) : List Str := (fms.map FM.lines).flatten
def DV.small : DV → Prop
  | .int i => i.natAbs < 2 ^ 256
  | .bl _ => True
  | .str s => s.length ≤ 100
  | _ => False
theorem log_small {n : Int} (h : n.natAbs < 2 ^ 256) : n.natAbs.log2 < 1920 := by
  by_cases h0 : n.natAbs = 0
  · rw [h0]; decide
  · exact (Nat.log2_lt h0).mpr (Nat.lt_of_lt_of_le h (Nat.pow_le_pow_right (by decide) (by decide)))
theorem ok_dword (T : Txt K mg) : Gf P w K mg base 2 "default_word" [] (fun vs H Q _ => ∃ (b : Addr) (fd : FD), vs = [.ref b] ∧ FO K H b fd ∧ fd.dflt.small ∧ ∀ H', Ex H H' → Q (.str fd.dflt.word) H') := by
  refine gf_mk T.f_default_word T.m_default_word (fun _ _ _ _ _ _ us hl => match us, hl with | [_], _ => rfl) fun fd F => fn_mk F sc_default_word (fun vs H Q E h => ?_) fun cd A outer s H vs Q E hr tk po h => ?_
  · obtain ⟨b, fd, rfl, _⟩ := h; rfl
  · obtain ⟨b, ⟨mark, nm, k, must, dflt⟩, rfl, ⟨fdx, kv, dv, h1, h2, h3⟩, hs, q⟩ := h
    have h3 : DvAt H dv dflt := h3
    have hs : dflt.small := hs
    have q : ∀ H', Ex H H' → Q (.str dflt.word) H' := q
    have n1 := T.n_isinstance
    have n2 := T.n_bool
    have n3 := T.n_str
    have n4 := T.n_int
    have d1 := T.c_Field.cl
    have d2 := T.a_Field_default
    cases h3 with
    | bl z =>
      top_name
      rename_i p H1 hp e1 hx1
      have h11 := e1 _ _ h1
      top_name
      refine kintB ?_
      cases z with
      | true => exact ixL (SqL.of hx1) rfl (q _ e1)
      | false => exact ixL (SqL.of hx1) rfl (q _ e1)
    | int i =>
      top_name
      refine zcall (ok_ntext T) hr (by decide) takesF rfl ?_
      top_name
      exact ⟨log_small hs, q _ (Evl.Ex.refl _)⟩
    | str s =>
      top_name
      exact q _ (Evl.Ex.refl _)
    | none => exact hs.elim
    | list _ => exact hs.elim
/-- a field that may be in a book -/
structure FdOk (fd : FD) : Prop where
  nm : nameB fd.name = true
  mks : 1 ≤ fd.mark ∧ fd.mark ≤ 200
  ki : fd.kind.Ok
  dep : fd.kind.dep ≤ 1
  df : fd.kind.plain = true → DV.suits fd.kind fd.dflt
theorem dok_suits {c : Bool} {fd : FD} (h : fd.dok c) (hk : fd.kind.Ok) (hp : fd.kind.plain = true) : DV.suits fd.kind fd.dflt := by
  have h2 := h.2
  split at h2
  · rw [h2]; exact bl_suits hk hp
  · exact h2
theorem FmOk.fd {ws : List (Str × Int)} {fm : FM} (h : FmOk ws fm) {fd : FD} (hf : fd ∈ fm.fields) : FdOk fd where
  nm := h.fnm fd hf
  mks := h.mks _ (List.mem_append_left _ (List.mem_map.mpr ⟨fd, hf, rfl⟩))
  ki := (h.ki fd hf).2.1
  dep := (h.ki fd hf).2.2
  df := dok_suits (h.df fd hf) (h.ki fd hf).2.1
theorem most_small {n : Int} (h : 0 ≤ n ∧ n ≤ MOST) : n.natAbs < 2 ^ 256 := by
  have : MOST = 2 ^ 256 - 1 := by decide +kernel
  omega
theorem half_small {n : Int} (h : -HALF ≤ n ∧ n ≤ HALF - 1) : n.natAbs < 2 ^ 256 := by
  have : HALF = 2 ^ 255 := by decide +kernel
  omega
theorem suits_small {k : KD} {d : DV} (hk : k.Ok) (h : DV.suits k d) : d.small := by
  cases k with
  | truth => cases d <;> first | trivial | exact h.elim
  | count => cases d <;> first | exact most_small h | exact h.elim
  | whole => cases d <;> first | exact half_small h | exact h.elim
  | upto n =>
    have hk : 1 ≤ n ∧ n ≤ MOST := hk
    cases d with
    | int i => have h : 0 ≤ i ∧ i ≤ n := h; exact most_small ⟨h.1, by omega⟩
    | _ => exact h.elim
  | text n =>
    cases d with
    | str s =>
      have h : s = "" ∨ (nameB s = true ∧ (s.length : Int) ≤ n) := h
      show s.length ≤ 100
      rcases h with rfl | ⟨h1, _⟩
      · decide
      · have := name_len h1; omega
    | _ => exact h.elim
  | form s => cases d <;> exact h.elim
  | list k => cases d <;> exact h.elim
theorem words_small : ∀ {k : KD}, k.Ok → ∀ w ∈ k.words, w.length ≤ 100
  | .truth, _, w, hw => by rw [List.mem_singleton.mp hw]; decide
  | .count, _, w, hw => by rw [List.mem_singleton.mp hw]; decide
  | .whole, _, w, hw => by rw [List.mem_singleton.mp hw]; decide
  | .upto n, h, w, hw => by
    have h : 1 ≤ n ∧ n ≤ MOST := h
    have hw : w ∈ [("upto" : Str), toString n] := hw
    rcases List.mem_cons.mp hw with rfl | hw
    · decide
    · rw [List.mem_singleton.mp hw]
      have := num_len (n := n) (most_small ⟨by omega, h.2⟩)
      omega
  | .text n, h, w, hw => by
    have h : 1 ≤ n ∧ n ≤ 100 := h
    unfold KD.words at hw
    split at hw
    · rw [List.mem_singleton.mp hw]; decide
    · rcases List.mem_cons.mp hw with rfl | hw
      · decide
      · rw [List.mem_singleton.mp hw]
        have := num_len (n := n) (by omega)
        omega
  | .form s, h, w, hw => by
    have h : s.length ≤ 100 := h
    have hw : w ∈ [("form" : Str), s] := hw
    rcases List.mem_cons.mp hw with rfl | hw
    · decide
    · rw [List.mem_singleton.mp hw]; exact h
  | .list k, h, w, hw => by
    have hw : w ∈ ("list" : Str) :: k.words := hw
    rcases List.mem_cons.mp hw with rfl | hw
    · decide
    · exact words_small (k := k) h w hw
theorem FdOk.tail_small {fd : FD} (h : FdOk fd) : fd.tail.length ≤ 2 ∧ ∀ w ∈ fd.tail, w.length ≤ 100 := by
  unfold FD.tail
  split
  · exact ⟨by decide, fun w hw => by rw [List.mem_singleton.mp hw]; decide⟩
  · split
    · rename_i hm ht
      refine ⟨by show 2 ≤ 2; decide, fun w hw => ?_⟩
      rcases List.mem_cons.mp hw with rfl | hw
      · decide
      · rw [List.mem_singleton.mp hw]
        unfold FD.told at ht
        rw [Bool.and_eq_true] at ht
        have := suits_small h.ki (h.df ht.1)
        cases hd : fd.dflt with
        | bl b => cases b <;> decide
        | int i => rw [hd] at this; have := num_len this; show (toString i : Str).length ≤ 100; omega
        | str s => rw [hd] at this; exact this
        | none => decide
        | list => decide
    · exact ⟨by decide, fun w hw => nomatch hw⟩
theorem FdOk.head_small {fd : FD} (h : FdOk fd) : fd.head.length ≤ 5 ∧ ∀ w ∈ fd.head, w.length ≤ 100 := by
  have h1 := words_len fd.kind
  have h2 := h.dep
  refine ⟨by unfold FD.head; rw [List.length_append]; show 2 + _ ≤ 5; omega, fun w hw => ?_⟩
  unfold FD.head at hw
  rcases List.mem_append.mp hw with hw | hw
  · rcases List.mem_cons.mp hw with rfl | hw
    · have := num_len (n := fd.mark) (by have := h.mks; omega)
      omega
    · rw [List.mem_singleton.mp hw]; have := name_len h.nm; omega
  · exact words_small h.ki w hw
theorem sum_le {ys : List Str} {b : Nat} (h : ∀ y ∈ ys, y.length ≤ b) : (ys.map (·.length)).sum ≤ ys.length * b := by
  induction ys with
  | nil => simp
  | cons y ys ih =>
    have h1 := h y List.mem_cons_self
    have h2 := ih fun z hz => h z (List.mem_cons_of_mem _ hz)
    rw [List.map_cons, List.sum_cons, List.length_cons, Nat.succ_mul]
    omega
def spBL (K : PySem.W.Frag) : Sp := fun vs H Q _ => ∃ (b : Addr) (fms : List FM), vs = [.ref b] ∧ BO K H b fms ∧ BookOk fms ∧ ∀ L H', H L = none → Ex H H' → H' L = some (.lst ((bookLines fms).map V.str)) → Q (.ref L) H'
theorem mapS_succ {α : Type} {f : α → Str} {ks : List α} {j : Nat} {k : α} (h : ks[j]? = some k) : ((ks.take (j + 1)).map f).map V.str = ((ks.take j).map f).map V.str ++ [V.str (f k)] := by rw [take_map_succ h, List.map_append]; rfl
theorem str_app (x y : Str) : (x ++ y).length = x.length + y.length := by rw [len_is, len_is, len_is]; show (x.cps ++ y.cps).toList.length = _; simp
theorem strs_cat (xs ys : List Str) : xs.map V.str ++ ys.map V.str = (xs ++ ys).map V.str := (List.map_append).symm
def spFL (K : PySem.W.Frag) : Sp := fun vs H Q _ => ∃ (b : Addr) (fd : FD), vs = [.ref b] ∧ FO K H b fd ∧ FdOk fd ∧ ∀ H', Ex H H' → Q (.str fd.line) H'
theorem ok_fline (T : Txt K mg) : Gf P w K mg base 4 "field_line" [] (spFL K) := by
  refine gf_mk T.f_field_line T.m_field_line (fun _ _ _ _ _ _ us hl => match us, hl with | [_], _ => rfl) fun fd F => fn_mk F sc_field_line (fun vs H Q E h => ?_) fun cd A outer s H vs Q E hr tk po h => ?_
  · obtain ⟨b, fd, rfl, _⟩ := h; rfl
  · obtain ⟨b, fd, rfl, hfo, ok, q⟩ := h
    have nd := sc_field_line.nd
    have d1 := T.c_Field.cl
    have d2 := T.a_Field_number
    have d3 := T.a_Field_name
    have d4 := T.a_Field_kind
    have d5 := T.a_Field_must
    have d6 := T.a_Field_default
    obtain ⟨fdx, kv, dv, h1, h2, h3⟩ := id hfo
    obtain ⟨ka, kdx, kfs, rfl, hka, hkl⟩ := h2.ins
    obtain ⟨hs1, hs2⟩ := ok.head_small
    obtain ⟨ts1, ts2⟩ := ok.tail_small
    have hdep := ok.dep
    have hwl := words_len fd.kind
    refine bcut (fun σ' H' => Ex H H' ∧ ∃ L, H L = none ∧ H' L = some (.lst (fd.head.map V.str)) ∧ σ' = [some (.ref b), some (.ref L)]) ?_ ?_
    · top_name
      refine zcall (ok_ntext T) hr (by decide) takesF rfl ?_
      top_name
      refine ⟨log_small (by have := ok.mks; omega), ?_⟩
      top_name
      rename_i p H1 hp e1 hx1
      have h11 := e1 _ _ h1
      top_name
      refine zmeth0 hr tk ?_
      top_name
      refine ⟨ka, _, kdx, kfs, 2 + fd.kind.dep, [], _, rfl, e1 _ _ hka, hkl "words" (by decide +kernel), mf_words T fd.kind ok.ki (by omega), by omega, ka, rfl, h2.ex e1, fun t H2 ht e2 hx2 => ?_⟩
      refine ocatE (e2 _ _ hx1) hx2 (by rw [List.length_map, sizeLine_eq]; show 2 + _ ≤ _; omega) fun L H3 hL e3 hxL => ?_
      refine ⟨(e1.trans e2).trans e3, L, Evl.fresh_back (e1.trans e2) hL, ?_, rfl⟩
      rw [hxL]
      show some (HO.lst ([(toString fd.mark : Str), fd.name].map V.str ++ _)) = _
      rw [strs_cat]
      rfl
    rintro _ H1 ⟨e1, L, hL0, hL1, rfl⟩
    have h11 := e1 _ _ h1
    refine bcut (fun σ' H' => Ex H H' ∧ H' L = some (.lst (fd.words.map V.str)) ∧ σ' = [some (.ref b), some (.ref L)]) ?_ ?_
    · unfold FD.words FD.tail
      cases hm : fd.must with
      | true =>
        rw [hm] at h11
        rw [if_pos rfl]
        top_name
        refine ⟨L, _, rfl, hL1, ?_⟩
        top_name
        refine ⟨_, hL1, by rw [List.length_map, sizeLine_eq]; omega, ?_⟩
        (repeat refine bnil ?_)
        refine ⟨Ex.past e1 hL0, ?_, rfl⟩
        rw [upd_same, List.map_append]
        rfl
      | false =>
        rw [hm] at h11
        rw [if_neg Bool.false_ne_true]
        refine sif (tcut false ?_ ?_)
        · top_name
          exact ⟨rfl, rfl⟩
        refine ifF (bcons (sif (tcutE fd.told ?_ fun H2 e2 => ?_)))
        · top_name
          refine zmeth0 hr tk ?_
          top_name
          refine ⟨ka, _, kdx, kfs, 1, [], _, rfl, e1 _ _ hka, hkl "is_plain" (by decide +kernel), mf_plain T fd.kind, by decide, ka, rfl, ?_⟩
          refine ⟨_, rfl, ?_⟩
          unfold FD.told
          cases hp : fd.kind.plain with
          | false => exact ifF ⟨rfl, Evl.Ex.refl _⟩
          | true =>
            refine ifT ?_
            have hsu := ok.df hp
            have hkk : KI K H (.ref ka) fd.kind := h2
            top_name
            refine zmeth0 hr tk ?_
            top_name
            refine ⟨ka, _, kdx, kfs, 1, [], _, rfl, e1 _ _ hka, hkl "blank" (by decide +kernel), mf_blank T fd.kind, by decide, ka, rfl, ?_⟩
            generalize fd.kind = k at hsu hp
            generalize fd.dflt = dd at hsu h3
            cases k with
            | truth => cases h3 <;> first | exact hsu.elim | skip
                       top_name; exact ⟨congrArg (!·) (decide_eq_decide.mpr ⟨fun z => V.bl.inj z, fun z => congrArg V.bl z⟩), Evl.Ex.refl _⟩
            | count => cases h3 <;> first | exact hsu.elim | skip
                       top_name; exact ⟨by simp [neD, KD.bl], Evl.Ex.refl _⟩
            | whole => cases h3 <;> first | exact hsu.elim | skip
                       top_name; exact ⟨by simp [neD, KD.bl], Evl.Ex.refl _⟩
            | upto n => cases h3 <;> first | exact hsu.elim | skip
                        top_name; exact ⟨by simp [neD, KD.bl], Evl.Ex.refl _⟩
            | text n => cases h3 <;> first | exact hsu.elim | skip
                        top_name; exact ⟨congrArg (!·) (decide_eq_decide.mpr ⟨fun z => V.str.inj z, fun z => congrArg V.str z⟩), Evl.Ex.refl _⟩
            | form _ => cases hp
            | list _ => cases hp
        have e12 := e1.trans e2
        cases ht : fd.told with
        | false =>
          top_name
          (repeat refine bnil ?_)
          exact ⟨e12, by rw [if_neg Bool.false_ne_true, List.append_nil]; exact e2 _ _ hL1, rfl⟩
        | true =>
          have hp : fd.kind.plain = true := by
            unfold FD.told at ht
            rw [Bool.and_eq_true] at ht
            exact ht.1
          rw [if_pos rfl]
          top_name
          refine ⟨L, _, rfl, e2 _ _ hL1, ?_⟩
          top_name
          refine zcall (ok_dword T) hr (by decide) takesF rfl ?_
          top_name
          refine ⟨b, fd, rfl, hfo.ex e12, suits_small ok.ki (ok.df hp), fun H3 e3 => ?_⟩
          top_name
          rename_i p H4 hp4 e4 hx4
          refine ⟨_, _, p, rfl, e4 _ _ (e3 _ _ (e2 _ _ hL1)), hx4, by rw [List.length_map, sizeLine_eq]; show _ + 2 ≤ _; omega, ?_⟩
          (repeat refine bnil ?_)
          refine ⟨Ex.past (e12.trans (e3.trans e4)) hL0, ?_, rfl⟩
          rw [upd_same, List.map_append]
          rfl
    rintro _ H2 ⟨e2, hL2, rfl⟩
    have hall : ∀ y ∈ fd.words, y.length ≤ 100 := fun y hy => (List.mem_append.mp hy).elim (hs2 y) (ts2 y)
    have hwn : fd.words.length ≤ 7 := by unfold FD.words; rw [List.length_append]; omega
    have hsum := sum_le hall
    top_name
    refine ⟨⟨_, rfl⟩, ?_⟩
    top_name
    refine ⟨" ", L, fd.words, rfl, rfl, .inl (SqL.of hL2), ?_, q _ e2⟩
    show _ + fd.words.length * 1 ≤ _
    omega
theorem goneLines_cons {ns : List Int} (h : ns ≠ []) : goneLines ns = [goneLine ns] := by
  cases ns with
  | nil => exact absurd rfl h
  | cons n ns => rfl
theorem lines_succ {fms : List FM} {i : Nat} {fm : FM} (h : fms[i]? = some fm) : bookLines (fms.take (i + 1)) = bookLines (fms.take i) ++ fm.lines := by
  unfold bookLines
  rw [List.take_add_one, h, List.map_append, List.flatten_append]
  simp
theorem lines_len : ∀ {fms : List FM}, (∀ fm ∈ fms, fm.fields.length ≤ 10) → (bookLines fms).length ≤ fms.length * 12
  | [], _ => by decide
  | fm :: fms, h => by
    have h1 := h fm List.mem_cons_self
    have h2 := lines_len (fms := fms) fun x hx => h x (List.mem_cons_of_mem _ hx)
    unfold bookLines at h2 ⊢
    rw [List.map_cons, List.flatten_cons, List.length_append, List.length_cons, Nat.succ_mul]
    have h3 : fm.lines.length ≤ 12 := by
      unfold FM.lines goneLines
      rw [List.length_cons, List.length_append, List.length_map]
      split <;> simp <;> omega
    omega
theorem ok_blines (T : Txt K mg) : Gf P w K mg base 5 "book_lines" [] (spBL K) := by
  refine gf_mk T.f_book_lines T.m_book_lines (fun _ _ _ _ _ _ us hl => match us, hl with | [_], _ => rfl) fun fd F => fn_mk F sc_book_lines (fun vs H Q E h => ?_) fun cd A outer s H vs Q E hr tk po h => ?_
  · obtain ⟨b, fms, rfl, _⟩ := h; rfl
  · obtain ⟨b, fms, rfl, ⟨dx, l, d, us, hx, hl, hF, hd⟩, ok, q⟩ := h
    have nd := sc_book_lines.nd
    have c1 := T.c_Book.cl
    have a1 := T.a_Book_forms
    have d1 := T.c_Field.cl
    have hlen := hF.len
    have hhi := ok.hi
    have hfl : ∀ fm ∈ fms, fm.fields.length ≤ 10 := fun fm hfm => by
      obtain ⟨i, hi, rfl⟩ := List.mem_iff_getElem.mp hfm
      exact (ok.each i _ (List.getElem?_eq_getElem hi)).nf
    have hll : ∀ i, (bookLines (fms.take i)).length ≤ 96 := fun i => by
      have := lines_len (fms := fms.take i) fun fm h => hfl fm (List.mem_of_mem_take h)
      rw [List.length_take] at this
      omega
    unfold insB at hx
    refine bcut (fun σ' H' => Ex H H' ∧ ∃ L, H L = none ∧ H' L = some (.lst []) ∧ σ' = [some (.ref b), some (.ref L), none, none, none]) ?_ ?_
    · top_name
      rename_i L H1 hL e1 hx1
      exact ⟨e1, L, hL, hx1, rfl⟩
    rintro _ H1 ⟨e1, L, hL0, hL1, rfl⟩
    have hx1 := e1 _ _ hx
    refine bcut (fun σ' H' => (Ex H H' ∧ H' L = some (.lst ((bookLines fms).map V.str))) ∧ ∃ r1 r2 r3, σ' = [some (.ref b), some (.ref L), r1, r2, r3]) ?_ ?_
    · refine lforL (xs := us) po rfl (fun i σ' H' => (Ex H H' ∧ H' L = some (.lst ((bookLines (fms.take i)).map V.str))) ∧ ∃ r1 r2 r3, σ' = [some (.ref b), some (.ref L), r1, r2, r3]) ?_
      top_name
      refine ⟨SqL.of (e1 _ _ hl), ⟨⟨e1, hL1⟩, none, none, none, rfl⟩, fun i σ' H' _ v => SqL.of (v.1.1 _ _ hl), fun i x σ' H2 hxi hv => ?_, fun σ' H' hv => ?_⟩
      · obtain ⟨⟨e2, hL2⟩, r1, r2, r3, rfl⟩ := hv
        obtain ⟨a, fm, rfl, hj, hro⟩ := hF.get hxi
        have okf := ok.each i fm hj
        have h96 := hll i
        obtain ⟨fdx, fl, fg, fws, hb1, hb2, hb3, hb4⟩ := hro.ex e2
        obtain ⟨f1, b1, b2, b3⟩ := clsF T fm.choice
        have hms : List.lookup ("called" : Str) [(("name" : Str), V.str fm.name), ("fields", .ref fl), ("gone", .ref fg)] = none := rfl
        have hnl := name_len okf.nm
        have hnf := okf.nf
        have hng := okf.ng
        have hfwl : (fword fm.choice).length ≤ 6 := by cases fm.choice <;> decide
        have hflen := hb3.len
        tb_rel
        refine bcut (fun σ' H' => Ex H H' ∧ Ex (del H2 L) H' ∧ H' L = some (.lst ((bookLines (fms.take i) ++ [fm.line]).map V.str)) ∧ σ' = [some (.ref b), some (.ref L), some (.ref a), r2, r3]) ?_ ?_
        · top_name
          refine ⟨L, _, rfl, hL2, ?_⟩
          top_name
          refine zmeth0 hr tk ?_
          top_name
          refine ⟨a, _, fdx, _, 1, [], _, rfl, hb1, hms, mf_called T fm.choice, by decide, a, rfl, ?_⟩
          top_name
          refine oadds (by rw [sizeLine_eq]; show _ + 1 ≤ _; omega) ?_
          top_name
          refine oadds (by rw [sizeLine_eq, str_app]; show _ + 1 + _ ≤ _; omega) ?_
          refine ⟨_, hL2, by rw [List.length_map, sizeLine_eq]; omega, ?_⟩
          refine ⟨Ex.past e2 hL0, fun x o z => ?_, ?_, rfl⟩
          · have n1 : x ≠ L := fun y => by rw [y, del_same] at z; cases z
            rw [del_ne n1] at z
            rw [upd_ne n1]; exact z
          · rw [upd_same, List.map_append]
            rfl
        rintro _ H3 ⟨e3, e23, hL3, rfl⟩
        have old : ∀ {x : Addr} {o : HO}, H2 x = some o → x ≠ L → H3 x = some o := fun z n => e23 _ _ (by rw [del_ne n]; exact z)
        obtain ⟨fdx', fl', fg', fws', hc1, hc2, hc3, hc4⟩ := hro.ex e3
        have hflen' := hc3.len
        refine bcut (fun σ' H' => Ex H H' ∧ H' L = some (.lst ((bookLines (fms.take i) ++ [fm.line] ++ fm.fields.map FD.line).map V.str)) ∧ σ' = [some (.ref b), some (.ref L), some (.ref a), r2, r3]) ?_ ?_
        · top_name
          refine ⟨L, _, rfl, hL3, ?_⟩
          refine zlc rfl nd [("field", 3)] (blkOk_by (N := N_book_lines) (sc := defScope s_book_lines) (by decide +kernel)) piL (tmL (xs := fws') (fun j => ((fm.fields.take j).map FD.line).map V.str) rfl ?_)
          top_name
          refine ⟨SqL.of hc2, fun j x H4 hx4 e4 => ?_, fun M H4 hM e4 hxM => ?_⟩
          · obtain ⟨fb, fd, rfl, hjf, hfo⟩ := hc3.get hx4
            have hjl := (List.getElem?_eq_some_iff.mp hjf).1
            top_name
            refine zcall (ok_fline T) hr (by decide) takesF rfl ?_
            top_name
            refine ⟨fb, fd, rfl, hfo.ex e4, okf.fd (List.mem_of_getElem? hjf), fun H5 e5 => ?_⟩
            exact ⟨mapS_succ hjf, by show (List.map _ _).length < _; rw [List.length_map, List.length_map, List.length_take, sizeLine_eq]; omega, e5⟩
          · rw [hflen', List.take_length] at hxM
            refine ⟨_, _, M, rfl, e4 _ _ hL3, hxM, by rw [List.length_map, List.length_map, List.length_map, List.length_append, sizeLine_eq]; show _ + 1 + _ ≤ _; omega, ?_⟩
            refine ⟨Ex.past (e3.trans e4) hL0, ?_, rfl⟩
            rw [upd_same, ← List.map_append]
        rintro _ H4 ⟨e4, hL4, rfl⟩
        obtain ⟨fdx'', fl'', fg'', fws'', hd1, hd2, hd3, hd4⟩ := hro.ex e4
        have fin : ∀ {H' : Hp} {σ' : Z.St}, Ex H H' → H' L = some (.lst ((bookLines (fms.take i) ++ [fm.line] ++ fm.fields.map FD.line ++ goneLines fm.gone).map V.str)) → σ' = [some (V.ref b), some (.ref L), some (.ref a), r2, r3] → (Ex H H' ∧ H' L = some (.lst ((bookLines (fms.take (i + 1))).map V.str))) ∧ ∃ r1 r2 r3, σ' = [some (.ref b), some (.ref L), r1, r2, r3] := fun e h s => by
          refine ⟨⟨e, ?_⟩, _, _, _, s⟩
          rw [h, lines_succ hj]
          unfold FM.lines
          simp only [List.append_assoc, List.cons_append, List.nil_append]
        refine bcons (sif (tcutE (!fm.gone.isEmpty) ?_ fun H5 e5 => ?_))
        · top_name
          rename_i p H5 hp e5 hx5
          refine oneNil hr (SqL.of (e5 _ _ hd4)) (SqL.of hx5) ?_
          exact ⟨_, rfl, by cases fm.gone <;> rfl, e5⟩
        cases hg : fm.gone with
        | nil =>
          refine ifF (bnil (bnil ?_))
          refine fin (e4.trans e5) ?_ rfl
          rw [e5 _ _ hL4, hg]
          show _ = some (HO.lst (List.map V.str (_ ++ [])))
          rw [List.append_nil]
        | cons n0 ns0 =>
          have hgl : (fm.gone.map V.int).length = fm.gone.length := List.length_map ..
          have hd5 := e5 _ _ hd1
          refine ifT ?_
          top_name
          refine ⟨L, _, rfl, e5 _ _ hL4, ?_⟩
          top_name
          refine ⟨⟨_, rfl⟩, ?_⟩
          top_name
          rename_i pg H6 hpg e6 hx6
          refine zlc rfl nd [("number", 4)] (blkOk_by (N := N_book_lines) (sc := defScope s_book_lines) (by decide +kernel)) piL (tmL (xs := fm.gone.map V.int) (fun j => ((fm.gone.take j).map fun n => (toString n : Str)).map V.str) rfl ?_)
          have hd6 := e6 _ _ hd5
          have hg6 := e6 _ _ (e5 _ _ hd4)
          top_name
          refine ⟨SqL.of hg6, fun j x H7 hx7 e7 => ?_, fun M H7 hM e7 hxM => ?_⟩
          · rw [List.getElem?_map] at hx7
            cases hz : fm.gone[j]? with
            | none => rw [hz] at hx7; cases hx7
            | some n =>
              rw [hz] at hx7
              obtain rfl : V.int n = x := Option.some.inj hx7
              have hnr := okf.mks n (List.mem_append_right _ (List.mem_of_getElem? hz))
              have hjl := (List.getElem?_eq_some_iff.mp hz).1
              top_name
              refine zcall (ok_ntext T) hr (by decide) takesF rfl ?_
              top_name
              refine ⟨log_small (by omega), ?_⟩
              exact ⟨mapS_succ (f := fun n : Int => (toString n : Str)) hz, by show (List.map _ _).length < _; rw [List.length_map, List.length_map, List.length_take, sizeLine_eq]; omega, Evl.Ex.refl _⟩
          · rw [hgl, List.take_length] at hxM
            refine ocatE (e7 _ _ hx6) hxM (by rw [List.length_map, List.length_map, sizeLine_eq]; show 1 + _ ≤ _; omega) fun N H8 hN e8 hx8 => ?_
            have hx8' : H8 N = some (.lst ((("gone" : Str) :: fm.gone.map fun n => (toString n : Str)).map V.str)) := hx8
            refine ⟨" ", N, _, rfl, rfl, .inl (SqL.of hx8'), ?_, ?_⟩
            · have hall : ∀ y ∈ ("gone" : Str) :: fm.gone.map (fun n => (toString n : Str)), y.length ≤ 100 := fun y hy => by
                rcases List.mem_cons.mp hy with rfl | hy
                · decide
                · obtain ⟨n, hn, rfl⟩ := List.mem_map.mp hy
                  have hnr := okf.mks n (List.mem_append_right _ hn)
                  have := num_len (n := n) (by omega)
                  omega
              have hsum := sum_le hall
              rw [List.length_cons, List.length_map] at hsum ⊢
              show _ + (_ + 1) * 1 ≤ _
              omega
            refine ⟨_, e8 _ _ (e7 _ _ (e6 _ _ (e5 _ _ hL4))), by rw [List.length_map, List.length_append, List.length_append, List.length_map, sizeLine_eq]; show _ + 1 + _ < _; omega, ?_⟩
            (repeat refine bnil ?_)
            refine fin (Ex.past ((((e4.trans e5).trans e6).trans e7).trans e8) hL0) ?_ rfl
            rw [upd_same, List.map_append (l₂ := goneLines fm.gone), goneLines_cons (by rw [hg]; exact List.cons_ne_nil _ _)]
            rfl
      · obtain ⟨hv, r⟩ := hv
        rw [hlen, List.take_length] at hv
        exact ⟨hv, r⟩
    rintro _ H2 ⟨⟨e2, hL2⟩, r1, r2, r3, rfl⟩
    top_name
    exact q L H2 hL0 e2 hL2
end

set_option maxRecDepth 100000
set_option maxHeartbeats 4000000
set_option pp.maxSteps 400
section
open PySem PySem.Spec PyProof.Rows L2 Z
open Evl (Ex)
variable {P : Program} {w : World} {K : PySem.W.Frag} {mg : Str → Option Value} {base : Heap}
theorem at0 {α : Type} {x : α} {xs : List α} : atI (x :: xs) 0 = some x := by
  unfold atI ixN
  rw [if_pos (by decide), if_pos (by rw [List.length_cons]; exact Int.natCast_pos.mpr (Nat.succ_pos _))]
  rfl
theorem at1 {α : Type} {x y : α} {xs : List α} : atI (x :: y :: xs) 1 = some y := by
  unfold atI ixN
  rw [if_pos (by decide), if_pos (by rw [List.length_cons, List.length_cons]; show ((1 : Nat) : Int) < _; omega)]
  rfl
theorem at2 {α : Type} {x y z : α} {xs : List α} : atI (x :: y :: z :: xs) 2 = some z := by
  unfold atI ixN
  rw [if_pos (by decide), if_pos (by rw [List.length_cons, List.length_cons, List.length_cons]; show ((2 : Nat) : Int) < _; omega)]
  rfl
theorem cutV1 {x : V} {xs : List V} : cutV (x :: xs) (some 1) none = xs := by
  unfold cutV
  rw [sIx_at _ _ (by decide) (by rw [List.length_cons]; omega)]
  show (xs.take ((xs.length + 1) - 1)) = xs
  rw [Nat.add_sub_cancel, List.take_length]
theorem cutV2 {x y : V} {xs : List V} : cutV (x :: y :: xs) (some 2) none = xs := by
  unfold cutV
  rw [sIx_at _ _ (by decide) (by rw [List.length_cons, List.length_cons]; omega)]
  show (xs.take ((xs.length + 2) - 2)) = xs
  rw [Nat.add_sub_cancel, List.take_length]
/-! ### kinds made -/
def spIni (C : Addr) (f : Str) : Sp := fun vs H Q _ => ∃ (a dx : Addr) (y : V), vs = [.ref a, y] ∧ H a = some (.ins C dx []) ∧ Q .non (upd H a (.ins C dx [(f, y)]))
theorem fi_Upto (T : Txt K mg) {fd : FuncData} (F : FunD K "__init__" "Upto.__init__" (defArgs s_Upto_init) (defBody s_Upto_init) (defScope s_Upto_init) [] [] (He.fAd K ("Upto", some "__init__")) fd) : FnOk P w K mg base (L2N.CX P w) 1 (He.fAd K ("Upto", some "__init__")) fd ["self", "most"] (spIni (He.ga K "Upto") "most") := by
  refine fn_mk F sc_Upto_init (fun vs H Q E h => ?_) fun cd A outer s H vs Q E hr tk po h => ?_
  · obtain ⟨a, dx, y, rfl, _⟩ := h; rfl
  · obtain ⟨a, dx, y, rfl, hx, q⟩ := h
    top_name
    exact ⟨a, _, dx, [], rfl, hx, T.c_Upto.cl, T.a_Upto_most, by decide, bnil q⟩
theorem fi_Text (T : Txt K mg) {fd : FuncData} {dvs : List V} (F : FunD K "__init__" "Text.__init__" (defArgs s_Text_init) (defBody s_Text_init) (defScope s_Text_init) dvs [] (He.fAd K ("Text", some "__init__")) fd) : FnOk P w K mg base (L2N.CX P w) 1 (He.fAd K ("Text", some "__init__")) fd ["self", "most"] (spIni (He.ga K "Text") "most") := by
  refine fn_mk F sc_Text_init (fun vs H Q E h => ?_) fun cd A outer s H vs Q E hr tk po h => ?_
  · obtain ⟨a, dx, y, rfl, _⟩ := h; rfl
  · obtain ⟨a, dx, y, rfl, hx, q⟩ := h
    top_name
    exact ⟨a, _, dx, [], rfl, hx, T.c_Text.cl, T.a_Text_most, by decide, bnil q⟩
theorem fi_List (T : Txt K mg) {fd : FuncData} (F : FunD K "__init__" "List.__init__" (defArgs s_List_init) (defBody s_List_init) (defScope s_List_init) [] [] (He.fAd K ("List", some "__init__")) fd) : FnOk P w K mg base (L2N.CX P w) 1 (He.fAd K ("List", some "__init__")) fd ["self", "item"] (spIni (He.ga K "List") "item") := by
  refine fn_mk F sc_List_init (fun vs H Q E h => ?_) fun cd A outer s H vs Q E hr tk po h => ?_
  · obtain ⟨a, dx, y, rfl, _⟩ := h; rfl
  · obtain ⟨a, dx, y, rfl, hx, q⟩ := h
    top_name
    exact ⟨a, _, dx, [], rfl, hx, T.c_List.cl, T.a_List_item, by decide, bnil q⟩
theorem fi_Nested (T : Txt K mg) {fd : FuncData} (F : FunD K "__init__" "Nested.__init__" (defArgs s_Nested_init) (defBody s_Nested_init) (defScope s_Nested_init) [] [] (He.fAd K ("Nested", some "__init__")) fd) : FnOk P w K mg base (L2N.CX P w) 1 (He.fAd K ("Nested", some "__init__")) fd ["self", "name"] (spIni (He.ga K "Nested") "name") := by
  refine fn_mk F sc_Nested_init (fun vs H Q E h => ?_) fun cd A outer s H vs Q E hr tk po h => ?_
  · obtain ⟨a, dx, y, rfl, _⟩ := h; rfl
  · obtain ⟨a, dx, y, rfl, hx, q⟩ := h
    top_name
    exact ⟨a, _, dx, [], rfl, hx, T.c_Nested.cl, T.a_Nested_name, by decide, bnil q⟩
theorem nf_Upto (T : Txt K mg) : Nf P w K mg base 1 "Upto" (He.ga K "Upto") [] (spIni (He.ga K "Upto") "most") := nf_mk T.f_Upto_init T.m_Upto T.mk_Upto (fun _ _ _ _ _ _ us hl => match us, hl with | [_, _], _ => rfl) fun fd F => fi_Upto T F
theorem nf_List (T : Txt K mg) : Nf P w K mg base 1 "List" (He.ga K "List") [] (spIni (He.ga K "List") "item") := nf_mk T.f_List_init T.m_List T.mk_List (fun _ _ _ _ _ _ us hl => match us, hl with | [_, _], _ => rfl) fun fd F => fi_List T F
theorem nf_Nested (T : Txt K mg) : Nf P w K mg base 1 "Nested" (He.ga K "Nested") [] (spIni (He.ga K "Nested") "name") := nf_mk T.f_Nested_init T.m_Nested T.mk_Nested (fun _ _ _ _ _ _ us hl => match us, hl with | [_, _], _ => rfl) fun fd F => fi_Nested T F
theorem nf_Text (T : Txt K mg) : Nf P w K mg base 1 "Text" (He.ga K "Text") [] (spIni (He.ga K "Text") "most") := by
  obtain ⟨fd, F⟩ := T.f_Text_init
  obtain ⟨ds, hv, hb⟩ := F.binds1 (ps := ["self", "most"]) 2 1 (by simp) rfl fun T' kV doc pm an cdv ct us its h1 h2 => match us, h1, its, h2 with
    | [_, _], _, [_], _ => ⟨_, rfl, rfl⟩
  exact ⟨_, fd, _, ds, T.m_Text, T.mk_Text, hb, hv, fi_Text T F⟩
theorem nf_Text0 (T : Txt K mg) : Nf P w K mg base 1 "Text" (He.ga K "Text") [.int 100] (spIni (He.ga K "Text") "most") := by
  obtain ⟨fd, F⟩ := T.f_Text_init
  obtain ⟨ds, hv, hb⟩ := F.binds1 (ps := ["self", "most"]) 1 0 (by simp) rfl fun T' kV doc pm an cdv ct us its h1 h2 => match us, h1, its, h2 with
    | [_], _, [_], _ => ⟨_, rfl, rfl⟩
  exact ⟨_, fd, _, ds, T.m_Text, T.mk_Text, hb, hv, fi_Text T F⟩
/-- an instance made with one thing -/
theorem ini_to {C : Addr} {f : Str} {H : Hp} {a dx : Addr} {y : V} {Q : VK} {E : XK} (ha : H a = none) (hd : H dx = none) (q : ∀ H2, Ex H H2 → H2 a = some (.ins C dx [(f, y)]) → Q (.ref a) H2) :
    spIni C f [.ref a, y] (upd (upd H dx (.own a)) a (.ins C dx [])) (fun v H2 => v = .non ∧ Q (.ref a) H2) E :=
  ⟨a, dx, y, rfl, upd_same, rfl, q _ (fun b o e => by
    have n1 : b ≠ a := fun z => by rw [z, ha] at e; cases e
    have n2 : b ≠ dx := fun z => by rw [z, hd] at e; cases e
    rw [upd_ne n1, upd_ne n1, upd_ne n2]; exact e) upd_same⟩
theorem num_is {n : Int} (h : n.natAbs < 2 ^ 256) : numO (some (toString n : Str)) = .int n := by
  show numV _ = _
  unfold numV
  rw [if_pos (num_ok h), num_val]
theorem ok_need (T : Txt K mg) : Gf P w K mg base 1 "need" [] (fun vs H Q _ => ∃ b : Bool, vs = [.bl b] ∧ b = true ∧ Q .non H) := by
  refine gf_mk T.f_need T.m_need (fun _ _ _ _ _ _ us hl => match us, hl with | [_], _ => rfl) fun fd F => fn_mk F sc_need (fun vs H Q E h => ?_) fun cd A outer s H vs Q E hr tk po h => ?_
  · obtain ⟨b, rfl, _⟩ := h; rfl
  · obtain ⟨b, rfl, rfl, q⟩ := h
    top_name
    exact q
local macro_rules | `(tactic| nest_fact) => `(tactic| first | exact at0 | exact at1 | exact at2 | exact rfl)
local macro_rules | `(tactic| tb_rel) => `(tactic| first
  | ((with_reducible refine (?_ : wIx _ (.ref _) (.int _) _ _)); refine ixL (SqL.of (by one_item)) (by nest_fact) ?_)
  | ((with_reducible refine (?_ : wE _ (.Call (.Name "number_of" _) _ _ _) _ _ _)); refine zcall (ok_number_of (by assumption)) (by assumption) (by decide) takesF rfl ?_)
  | ((with_reducible refine (?_ : wE _ (.Call (.Name "is_name" _) _ _ _) _ _ _)); refine zcall (ok_name (by assumption)) (by assumption) (by decide) takesF rfl ?_)
  | ((with_reducible refine (?_ : wE _ (.Call (.Name "need" _) _ _ _) _ _ _)); refine zcall (ok_need (by assumption)) (by assumption) (by decide) takesF rfl ?_)
  | fail)
theorem ok_most_in (T : Txt K mg) : Gf P w K mg base 3 "most_in" [] (fun vs H Q _ => ∃ (l : Addr) (x : V) (n : Int) (rest : List V), vs = [.ref l] ∧ H l = some (.lst (x :: .str (toString n) :: rest)) ∧ n.natAbs < 2 ^ 256 ∧ ∀ H', Ex H H' → Q (.int n) H') := by
  refine gf_mk T.f_most_in T.m_most_in (fun _ _ _ _ _ _ us hl => match us, hl with | [_], _ => rfl) fun fd F => fn_mk F sc_most_in (fun vs H Q E h => ?_) fun cd A outer s H vs Q E hr tk po h => ?_
  · obtain ⟨l, x, n, rest, rfl, _⟩ := h; rfl
  · obtain ⟨l, x, n, rest, rfl, hx, hn, q⟩ := h
    have nd := sc_most_in.nd
    have n1 := T.n_len
    have hnl := num_len hn
    have hx : H l = some (.lst (x :: .str (toString n : Str) :: rest)) := hx
    have hlen : (1 : Int) < ((x :: V.str (toString n : Str) :: rest).length : Nat) := by rw [List.length_cons, List.length_cons]; omega
    top_name
    · refine ⟨_, _, rfl, .str _ (by omega), fun H1 e1 => ?_⟩
      rw [num_is hn]
      top_name
      refine ⟨rfl, ?_⟩
      have hx1 := e1 _ _ hx
      top_name
      refine ⟨_, _, rfl, .str _ (by omega), fun H2 e2 => ?_⟩
      rw [num_is hn]
      exact q _ (e1.trans e2)
    · exfalso; omega
def KD.flat : KD → Prop
  | .list (.list _) => False
  | .list k => k.flat
  | .form s => nameB s = true
  | _ => True
def NoNum (rest : List Str) : Prop := ∀ r ∈ rest.head?, r.length ≤ 1000 ∧ numV r = .non
def spKin (K : PySem.W.Frag) (k : KD) : Sp := fun vs H Q _ => ∃ (l : Addr) (rest : List Str), vs = [.ref l] ∧ H l = some (.lst (k.words.map V.str ++ rest.map V.str)) ∧ k.Ok ∧ k.flat ∧ NoNum rest ∧
  ∀ t v r H', Ex H H' → H' t = some (.tup [v, .ref r]) → KI K (nw H H') v k → H' r = some (.lst (rest.map V.str)) → Q (.ref t) H'
def MadeK (K : PySem.W.Frag) (H : Hp) (k : KD) : VK := fun v H' => Ex H H' ∧ KI K (nw H H') v k
theorem kin_plain (T : Txt K mg) {k : KD} (h0 : k.dep = 0) (h : k = .truth ∨ k = .count ∨ k = .whole) : Gf P w K mg base (4 + k.dep) "kind_in" [] (spKin K k) := by
  rw [h0]
  refine gf_mk T.f_kind_in T.m_kind_in (fun _ _ _ _ _ _ us hl => match us, hl with | [_], _ => rfl) fun fd F => fn_mk (k := 3) F sc_kind_in (fun vs H Q E h => ?_) fun cd A outer s H vs Q E hr tk po h' => ?_
  · obtain ⟨l, rest, rfl, _⟩ := h; rfl
  · obtain ⟨l, rest, rfl, hx, hok, hfl, hnn, q⟩ := h'
    have nd := sc_kind_in.nd
    have n1 := T.n_len
    rcases h with rfl | rfl | rfl
    · have hx : H l = some (.lst (.str "truth" :: rest.map V.str)) := hx
      have hlen : (0 : Int) < ((V.str "truth" :: rest.map V.str).length : Nat) := by rw [List.length_cons]; omega
      top_name
      refine ⟨decide_eq_true hlen, ?_⟩
      top_name
      refine zmkP T.mk_Truth T.c_Truth.hm T.m_Truth rfl fun a dx H2 ha e2 hx2 => ?_
      have hxx := e2 _ _ hx
      top_name
      rename_i p H3 hp e3 hx3 t H4 ht e4 hx4
      rw [cutV1] at hx3
      exact q t _ p H4 ((e2.trans e3).trans e4) hx4 (.truth (nw_at ha (e4 _ _ (e3 _ _ hx2)))) (e4 _ _ hx3)
    · have hx : H l = some (.lst (.str "count" :: rest.map V.str)) := hx
      have hlen : (0 : Int) < ((V.str "count" :: rest.map V.str).length : Nat) := by rw [List.length_cons]; omega
      top_name
      refine ⟨decide_eq_true hlen, ?_⟩
      top_name
      refine zmkP T.mk_Count T.c_Count.hm T.m_Count rfl fun a dx H2 ha e2 hx2 => ?_
      have hxx := e2 _ _ hx
      top_name
      rename_i p H3 hp e3 hx3 t H4 ht e4 hx4
      rw [cutV1] at hx3
      exact q t _ p H4 ((e2.trans e3).trans e4) hx4 (.count (nw_at ha (e4 _ _ (e3 _ _ hx2)))) (e4 _ _ hx3)
    · have hx : H l = some (.lst (.str "whole" :: rest.map V.str)) := hx
      have hlen : (0 : Int) < ((V.str "whole" :: rest.map V.str).length : Nat) := by rw [List.length_cons]; omega
      top_name
      refine ⟨decide_eq_true hlen, ?_⟩
      top_name
      refine zmkP T.mk_Whole T.c_Whole.hm T.m_Whole rfl fun a dx H2 ha e2 hx2 => ?_
      have hxx := e2 _ _ hx
      top_name
      rename_i p H3 hp e3 hx3 t H4 ht e4 hx4
      rw [cutV1] at hx3
      exact q t _ p H4 ((e2.trans e3).trans e4) hx4 (.whole (nw_at ha (e4 _ _ (e3 _ _ hx2)))) (e4 _ _ hx3)
theorem kin_upto (T : Txt K mg) (n : Int) : Gf P w K mg base 4 "kind_in" [] (spKin K (.upto n)) := by
  refine gf_mk T.f_kind_in T.m_kind_in (fun _ _ _ _ _ _ us hl => match us, hl with | [_], _ => rfl) fun fd F => fn_mk (k := 3) F sc_kind_in (fun vs H Q E h => ?_) fun cd A outer s H vs Q E hr tk po h' => ?_
  · obtain ⟨l, rest, rfl, _⟩ := h; rfl
  · obtain ⟨l, rest, rfl, hx, hok, hfl, hnn, q⟩ := h'
    have nd := sc_kind_in.nd
    have n1 := T.n_len
    have hok : 1 ≤ n ∧ n ≤ MOST := hok
    have hn : n.natAbs < 2 ^ 256 := most_small ⟨by omega, hok.2⟩
    have hx : H l = some (.lst (.str "upto" :: .str (toString n : Str) :: rest.map V.str)) := hx
    have hlen : (0 : Int) < ((V.str "upto" :: .str (toString n : Str) :: rest.map V.str).length : Nat) := by rw [List.length_cons]; omega
    top_name
    refine ⟨decide_eq_true hlen, ?_⟩
    top_name
    refine vcut (MadeK K H (.upto n)) ?_ ?_
    · refine zmk (nf_Upto T) hr (by decide) tk rfl ?_
      top_name
      refine zcall (ok_most_in T) hr (by decide) takesF rfl ?_
      top_name
      refine ⟨l, _, n, _, rfl, hx, hn, fun H1 e1 => ?_⟩
      top_name
      intro a dx ha hd hne
      exact ini_to (Q := MadeK K H (.upto n)) ha hd fun H2 e2 hx2 => ⟨e1.trans e2, .upto (nw_at (Evl.fresh_back e1 ha) hx2)⟩
    rintro v H2 ⟨e2, hk2⟩
    have hxx := e2 _ _ hx
    top_name
    rename_i p H3 hp e3 hx3 t H4 ht e4 hx4
    rw [cutV2] at hx3
    exact q t _ p H4 ((e2.trans e3).trans e4) hx4 (hk2.ex (nw_mono (e3.trans e4))) (e4 _ _ hx3)
theorem kin_text (T : Txt K mg) (n : Int) : Gf P w K mg base 4 "kind_in" [] (spKin K (.text n)) := by
  refine gf_mk T.f_kind_in T.m_kind_in (fun _ _ _ _ _ _ us hl => match us, hl with | [_], _ => rfl) fun fd F => fn_mk (k := 3) F sc_kind_in (fun vs H Q E h => ?_) fun cd A outer s H vs Q E hr tk po h' => ?_
  · obtain ⟨l, rest, rfl, _⟩ := h; rfl
  · obtain ⟨l, rest, rfl, hx, hok, hfl, hnn, q⟩ := h'
    have nd := sc_kind_in.nd
    have n1 := T.n_len
    have hok : 1 ≤ n ∧ n ≤ 100 := hok
    by_cases h100 : n = 100
    · subst h100
      have hx : H l = some (.lst (.str "text" :: rest.map V.str)) := hx
      have hlen : (0 : Int) < ((V.str "text" :: rest.map V.str).length : Nat) := by rw [List.length_cons]; omega
      cases rest with
      | nil =>
        have hl1 : ¬ (1 : Int) < ((V.str "text" :: ([] : List Str).map V.str).length : Nat) := by decide
        top_name
        refine ⟨decide_eq_true hlen, ?_⟩
        top_name
        refine vcut (MadeK K H (.text 100)) ?_ ?_
        · refine zmk0 (nf_Text0 T) hr (by decide) tk rfl ?_
          intro a dx ha hd hne
          exact ini_to (Q := MadeK K H (.text 100)) ha hd fun H2 e2 hx2 => ⟨e2, .text (nw_at ha hx2)⟩
        rintro v H2 ⟨e2, hk2⟩
        have hxx := e2 _ _ hx
        top_name
        rename_i p H3 hp e3 hx3 t H4 ht e4 hx4
        rw [cutV1] at hx3
        exact q t _ p H4 ((e2.trans e3).trans e4) hx4 (hk2.ex (nw_mono (e3.trans e4))) (e4 _ _ hx3)
      | cons r rs =>
        have hx : H l = some (.lst (.str "text" :: .str r :: rs.map V.str)) := hx
        obtain ⟨hr1, hr2⟩ := hnn r rfl
        have hl1 : (1 : Int) < ((V.str "text" :: V.str r :: rs.map V.str).length : Nat) := by rw [List.length_cons, List.length_cons]; omega
        top_name
        refine ⟨decide_eq_true hlen, ?_⟩
        top_name
        · refine ⟨_, _, rfl, .str _ (by omega), fun H1 e1 => ?_⟩
          rw [show numO (some r) = .non from hr2]
          top_name
          refine vcut (MadeK K H1 (.text 100)) ?_ ?_
          · refine zmk0 (nf_Text0 T) hr (by decide) tk rfl ?_
            intro a dx ha hd hne
            exact ini_to (Q := MadeK K H1 (.text 100)) ha hd fun H2 e2 hx2 => ⟨e2, .text (nw_at ha hx2)⟩
          rintro v H2 ⟨e2, hk2⟩
          have hxx := e2 _ _ (e1 _ _ hx)
          top_name
          rename_i p H3 hp e3 hx3 t H4 ht e4 hx4
          rw [cutV1] at hx3
          exact q t _ p H4 (((e1.trans e2).trans e3).trans e4) hx4 (hk2.ex ((nw_more e1).trans (nw_mono (e3.trans e4)))) (e4 _ _ hx3)
        · exact absurd hl1 (by assumption)
    · have hx : H l = some (.lst (.str "text" :: .str (toString n : Str) :: rest.map V.str)) := by
        have hw : (KD.text n).words = [("text" : Str), (toString n : Str)] := if_neg h100
        rw [hw] at hx
        exact hx
      have hlen : (0 : Int) < ((V.str "text" :: .str (toString n : Str) :: rest.map V.str).length : Nat) := by rw [List.length_cons]; omega
      have hl1 : (1 : Int) < ((V.str "text" :: .str (toString n : Str) :: rest.map V.str).length : Nat) := by rw [List.length_cons, List.length_cons]; omega
      have hn : n.natAbs < 2 ^ 256 := by omega
      have hnl := num_len hn
      top_name
      refine ⟨decide_eq_true hlen, ?_⟩
      top_name
      · refine ⟨_, _, rfl, .str _ (by omega), fun H1 e1 => ?_⟩
        rw [num_is hn]
        have hx1 := e1 _ _ hx
        top_name
        refine vcut (MadeK K H1 (.text n)) ?_ ?_
        · refine zmk (nf_Text T) hr (by decide) tk rfl ?_
          top_name
          refine ⟨_, _, rfl, .str _ (by omega), fun H2 e2 => ?_⟩
          rw [num_is hn]
          top_name
          intro a dx ha hd hne
          exact ini_to (Q := MadeK K H1 (.text n)) ha hd fun H3 e3 hx2 => ⟨e2.trans e3, .text (nw_at (Evl.fresh_back e2 ha) hx2)⟩
        rintro v H2 ⟨e2, hk2⟩
        have hxx := e2 _ _ hx1
        top_name
        rename_i p H3 hp e3 hx3 t H4 ht e4 hx4
        rw [cutV2] at hx3
        exact q t _ p H4 (((e1.trans e2).trans e3).trans e4) hx4 (hk2.ex ((nw_more e1).trans (nw_mono (e3.trans e4)))) (e4 _ _ hx3)
      · exact absurd hl1 (by assumption)
theorem kin_form (T : Txt K mg) (z : Str) : Gf P w K mg base 4 "kind_in" [] (spKin K (.form z)) := by
  refine gf_mk T.f_kind_in T.m_kind_in (fun _ _ _ _ _ _ us hl => match us, hl with | [_], _ => rfl) fun fd F => fn_mk (k := 3) F sc_kind_in (fun vs H Q E h => ?_) fun cd A outer s H vs Q E hr tk po h' => ?_
  · obtain ⟨l, rest, rfl, _⟩ := h; rfl
  · obtain ⟨l, rest, rfl, hx, hok, hfl, hnn, q⟩ := h'
    have nd := sc_kind_in.nd
    have n1 := T.n_len
    have hfl : nameB z = true := hfl
    have hzl := name_len hfl
    have hx : H l = some (.lst (.str "form" :: .str z :: rest.map V.str)) := hx
    have hlen : (0 : Int) < ((V.str "form" :: .str z :: rest.map V.str).length : Nat) := by rw [List.length_cons]; omega
    have hl1 : (1 : Int) < ((V.str "form" :: .str z :: rest.map V.str).length : Nat) := by rw [List.length_cons, List.length_cons]; omega
    top_name
    refine ⟨decide_eq_true hlen, ?_⟩
    top_name
    · refine ⟨_, _, rfl, .str _ (by omega), fun H1 e1 => ?_⟩
      rw [show nameO (some z) = true from hfl]
      top_name
      refine ⟨rfl, ?_⟩
      have hx1 := e1 _ _ hx
      top_name
      refine vcut (MadeK K H1 (.form z)) ?_ ?_
      · refine zmk (nf_Nested T) hr (by decide) tk rfl ?_
        top_name
        intro a dx ha hd hne
        exact ini_to (Q := MadeK K H1 (.form z)) ha hd fun H3 e3 hx2 => ⟨e3, .form (nw_at ha hx2)⟩
      rintro v H2 ⟨e2, hk2⟩
      have hxx := e2 _ _ hx1
      top_name
      rename_i p H3 hp e3 hx3 t H4 ht e4 hx4
      rw [cutV2] at hx3
      exact q t _ p H4 (((e1.trans e2).trans e3).trans e4) hx4 (hk2.ex ((nw_more e1).trans (nw_mono (e3.trans e4)))) (e4 _ _ hx3)
    · exact absurd hl1 (by assumption)
theorem word_first : ∀ k : KD, ∃ r, k.words = k.word :: r
  | .truth => ⟨_, rfl⟩
  | .count => ⟨_, rfl⟩
  | .whole => ⟨_, rfl⟩
  | .upto _ => ⟨_, rfl⟩
  | .text n => by unfold KD.words KD.word; split <;> exact ⟨_, rfl⟩
  | .form _ => ⟨_, rfl⟩
  | .list _ => ⟨_, rfl⟩
theorem ok_kind_in (T : Txt K mg) : ∀ k : KD, Gf P w K mg base (4 + k.dep) "kind_in" [] (spKin K k) := by
  intro k
  induction k with
  | truth => exact kin_plain T rfl (.inl rfl)
  | count => exact kin_plain T rfl (.inr (.inl rfl))
  | whole => exact kin_plain T rfl (.inr (.inr rfl))
  | upto n => exact kin_upto T n
  | text n => exact kin_text T n
  | form z => exact kin_form T z
  | list k ih =>
    refine gf_mk T.f_kind_in T.m_kind_in (fun _ _ _ _ _ _ us hl => match us, hl with | [_], _ => rfl) fun fd F => fn_mk (k := 4 + k.dep) F sc_kind_in (fun vs H Q E h => ?_) fun cd A outer s H vs Q E hr tk po h' => ?_
    · obtain ⟨l, rest, rfl, _⟩ := h; rfl
    · obtain ⟨l, rest, rfl, hx, hok, hfl, hnn, q⟩ := h'
      have nd := sc_kind_in.nd
      have n1 := T.n_len
      have hok : k.Ok := hok
      obtain ⟨ws, hw⟩ := word_first k
      have hnl : k.word ≠ "list" := by
        cases k with
        | list _ => exact hfl.elim
        | truth => exact (by decide +kernel : ("truth" : Str) ≠ "list")
        | count => exact (by decide +kernel : ("count" : Str) ≠ "list")
        | whole => exact (by decide +kernel : ("whole" : Str) ≠ "list")
        | upto _ => exact (by decide +kernel : ("upto" : Str) ≠ "list")
        | text _ => exact (by decide +kernel : ("text" : Str) ≠ "list")
        | form _ => exact (by decide +kernel : ("form" : Str) ≠ "list")
      have hfl : k.flat := by
        cases k with
        | list _ => exact hfl.elim
        | _ => exact hfl
      have hx : H l = some (.lst (.str "list" :: (k.words.map V.str ++ rest.map V.str))) := hx
      have hx' : H l = some (.lst (.str "list" :: .str k.word :: (ws.map V.str ++ rest.map V.str))) := by rw [hx, hw]; rfl
      have hlen : (0 : Int) < ((V.str "list" :: .str k.word :: (ws.map V.str ++ rest.map V.str)).length : Nat) := by rw [List.length_cons]; omega
      have hl1 : (1 : Int) < ((V.str "list" :: .str k.word :: (ws.map V.str ++ rest.map V.str)).length : Nat) := by rw [List.length_cons, List.length_cons]; omega
      have hr1 := hr.mono (show 1 ≤ 4 + k.dep by omega)
      refine bcut (fun σ' H' => H = H' ∧ σ' = start N_kind_in [.ref l]) ?_ ?_
      · refine sexp ?_
        refine zcall (ok_need T) hr1 (by decide) takesF rfl ?_
        top_name
        exact ⟨decide_eq_true hlen, rfl, rfl⟩
      rintro _ _ ⟨rfl, rfl⟩
      top_name
      · rw [decide_eq_false (fun z => hnl (V.str.inj z))]
        refine ⟨rfl, ?_⟩
        clear hx'
        top_name
        refine zcall ih hr (Nat.le_refl _) takesF rfl ?_
        top_name
        rename_i p H1 hp e1 hx1
        rw [cutV1] at hx1
        refine ⟨p, rest, rfl, hx1, hok, hfl, hnn, fun t v r H2 e2 hx2 hk2 hr2 => ?_⟩
        top_name
        refine vcut (fun v H' => Ex H2 H' ∧ MadeK K H (.list k) v H') ?_ ?_
        · refine zmk (nf_List T) hr (by omega) tk rfl ?_
          top_name
          intro a dx ha hd hne
          exact ini_to (Q := fun v H' => Ex H2 H' ∧ MadeK K H (.list k) v H') ha hd fun H3 e3 hx3 => ⟨e3, (e1.trans e2).trans e3, .list (nw_at (Evl.fresh_back (e1.trans e2) ha) hx3) (hk2.ex ((nw_more e1).trans (nw_mono e3)))⟩
        rintro v' H3 ⟨e23, e3, hk3⟩
        top_name
        rename_i t' H4 ht' e4 hx4
        exact q t' v' r H4 (e3.trans e4) hx4 (hk3.ex (nw_mono e4)) (e4 _ _ (e23 _ _ hr2))
      · exact absurd hl1 (by assumption)
/-! ### fields of lines -/
def DV.val : DV → V
  | .bl b => .bl b
  | .int i => .int i
  | .str s => .str s
  | _ => .non
def spDin (K : PySem.W.Frag) : Sp := fun vs H Q _ => ∃ (kv : V) (k : KD) (d : DV), vs = [kv, .str d.word] ∧ KI K H kv k ∧ k.Ok ∧ k.plain = true ∧ DV.suits k d ∧ neD d k.bl = true ∧ ∀ H', Ex H H' → DvAt H' d.val d → Q d.val H'
theorem ok_default_in (T : Txt K mg) : Gf P w K mg base 3 "default_in" [] (spDin K) := by
  refine gf_mk T.f_default_in T.m_default_in (fun _ _ _ _ _ _ us hl => match us, hl with | [_, _], _ => rfl) fun fd F => fn_mk F sc_default_in (fun vs H Q E h => ?_) fun cd A outer s H vs Q E hr tk po h => ?_
  · obtain ⟨kv, k, d, rfl, _⟩ := h; rfl
  · obtain ⟨kv, k, d, rfl, hk, hok, hp, hs, hne, q⟩ := h
    have nd := sc_default_in.nd
    obtain ⟨t, ty, kk⟩ := kit_k T hk
    obtain ⟨ka, kdx, kfs, rfl, hka, hkl⟩ := hk.ins
    have n1 := T.n_isinstance
    have m1 := T.m_Truth
    have m2 := T.m_Text
    have kt := kk.tr
    have kx := kk.te
    refine bcut (fun σ' H' => H = H' ∧ σ' = start N_default_in [.ref ka, .str d.word]) ?_ ?_
    · top_name
      refine zmeth0 hr tk ?_
      top_name
      refine ⟨ka, _, kdx, kfs, 1, [], _, rfl, hka, hkl "is_plain" (by decide +kernel), mf_plain T k, by decide, ka, rfl, ?_⟩
      top_name
      exact ⟨hp, rfl, rfl⟩
    rintro _ _ ⟨rfl, rfl⟩
    have nums : ∀ i : Int, d = .int i → i.natAbs < 2 ^ 256 → (k.tag == 0) = false → (k.tag == 4) = false → wB (cx P w K mg base N_default_in "default_in" (defScope s_default_in) (He.fAd K ("default_in", none)) cd A outer s H E) ((defBody s_default_in).drop 1) { nx := fun _ H' => Q .non H', rt := Q } (start N_default_in [.ref ka, .str d.word]) H := fun i hd hi h0 h4 => by
      subst hd
      rw [h0] at kt
      rw [h4] at kx
      have hil := num_len hi
      show wB _ _ _ (start N_default_in [.ref ka, .str (toString i : Str)]) _
      top_name
      refine kisi (.own _) ty kt ?_
      top_name
      refine kisi (.own _) ty kx ?_
      top_name
      refine ⟨_, _, rfl, .str _ (by omega), fun H1 e1 => ?_⟩
      rw [num_is hi]
      top_name
      refine ⟨rfl, ?_⟩
      top_name
      refine ⟨_, _, rfl, .str _ (by omega), fun H2 e2 => ?_⟩
      rw [num_is hi]
      exact q _ (e1.trans e2) (.int _)
    cases k with
    | truth =>
      cases d with
      | bl b =>
        cases b with
        | true =>
          show wB _ _ _ (start N_default_in [.ref ka, .str "yes"]) _
          top_name
          refine kisi (.own _) ty kt ?_
          top_name
          refine ⟨rfl, ?_⟩
          top_name
          exact q _ (Evl.Ex.refl _) (.bl _)
        | false => cases hne
      | _ => exact hs.elim
    | count =>
      cases d with
      | int i => exact nums i rfl (most_small hs) rfl rfl
      | _ => exact hs.elim
    | whole =>
      cases d with
      | int i => exact nums i rfl (half_small hs) rfl rfl
      | _ => exact hs.elim
    | upto n =>
      cases d with
      | int i => exact nums i rfl (suits_small (k := .upto n) hok hs) rfl rfl
      | _ => exact hs.elim
    | text n =>
      cases d with
      | str z =>
        have hz : z = "" ∨ (nameB z = true ∧ (z.length : Int) ≤ n) := hs
        have hzn : nameB z = true := by
          rcases hz with rfl | h
          · exact absurd (show (!decide (("" : Str) = "")) = true from hne) (by decide +kernel)
          · exact h.1
        have hzl := name_len hzn
        show wB _ _ _ (start N_default_in [.ref ka, .str z]) _
        top_name
        refine kisi (.own _) ty kt ?_
        top_name
        refine kisi (.own _) ty kx ?_
        top_name
        refine ⟨_, _, rfl, .str _ (by omega), fun H1 e1 => ?_⟩
        rw [show nameO (some z) = true from hzn]
        top_name
        refine ⟨rfl, ?_⟩
        top_name
        exact q _ e1 (.str _)
      | _ => exact hs.elim
    | form _ => cases hp
    | list _ => cases hp
theorem neD_self (d : DV) : neD d d = false := by
  cases d <;> simp [neD]
/-- a field, as lines tell of it -/
structure FdFit (fd : FD) (c : Bool) : Prop where
  ok : FdOk fd
  flat : fd.kind.flat
  cm : c = true → fd.must = false ∧ fd.told = false
  bl : fd.told = false → fd.dflt = fd.kind.bl
  bm : fd.must = true → fd.dflt = fd.kind.bl
theorem told_bl {fd : FD} (h : fd.dflt = fd.kind.bl) : fd.told = false := by
  unfold FD.told
  rw [h, neD_self, Bool.and_false]
theorem ne_bl {k : KD} {d : DV} (hs : DV.suits k d) (h : neD d k.bl = false) : d = k.bl := by
  cases k with
  | truth => cases d <;> first | exact hs.elim | (rename_i b; cases b <;> first | rfl | cases h)
  | count => cases d <;> first | exact hs.elim | (rename_i i; have h : (!decide (i = 0)) = false := h; have : i = 0 := by simpa using h
                                                  subst this; rfl)
  | whole => cases d <;> first | exact hs.elim | (rename_i i; have h : (!decide (i = 0)) = false := h; have : i = 0 := by simpa using h
                                                  subst this; rfl)
  | upto n => cases d <;> first | exact hs.elim | (rename_i i; have h : (!decide (i = 0)) = false := h; have : i = 0 := by simpa using h
                                                   subst this; rfl)
  | text n => cases d <;> first | exact hs.elim | (rename_i i; have h : (!decide (i = "")) = false := h; have : i = "" := by simpa using h
                                                   subst this; rfl)
  | form s => cases d <;> exact hs.elim
  | list k => cases d <;> exact hs.elim
theorem dok_fit {c : Bool} {fd : FD} (ok : FdOk fd) (fl : fd.kind.flat) (h : fd.dok c) : FdFit fd c := by
  obtain ⟨h1, h2⟩ := h
  refine ⟨ok, fl, fun hc => ?_, fun ht => ?_, fun hm => ?_⟩
  · rw [if_pos (.inr (.inl hc))] at h2
    refine ⟨?_, told_bl h2⟩
    cases hm : fd.must with
    | false => rfl
    | true => rw [h1 hm] at hc; cases hc
  · by_cases hh : fd.must = true ∨ c = true ∨ fd.kind.plain = false
    · rwa [if_pos hh] at h2
    · rw [if_neg hh] at h2
      refine ne_bl h2 ?_
      have hp : fd.kind.plain = true := by
        cases z : fd.kind.plain with
        | true => rfl
        | false => exact absurd (.inr (.inr z)) hh
      unfold FD.told at ht
      rwa [hp, Bool.true_and] at ht
  · rwa [if_pos (.inl hm)] at h2
theorem told_suits {fd : FD} (ok : FdOk fd) (h : fd.told = true) : fd.kind.plain = true ∧ DV.suits fd.kind fd.dflt ∧ neD fd.dflt fd.kind.bl = true := by
  unfold FD.told at h
  rw [Bool.and_eq_true] at h
  exact ⟨h.1, ok.df h.1, h.2⟩
theorem eff_of {k : KD} {d : DV} (h : DV.suits k d) : eff k d = d := by
  cases d <;> first | rfl | (cases k <;> exact h.elim)
theorem dv_val {H : Hp} {k : KD} {d : DV} (h : DV.suits k d) : DvAt H d.val d := by
  cases d with
  | bl b => exact .bl b
  | int i => exact .int i
  | str s => exact .str s
  | none => cases k <;> exact h.elim
  | list => cases k <;> exact h.elim
theorem no_must : numV "must" = .non := by decide +kernel
theorem no_eq : numV "=" = .non := by decide +kernel
theorem tail_nonum (fd : FD) : NoNum fd.tail := by
  intro r hr
  unfold FD.tail at hr
  split at hr
  · obtain rfl : "must" = r := Option.some.inj hr
    exact ⟨by decide, no_must⟩
  · split at hr
    · obtain rfl : "=" = r := Option.some.inj hr
      exact ⟨by decide, no_eq⟩
    · cases hr
def FieldK (K : PySem.W.Frag) (H : Hp) (fd : FD) : VK := fun v H' => ∃ a, v = .ref a ∧ Ex H H' ∧ H a = none ∧ FO K (nw H H') a fd
def spFin (K : PySem.W.Frag) : Sp := fun vs H Q _ => ∃ (l : Addr) (c : Bool) (fd : FD), vs = [.ref l, .bl c] ∧ H l = some (.lst (fd.words.map V.str)) ∧ FdFit fd c ∧ ∀ a H', Ex H H' → H a = none → FO K (nw H H') a fd → Q (.ref a) H'
theorem ok_field_in (T : Txt K mg) : Gf P w K mg base 6 "field_in" [] (spFin K) := by
  refine gf_mk T.f_field_in T.m_field_in (fun _ _ _ _ _ _ us hl => match us, hl with | [_, _], _ => rfl) fun fd F => fn_mk F sc_field_in (fun vs H Q E h => ?_) fun cd A outer s H vs Q E hr tk po h => ?_
  · obtain ⟨l, c, fd, rfl, _⟩ := h; rfl
  · obtain ⟨l, c, fd, rfl, hx, fit, q⟩ := h
    have nd := sc_field_in.nd
    have n1 := T.n_len
    have ok := fit.ok
    have hmk := ok.mks
    have hn : fd.mark.natAbs < 2 ^ 256 := by omega
    have hnl := num_len hn
    have hzl := name_len ok.nm
    obtain ⟨ws, hw⟩ := word_first fd.kind
    have hx0 : H l = some (.lst (.str (toString fd.mark : Str) :: .str fd.name :: (fd.kind.words.map V.str ++ fd.tail.map V.str))) := by
      rw [hx]
      unfold FD.words FD.head
      rw [List.map_append, List.map_append]
      rfl
    have hlen : (2 : Int) < ((V.str (toString fd.mark : Str) :: V.str fd.name :: (fd.kind.words.map V.str ++ fd.tail.map V.str)).length : Nat) := by
      rw [hw, List.length_cons, List.length_cons, List.map_cons, List.cons_append, List.length_cons]; omega
    clear hx
    refine bcut (fun σ' H' => Ex H H' ∧ σ' = start N_field_in [.ref l, .bl c]) ?_ ?_
    · top_name
      · refine ⟨_, _, rfl, .str _ (by omega), fun H1 e1 => ?_⟩
        rw [num_is hn]
        have hx1 := e1 _ _ hx0
        top_name
        refine ⟨_, _, rfl, .str _ (by omega), fun H2 e2 => ?_⟩
        rw [show nameO (some fd.name) = true from ok.nm]
        top_name
        exact ⟨rfl, e1.trans e2, rfl⟩
      · exact absurd hlen (by assumption)
    rintro _ H1 ⟨e1, rfl⟩
    have hx1 := e1 _ _ hx0
    refine bcut (fun σ' H' => Ex H H' ∧ ∃ v r, KI K (nw H H') v fd.kind ∧ H' r = some (.lst (fd.tail.map V.str)) ∧ σ' = [some (.ref l), some (.bl c), some v, some (.ref r), none]) ?_ ?_
    · top_name
      refine zcall (ok_kind_in T fd.kind) hr (by have := ok.dep; omega) takesF rfl ?_
      top_name
      rename_i p H2 hp e2 hx2
      rw [cutV2] at hx2
      refine ⟨p, fd.tail, rfl, hx2, ok.ki, fit.flat, tail_nonum fd, fun t v r H3 e3 hx3 hk3 hr3 => ?_⟩
      top_name
      exact ⟨(e1.trans e2).trans e3, v, r, hk3.ex (nw_more (e1.trans e2)), hr3, rfl⟩
    rintro _ H2 ⟨e2, kv, r, hk2, hr2, rfl⟩
    have hx2 := e2 _ _ hx0
    refine bcut (fun σ' H' => Ex H H' ∧ KI K (nw H H') kv fd.kind ∧ H' r = some (.lst (fd.tail.map V.str)) ∧ σ' = [some (.ref l), some (.bl c), some kv, some (.ref r), some (.int fd.mark)]) ?_ ?_
    · top_name
      refine ⟨_, _, rfl, .str _ (by omega), fun H3 e3 => ?_⟩
      rw [num_is hn]
      exact ⟨e2.trans e3, hk2.ex (nw_mono e3), e3 _ _ hr2, rfl⟩
    rintro _ H3 ⟨e3, hk3, hr3, rfl⟩
    have hx3 := e3 _ _ hx0
    -- the field, once its parts are there
    have mk : ∀ {H4 H5 : Hp} {a dx : Addr} {kv' dv' : V} (d : DV), Ex H H4 → Ex H4 H5 → H4 a = none → KI K (nw H H4) kv' fd.kind → eff fd.kind d = fd.dflt → nw H4 H5 a = some (insF K dx fd.mark fd.name kv' fd.must dv') → DvAt (nw H4 H5) dv' (eff fd.kind d) → FieldK K H fd (.ref a) H5 := fun {H4 H5 a dx kv' dv'} d e4 e5 ha hk hef hf hd =>
      ⟨a, rfl, e4.trans e5, Evl.fresh_back e4 ha, dx, kv', dv', nw_more e4 _ _ hf, hk.ex (nw_mono e5), by rw [← hef]; exact hd.ex (nw_more e4)⟩
    have fin : ∀ v H', FieldK K H fd v H' → Q v H' := fun v H' ⟨a, h1, h2, h3, h4⟩ => by rw [h1]; exact q a H' h2 h3 h4
    have tl : fd.tail = if fd.must = true then [("must" : Str)] else if fd.told = true then [("=" : Str), fd.dflt.word] else [] := rfl
    refine bcons (sif (tcutE fd.tail.isEmpty ?_ fun H4 e4 => ?_))
    · top_name
      rename_i p H4 hp e4 hx4
      refine oeqNil hr (SqL.of (e4 _ _ hr3)) (SqL.of hx4) ?_
      exact ⟨_, rfl, by cases fd.tail <;> rfl, e4⟩
    have e04 := e3.trans e4
    have hx04 := e04 _ _ hx0
    have hr4 := e4 _ _ hr3
    have hk4 := hk3.ex (nw_mono e4)
    cases hm : fd.must with
    | true =>
      rw [hm, if_pos rfl] at tl
      have hcf : c = false := by
        cases c with
        | false => rfl
        | true => have := (fit.cm rfl).1; rw [hm] at this; cases this
      subst hcf
      rw [tl] at hr4 ⊢
      refine ifF (bnil ?_)
      refine bcut (fun σ' H' => H4 = H' ∧ σ' = [some (.ref l), some (.bl false), some kv, some (.ref r), some (.int fd.mark)]) ?_ ?_
      · top_name
        exact ⟨rfl, rfl, rfl⟩
      rintro _ _ ⟨rfl, rfl⟩
      refine bcons (sif (tcutE true ?_ fun H5 e5 => ?_))
      · top_name
        rename_i p H5 hp e5 hx5
        refine oeqStrs hr (ys := ["must"]) (zs := ["must"]) (SqL.of (e5 _ _ hr4)) (SqL.of hx5) ?_
        exact ⟨_, rfl, rfl, e5⟩
      have hx5 := e5 _ _ hx04
      top_name
      refine vcut (FieldK K H fd) ?_ fin
      refine zmk (nf_Field1 T) hr (by decide) tk rfl ?_
      top_name
      intro a dx ha hd hne
      refine field_to (Q := FieldK K H fd) ha hd hne (hk4.ex (nw_sub.trans e5)) .none fun H6 dx' dv' e6 hf6 hd6 => ?_
      rw [← hm] at hf6
      exact mk .none (e04.trans e5) e6 ha (hk4.ex (nw_mono e5)) (fit.bm hm).symm hf6 hd6
    | false =>
      rw [hm, if_neg Bool.false_ne_true] at tl
      cases ht : fd.told with
      | false =>
        rw [ht, if_neg Bool.false_ne_true] at tl
        rw [tl] at hr4 ⊢
        refine ifT ?_
        top_name
        refine vcut (FieldK K H fd) ?_ fin
        refine zmk (nf_Field2 T) hr (by decide) tk rfl ?_
        top_name
        intro a dx ha hd hne
        refine field_to (Q := FieldK K H fd) ha hd hne (hk4.ex nw_sub) .none fun H6 dx' dv' e6 hf6 hd6 => ?_
        rw [← hm] at hf6
        exact mk .none e04 e6 ha hk4 (fit.bl ht).symm hf6 hd6
      | true =>
        rw [ht, if_pos rfl] at tl
        obtain ⟨hp, hsu, hne⟩ := told_suits ok ht
        have hcf : c = false := by
          cases c with
          | false => rfl
          | true => have := (fit.cm rfl).2; rw [ht] at this; cases this
        subst hcf
        rw [tl] at hr4 ⊢
        have hr4 : H4 r = some (.lst [.str "=", .str fd.dflt.word]) := hr4
        refine ifF (bnil ?_)
        refine bcut (fun σ' H' => H4 = H' ∧ σ' = [some (.ref l), some (.bl false), some kv, some (.ref r), some (.int fd.mark)]) ?_ ?_
        · top_name
          exact ⟨rfl, rfl, rfl⟩
        rintro _ _ ⟨rfl, rfl⟩
        refine bcons (sif (tcutE false ?_ fun H5 e5 => ?_))
        · top_name
          rename_i p H5 hp e5 hx5
          refine oeqStrs hr (ys := ["=", fd.dflt.word]) (zs := ["must"]) (SqL.of (e5 _ _ hr4)) (SqL.of hx5) ?_
          exact ⟨_, rfl, decide_eq_false (fun z => by simp at z), e5⟩
        have hx5 := e5 _ _ hx04
        have hr5 := e5 _ _ hr4
        refine ifF (bnil ?_)
        refine bcut (fun σ' H' => H5 = H' ∧ σ' = [some (.ref l), some (.bl false), some kv, some (.ref r), some (.int fd.mark)]) ?_ ?_
        · top_name
          exact ⟨rfl, rfl, rfl⟩
        rintro _ _ ⟨rfl, rfl⟩
        top_name
        refine vcut (FieldK K H fd) ?_ fin
        refine zmk (nf_Field T) hr (by decide) tk rfl ?_
        top_name
        refine zcall (ok_default_in T) hr (by decide) takesF rfl ?_
        top_name
        refine ⟨kv, fd.kind, fd.dflt, rfl, hk4.ex (nw_sub.trans e5), ok.ki, hp, hsu, hne, fun H6 e6 hdv => ?_⟩
        top_name
        intro a dx ha hd hne'
        refine field_to (Q := FieldK K H fd) ha hd hne' (hk4.ex (nw_sub.trans (e5.trans e6))) hdv fun H7 dx' dv' e7 hf7 hd7 => ?_
        rw [← hm] at hf7
        exact mk fd.dflt ((e04.trans e5).trans e6) e7 ha (hk4.ex (nw_mono (e5.trans e6))) (eff_of hsu) hf7 hd7
end

set_option maxRecDepth 100000
set_option maxHeartbeats 4000000
set_option pp.maxSteps 400
section
open PySem PySem.Spec PyProof.Rows L2 Z
open Evl (Ex)
variable {P : Program} {w : World} {K : PySem.W.Frag} {mg : Str → Option Value} {base : Heap}
local macro_rules | `(tactic| nest_fact) => `(tactic| first | exact at0 | exact at1 | exact at2 | exact rfl)
local macro_rules | `(tactic| tb_rel) => `(tactic| first
  | ((with_reducible refine (?_ : wIx _ (.ref _) (.int _) _ _)); refine ixL (SqL.of (by one_item)) (by nest_fact) ?_)
  | ((with_reducible refine (?_ : wE _ (.Call (.Name "number_of" _) _ _ _) _ _ _)); refine zcall (ok_number_of (by assumption)) (by assumption) (by decide) takesF rfl ?_)
  | ((with_reducible refine (?_ : wE _ (.Call (.Name "is_name" _) _ _ _) _ _ _)); refine zcall (ok_name (by assumption)) (by assumption) (by decide) takesF rfl ?_)
  | ((with_reducible refine (?_ : wE _ (.Call (.Name "need" _) _ _ _) _ _ _)); refine zcall (ok_need (by assumption)) (by assumption) (by decide) takesF rfl ?_)
  | fail)
local macro_rules | `(tactic| tb_rel) => `(tactic| first
  | ((with_reducible refine (?_ : wE _ (.Call (.Attribute _ "append" _) _ _ _) _ _ _)); refine zapp ?_)
  | ((with_reducible refine (?_ : wE _ (.Call (.Attribute _ "extend" _) _ _ _) _ _ _)); refine zext ?_)
  | fail)
/-! ### drafts -/
def toS (n : Int) : Str := toString n
theorem notin_nums (ns : List Int) : inV .non (ns.map V.int) = false := by
  induction ns with
  | nil => rfl
  | cons n ns ih =>
    simp [inV] at ih ⊢
    exact ⟨rfl, ih⟩
theorem flat_ints (ns : List Int) : (ns.map V.int).all flatV = true := by
  rw [List.all_eq_true]; intro x hx; obtain ⟨n, _, rfl⟩ := List.mem_map.mp hx; rfl
def spGi : Sp := fun vs H Q _ => ∃ (l : Addr) (ns : List Int), vs = [.ref l] ∧ H l = some (.lst (.str "gone" :: ns.map fun n => V.str (toS n))) ∧ ns ≠ [] ∧ ns.length ≤ 1000 ∧ (∀ n ∈ ns, 1 ≤ n ∧ n ≤ 200) ∧ ∀ p H', H p = none → Ex H H' → H' p = some (.lst (ns.map V.int)) → Q (.ref p) H'
theorem ok_gone_in (T : Txt K mg) : Gf P w K mg base 3 "gone_in" [] spGi := by
  refine gf_mk T.f_gone_in T.m_gone_in (fun _ _ _ _ _ _ us hl => match us, hl with | [_], _ => rfl) fun fd F => fn_mk F sc_gone_in (fun vs H Q E h => ?_) fun cd A outer s H vs Q E hr tk po h => ?_
  · obtain ⟨l, ns, rfl, _⟩ := h; rfl
  · obtain ⟨l, ns, rfl, hx, hne, hz, hb, q⟩ := h
    have nd := sc_gone_in.nd
    refine bcut (fun σ' H' => Ex H H' ∧ ∃ p, H p = none ∧ H' p = some (.lst (ns.map V.int)) ∧ σ' = [some (.ref l), some (.ref p), none]) ?_ ?_
    · refine slc (i := 1) (y := "numbers") rfl nd rfl rfl [("word", 2)] (blkOk_by (N := N_gone_in) (sc := defScope s_gone_in) (by decide +kernel)) piL (sw_true rfl rfl rfl (by decide +kernel)) (tmL (xs := ns.map fun n => V.str (toS n)) (fun j => (ns.take j).map V.int) rfl ?_)
      top_name
      rename_i p H1 hp e1 hx1
      rw [cutV1] at hx1
      refine ⟨SqL.of hx1, fun j x H2 hx2 e2 => ?_, fun L H2 hL e2 hxL => ?_⟩
      · rw [List.getElem?_map] at hx2
        cases hj : ns[j]? with
        | none => rw [hj] at hx2; cases hx2
        | some n =>
          rw [hj] at hx2
          obtain rfl : V.str (toS n) = x := Option.some.inj hx2
          have hjl := (List.getElem?_eq_some_iff.mp hj).1
          have := hb n (List.mem_of_getElem? hj)
          have hnn : n.natAbs < 2 ^ 256 := by omega
          have hnl := num_len hnn
          top_name
          refine ⟨_, _, rfl, .str _ (by show (toString n : Str).length ≤ _; omega), fun H3 e3 => ?_⟩
          rw [show numO (some (toS n)) = .int n from num_is hnn]
          exact ⟨take_map_succ hj, by show (List.map _ _).length < _; rw [List.length_map, List.length_take, sizeLine_eq]; omega, e3⟩
      · rw [List.length_map, List.take_length] at hxL
        exact ⟨e1.trans e2, L, Evl.fresh_back e1 hL, hxL, rfl⟩
    rintro _ H1 ⟨e1, p, hp0, hp1, rfl⟩
    refine bcut (fun σ' H' => Ex H1 H' ∧ σ' = [some (.ref l), some (.ref p), none]) ?_ ?_
    · top_name
      rename_i p2 H2 hp2 e2 hx2
      refine oneNil hr (SqL.of (e2 _ _ hp1)) (SqL.of hx2) ?_
      have hemp : (ns.map V.int).isEmpty = false := by cases ns with | nil => exact absurd rfl hne | cons _ _ => rfl
      rw [hemp]
      refine ⟨_, rfl, ifT ?_⟩
      top_name
      refine oninF (.inl (SqL.of (e2 _ _ hp1))) rfl (flat_ints ns) ?_
      rw [notin_nums]
      top_name
      exact ⟨rfl, e2, rfl⟩
    rintro _ H2 ⟨e2, rfl⟩
    top_name
    exact q p H2 hp0 (e1.trans e2) (e2 _ _ hp1)
def insD (K : PySem.W.Frag) (dx : Addr) (s : Str) (c : Bool) (lf lg : Addr) : HO := .ins (He.ga K "Draft") dx [("name", .str s), ("is_one", .bl c), ("fields", .ref lf), ("gone", .ref lg)]
def spDI (K : PySem.W.Frag) : Sp := fun vs H Q _ => ∃ (a dx l : Addr) (c : Bool) (s : Str), vs = [.ref a, .ref l] ∧ H a = some (.ins (He.ga K "Draft") dx []) ∧ H l = some (.lst [.str (fword c), .str s]) ∧ nameB s = true ∧
  ∀ H' lf lg, Eb a H H' → H lf = none → H lg = none → lf ≠ lg → H' a = some (insD K dx s c lf lg) → H' lf = some (.lst []) → H' lg = some (.lst []) → Q .non H'
theorem fword_in (c : Bool) : inV (.str (fword c)) [.str "record", .str "choice"] = true := by cases c <;> decide +kernel
theorem fi_Draft (T : Txt K mg) {fd : FuncData} (F : FunD K "__init__" "Draft.__init__" (defArgs s_Draft_init) (defBody s_Draft_init) (defScope s_Draft_init) [] [] (He.fAd K ("Draft", some "__init__")) fd) : FnOk P w K mg base (L2N.CX P w) 3 (He.fAd K ("Draft", some "__init__")) fd ["self", "words"] (spDI K) := by
  refine fn_mk F sc_Draft_init (fun vs H Q E h => ?_) fun cd A outer s0 H vs Q E hr tk po h => ?_
  · obtain ⟨a, dx, l, c, s, rfl, _⟩ := h; rfl
  · obtain ⟨a, dx, l, c, s, rfl, hx, hl, hnm, q⟩ := h
    have nd := sc_Draft_init.nd
    have n1 := T.n_len
    have c1 := T.c_Draft.cl
    have a1 := T.a_Draft_name
    have a2 := T.a_Draft_is_one
    have a3 := T.a_Draft_fields
    have a4 := T.a_Draft_gone
    have hsl := name_len hnm
    have nla : l ≠ a := fun z => by rw [z, hx] at hl; cases hl
    refine bcut (fun σ' H' => Ex H H' ∧ σ' = start N_Draft_init [.ref a, .ref l]) ?_ ?_
    · top_name
      rename_i tp H1 htp e1 hxt
      refine oinF (.inr (SqT.of hxt)) rfl rfl ?_
      rw [fword_in]
      have hl1 := e1 _ _ hl
      refine ⟨_, rfl, ifT ?_⟩
      top_name
      refine ⟨_, _, rfl, .str _ (by omega), fun H2 e2 => ?_⟩
      rw [show nameO (some s) = true from hnm]
      top_name
      exact ⟨rfl, e1.trans e2, rfl⟩
    rintro _ H1 ⟨e1, rfl⟩
    have hx1 := e1 _ _ hx
    have hl1 := e1 _ _ hl
    refine bcut (fun σ' H' => Eb a H H' ∧ H' a = some (.ins (He.ga K "Draft") dx [("name", .str s)]) ∧ σ' = start N_Draft_init [.ref a, .ref l]) ?_ ?_
    · top_name
      refine ⟨a, _, dx, [], rfl, hx1, c1, a1, by decide, ?_⟩
      exact ⟨(Eb.of e1).trans Eb.upd, upd_same, rfl⟩
    rintro _ H2 ⟨e2, hx2, rfl⟩
    have hl2 := e2 _ _ nla hl
    refine bcut (fun σ' H' => Eb a H H' ∧ H' a = some (.ins (He.ga K "Draft") dx [("name", .str s), ("is_one", .bl c)]) ∧ σ' = start N_Draft_init [.ref a, .ref l]) ?_ ?_
    · cases c with
      | true =>
        have hl2 : H2 l = some (.lst [.str "choice", .str s]) := hl2
        top_name
        refine ⟨a, _, dx, _, rfl, hx2, c1, a2, by show 1 < 1000; decide, ?_⟩
        exact ⟨e2.trans Eb.upd, upd_same, rfl⟩
      | false =>
        have hl2 : H2 l = some (.lst [.str "record", .str s]) := hl2
        top_name
        refine ⟨a, _, dx, _, rfl, hx2, c1, a2, by show 1 < 1000; decide, ?_⟩
        exact ⟨e2.trans Eb.upd, upd_same, rfl⟩
    rintro _ H3 ⟨e3, hx3, rfl⟩
    have back : ∀ {H' : Hp} {x : Addr} {o : HO}, Eb a H H' → H' a = some o → H' x = none → H x = none := fun {H' x o} e ha hn => by
      have nx : x ≠ a := fun z => by rw [z, ha] at hn; cases hn
      cases z : H x with
      | none => rfl
      | some o => rw [e _ _ nx z] at hn; cases hn
    refine bcut (fun σ' H' => Eb a H H' ∧ ∃ lf, H lf = none ∧ H' a = some (.ins (He.ga K "Draft") dx [("name", .str s), ("is_one", .bl c), ("fields", .ref lf)]) ∧ H' lf = some (.lst []) ∧ σ' = start N_Draft_init [.ref a, .ref l]) ?_ ?_
    · top_name
      rename_i lf H4 hlf e4 hx4
      refine ⟨a, _, dx, _, rfl, e4 _ _ hx3, c1, a3, by show 2 < 1000; decide, ?_⟩
      have nf : lf ≠ a := fun z => by rw [z, hx3] at hlf; cases hlf
      exact ⟨(e3.trans (Eb.of e4)).trans Eb.upd, lf, back e3 hx3 hlf, upd_same, (upd_ne nf).trans hx4, rfl⟩
    rintro _ H4 ⟨e4, lf, hlf, hx4, hlf4, rfl⟩
    top_name
    rename_i lg H5 hlg e5 hx5
    refine ⟨a, _, dx, _, rfl, e5 _ _ hx4, c1, a4, by show 3 < 1000; decide, ?_⟩
    have ng : lg ≠ a := fun z => by rw [z, hx4] at hlg; cases hlg
    have nf : lf ≠ a := fun z => by rw [z, hx] at hlf; cases hlf
    have nfg : lf ≠ lg := fun z => by rw [← z, hlf4] at hlg; cases hlg
    (repeat refine bnil ?_)
    exact q _ lf lg ((e4.trans (Eb.of e5)).trans Eb.upd) hlf (back e4 hx4 hlg) nfg upd_same ((upd_ne nf).trans (e5 _ _ hlf4)) ((upd_ne ng).trans hx5)
theorem nf_Draft (T : Txt K mg) : Nf P w K mg base 3 "Draft" (He.ga K "Draft") [] (spDI K) := nf_mk T.f_Draft_init T.m_Draft T.mk_Draft (fun _ _ _ _ _ _ us hl => match us, hl with | [_, _], _ => rfl) fun fd F => fi_Draft T F
/-! ### drafts as they stand -/
def cutA (T : List Addr) (H : Hp) : Hp := fun x => if x ∈ T then none else H x
theorem cutA_sub {T : List Addr} {H : Hp} : Ex (cutA T H) H := fun b o e => by
  unfold cutA at e
  split at e
  · cases e
  · exact e
theorem cutA_ex {T : List Addr} {H H' : Hp} (e : Gw T H H') : Ex (cutA T H) (cutA T H') := fun b o q => by
  unfold cutA at q ⊢
  split at q
  · cases q
  · rename_i n
    rw [if_neg n]
    exact e _ _ n q
theorem cutA_upd {T : List Addr} {H : Hp} {x : Addr} {o : HO} (h : x ∈ T) : cutA T (upd H x o) = cutA T H := by
  funext b
  unfold cutA
  by_cases hb : b ∈ T
  · rw [if_pos hb, if_pos hb]
  · rw [if_neg hb, if_neg hb, upd_ne (fun z => hb (by rw [z]; exact h))]
theorem nw_cut {T : List Addr} {H H' : Hp} (h : ∀ x ∈ T, H x ≠ none) : Ex (nw H H') (cutA T H') := fun b o q => by
  unfold cutA
  rw [if_neg (fun z => ?_)]
  · exact nw_sub _ _ q
  · unfold nw at q
    cases hb : H b with
    | none => exact h b z hb
    | some o => rw [hb] at q; cases q
structure DZ where
  a : Addr
  dx : Addr
  lf : Addr
  lg : Addr
  ws : List V
  fm : FM
def cells (D : Addr) (zs : List DZ) : List Addr := D :: zs.flatMap fun z => [z.lf, z.lg]
structure DrI (K : PySem.W.Frag) (H : Hp) (D : Addr) (zs : List DZ) : Prop where
  at_ : H D = some (.lst (zs.map fun z => V.ref z.a))
  each : ∀ z ∈ zs, H z.a = some (insD K z.dx z.fm.name z.fm.choice z.lf z.lg) ∧ H z.lf = some (.lst z.ws) ∧ H z.lg = some (.lst (z.fm.gone.map V.int)) ∧ FOs K (cutA (cells D zs) H) z.ws z.fm.fields
  nd : (cells D zs).Nodup
theorem DrI.on {H : Hp} {D : Addr} {zs : List DZ} (h : DrI K H D zs) : ∀ x ∈ cells D zs, ∃ xs, H x = some (.lst xs) := fun x hx => by
  rcases List.mem_cons.mp hx with rfl | hx
  · exact ⟨_, h.at_⟩
  · obtain ⟨z, hz, hx⟩ := List.mem_flatMap.mp hx
    rcases List.mem_cons.mp hx with rfl | hx
    · exact ⟨_, (h.each z hz).2.1⟩
    · rw [List.mem_singleton.mp hx]; exact ⟨_, (h.each z hz).2.2.1⟩
theorem DrI.ex {H H' : Hp} {D : Addr} {zs : List DZ} (h : DrI K H D zs) (e : Ex H H') : DrI K H' D zs :=
  ⟨e _ _ h.at_, fun z hz => ⟨e _ _ (h.each z hz).1, e _ _ (h.each z hz).2.1, e _ _ (h.each z hz).2.2.1, (h.each z hz).2.2.2.ex (cutA_ex (Gw.of e))⟩, h.nd⟩
theorem cells_app (D : Addr) (zs : List DZ) (z : DZ) : cells D (zs ++ [z]) = cells D zs ++ [z.lf, z.lg] := by
  unfold cells
  rw [List.flatMap_append]
  rfl
theorem cells_last {D : Addr} {zs : List DZ} {z : DZ} (h : (cells D (zs ++ [z])).Nodup) : z.lf ≠ D ∧ z.lg ≠ D ∧ z.lf ≠ z.lg ∧ ∀ y ∈ zs, y.lf ≠ z.lf ∧ y.lg ≠ z.lf ∧ y.lf ≠ z.lg ∧ y.lg ≠ z.lg := by
  rw [cells_app] at h
  have h := List.pairwise_append.mp h
  have ha := h.2.2
  refine ⟨fun e => ha D List.mem_cons_self z.lf List.mem_cons_self e.symm, fun e => ha D List.mem_cons_self z.lg (List.mem_cons_of_mem _ List.mem_cons_self) e.symm, ?_, fun y hy => ?_⟩
  · have := (List.pairwise_cons.mp h.2.1).1 z.lg List.mem_cons_self
    exact this
  · have m1 : y.lf ∈ cells D zs := List.mem_cons_of_mem _ (List.mem_flatMap.mpr ⟨y, hy, List.mem_cons_self⟩)
    have m2 : y.lg ∈ cells D zs := List.mem_cons_of_mem _ (List.mem_flatMap.mpr ⟨y, hy, List.mem_cons_of_mem _ List.mem_cons_self⟩)
    exact ⟨ha _ m1 _ List.mem_cons_self, ha _ m2 _ List.mem_cons_self, ha _ m1 _ (List.mem_cons_of_mem _ List.mem_cons_self), ha _ m2 _ (List.mem_cons_of_mem _ List.mem_cons_self)⟩
def FM.addF (fm : FM) (fd : FD) : FM := { fm with fields := fm.fields ++ [fd] }
def FM.addG (fm : FM) (ns : List Int) : FM := { fm with gone := fm.gone ++ ns }
theorem mem_app_last {α : Type} {xs : List α} {x y : α} (h : y ∈ xs ++ [x]) : y ∈ xs ∨ y = x := (List.mem_append.mp h).imp id List.mem_singleton.mp
theorem DrI.field {H H1 : Hp} {D : Addr} {zs : List DZ} {z : DZ} {a : Addr} {fd : FD} (h : DrI K H D (zs ++ [z])) (e : Ex H H1) (hf : FO K (nw H H1) a fd) :
    DrI K (upd H1 z.lf (.lst (z.ws ++ [.ref a]))) D (zs ++ [{ z with ws := z.ws ++ [.ref a], fm := z.fm.addF fd }]) := by
  have on := h.on
  have hc : cells D (zs ++ [{ z with ws := z.ws ++ [.ref a], fm := z.fm.addF fd }]) = cells D (zs ++ [z]) := by rw [cells_app, cells_app]
  obtain ⟨n1, n2, n3, n4⟩ := cells_last h.nd
  have mf : z.lf ∈ cells D (zs ++ [z]) := by rw [cells_app]; exact List.mem_append_right _ List.mem_cons_self
  have hne : ∀ {x : Addr} {C dx : Addr} {fs : List (Str × V)}, H x = some (.ins C dx fs) → x ≠ z.lf := fun hx y => by
    obtain ⟨xs, hxs⟩ := on _ mf
    rw [y, hxs] at hx; cases hx
  have hz := h.each z (List.mem_append_right _ List.mem_cons_self)
  refine ⟨?_, fun y hy => ?_, by rw [hc]; exact h.nd⟩
  · rw [upd_ne n1.symm, e _ _ h.at_, List.map_append, List.map_append]
    rfl
  · rw [hc, cutA_upd mf]
    rcases mem_app_last hy with hy | rfl
    · have q := h.each y (List.mem_append_left _ hy)
      obtain ⟨m1, m2, m3, m4⟩ := n4 y hy
      exact ⟨(upd_ne (hne q.1)).trans (e _ _ q.1), (upd_ne m1).trans (e _ _ q.2.1), (upd_ne m2).trans (e _ _ q.2.2.1), q.2.2.2.ex (cutA_ex (Gw.of e))⟩
    · exact ⟨(upd_ne (hne hz.1)).trans (e _ _ hz.1), upd_same, (upd_ne n3.symm).trans (e _ _ hz.2.2.1), (hz.2.2.2.ex (cutA_ex (Gw.of e))).one (hf.ex (nw_cut fun x hx => by obtain ⟨xs, hxs⟩ := on x hx; rw [hxs]; exact fun z => by cases z))⟩
theorem DrI.gone {H H1 : Hp} {D : Addr} {zs : List DZ} {z : DZ} {ns : List Int} (h : DrI K H D (zs ++ [z])) (e : Ex H H1) :
    DrI K (upd H1 z.lg (.lst (z.fm.gone.map V.int ++ ns.map V.int))) D (zs ++ [{ z with fm := z.fm.addG ns }]) := by
  have on := h.on
  have hc : cells D (zs ++ [{ z with fm := z.fm.addG ns }]) = cells D (zs ++ [z]) := by rw [cells_app, cells_app]
  obtain ⟨n1, n2, n3, n4⟩ := cells_last h.nd
  have mf : z.lg ∈ cells D (zs ++ [z]) := by rw [cells_app]; exact List.mem_append_right _ (List.mem_cons_of_mem _ List.mem_cons_self)
  have hne : ∀ {x : Addr} {C dx : Addr} {fs : List (Str × V)}, H x = some (.ins C dx fs) → x ≠ z.lg := fun hx y => by
    obtain ⟨xs, hxs⟩ := on _ mf
    rw [y, hxs] at hx; cases hx
  have hz := h.each z (List.mem_append_right _ List.mem_cons_self)
  refine ⟨?_, fun y hy => ?_, by rw [hc]; exact h.nd⟩
  · rw [upd_ne n2.symm, e _ _ h.at_, List.map_append, List.map_append]
    rfl
  · rw [hc, cutA_upd mf]
    rcases mem_app_last hy with hy | rfl
    · have q := h.each y (List.mem_append_left _ hy)
      obtain ⟨m1, m2, m3, m4⟩ := n4 y hy
      exact ⟨(upd_ne (hne q.1)).trans (e _ _ q.1), (upd_ne m3).trans (e _ _ q.2.1), (upd_ne m4).trans (e _ _ q.2.2.1), q.2.2.2.ex (cutA_ex (Gw.of e))⟩
    · refine ⟨(upd_ne (hne hz.1)).trans (e _ _ hz.1), (upd_ne n3).trans (e _ _ hz.2.1), ?_, hz.2.2.2.ex (cutA_ex (Gw.of e))⟩
      rw [upd_same, ← List.map_append]
      rfl
theorem DrI.head {H H1 : Hp} {D : Addr} {zs : List DZ} {z : DZ} (h : DrI K H D zs) (e : Ex H H1) (hf : H z.lf = none) (hg : H z.lg = none) (hn : z.lf ≠ z.lg) (ha : H1 z.a = some (insD K z.dx z.fm.name z.fm.choice z.lf z.lg)) (hl : H1 z.lf = some (.lst [])) (hlg : H1 z.lg = some (.lst [])) (hw : z.ws = []) (hff : z.fm.fields = []) (hgg : z.fm.gone = []) :
    DrI K (upd H1 D (.lst (zs.map (fun z => V.ref z.a) ++ [.ref z.a]))) D (zs ++ [z]) := by
  have on := h.on
  have nnew : ∀ {x y : Addr}, x ∈ cells D zs → H y = none → x ≠ y := fun hx hy q => by
    obtain ⟨xs, hxs⟩ := on _ hx
    rw [q, hy] at hxs; cases hxs
  have mD : D ∈ cells D zs := List.mem_cons_self
  have hne : ∀ {x : Addr} {H0 : Hp} {C dx : Addr} {fs : List (Str × V)}, H0 x = some (.ins C dx fs) → (∃ xs, H0 D = some (.lst xs)) → x ≠ D := fun hx hd y => by
    obtain ⟨xs, hxs⟩ := hd
    rw [y, hxs] at hx; cases hx
  have hD1 : ∃ xs, H1 D = some (.lst xs) := ⟨_, e _ _ h.at_⟩
  have mono : Ex (cutA (cells D zs) H) (cutA (cells D (zs ++ [z])) (upd H1 D (.lst (zs.map (fun z => V.ref z.a) ++ [.ref z.a])))) := fun b o q => by
    have nb : b ∉ cells D zs := fun y => by unfold cutA at q; rw [if_pos y] at q; cases q
    have q' := cutA_sub _ _ q
    unfold cutA
    rw [if_neg (fun y => ?_)]
    · rw [upd_ne (fun y => nb (by rw [y]; exact mD))]; exact e _ _ q'
    · rw [cells_app] at y
      rcases List.mem_append.mp y with y | y
      · exact nb y
      · rcases List.mem_cons.mp y with rfl | y
        · rw [hf] at q'; cases q'
        · rw [List.mem_singleton.mp y, hg] at q'; cases q'
  refine ⟨?_, fun y hy => ?_, ?_⟩
  · rw [upd_same, List.map_append]; rfl
  · rcases mem_app_last hy with hy | rfl
    · have q := h.each y hy
      have m1 : y.lf ∈ cells D zs := List.mem_cons_of_mem _ (List.mem_flatMap.mpr ⟨y, hy, List.mem_cons_self⟩)
      have m2 : y.lg ∈ cells D zs := List.mem_cons_of_mem _ (List.mem_flatMap.mpr ⟨y, hy, List.mem_cons_of_mem _ List.mem_cons_self⟩)
      have hnd := (List.pairwise_cons.mp h.nd).1
      have d1 : y.lf ≠ D := fun z => hnd _ (List.mem_flatMap.mpr ⟨y, hy, List.mem_cons_self⟩) z.symm
      have d2 : y.lg ≠ D := fun z => hnd _ (List.mem_flatMap.mpr ⟨y, hy, List.mem_cons_of_mem _ List.mem_cons_self⟩) z.symm
      exact ⟨(upd_ne (hne q.1 ⟨_, h.at_⟩)).trans (e _ _ q.1), (upd_ne d1).trans (e _ _ q.2.1), (upd_ne d2).trans (e _ _ q.2.2.1), q.2.2.2.ex mono⟩
    · refine ⟨(upd_ne (hne ha hD1)).trans ha, (upd_ne (nnew mD hf).symm).trans (by rw [hl, hw]), (upd_ne (nnew mD hg).symm).trans (by rw [hlg, hgg]; rfl), ?_⟩
      rw [hw, hff]
      exact FOs.nil
  · rw [cells_app]
    refine List.pairwise_append.mpr ⟨h.nd, .cons (fun x hx => by rw [List.mem_singleton.mp hx]; exact hn) (.cons (fun _ h => nomatch h) .nil), fun x hx y hy => ?_⟩
    rcases List.mem_cons.mp hy with rfl | hy
    · exact nnew hx hf
    · rw [List.mem_singleton.mp hy]; exact nnew hx hg
end

set_option maxRecDepth 100000
set_option maxHeartbeats 4000000
set_option pp.maxSteps 400
section
open PySem PySem.Spec PyProof.Rows L2 Z
open Evl (Ex)
variable {P : Program} {w : World} {K : PySem.W.Frag} {mg : Str → Option Value} {base : Heap}
local macro_rules | `(tactic| nest_fact) => `(tactic| first | exact at0 | exact at1 | exact at2 | exact rfl)
local macro_rules | `(tactic| tb_rel) => `(tactic| first
  | ((with_reducible refine (?_ : wIx _ (.ref _) (.int _) _ _)); refine ixL (SqL.of (by one_item)) (by nest_fact) ?_)
  | ((with_reducible refine (?_ : wE _ (.Call (.Name "number_of" _) _ _ _) _ _ _)); refine zcall (ok_number_of (by assumption)) (by assumption) (by decide) takesF rfl ?_)
  | ((with_reducible refine (?_ : wE _ (.Call (.Name "is_name" _) _ _ _) _ _ _)); refine zcall (ok_name (by assumption)) (by assumption) (by decide) takesF rfl ?_)
  | ((with_reducible refine (?_ : wE _ (.Call (.Name "need" _) _ _ _) _ _ _)); refine zcall (ok_need (by assumption)) (by assumption) (by decide) takesF rfl ?_)
  | fail)
local macro_rules | `(tactic| tb_rel) => `(tactic| first
  | ((with_reducible refine (?_ : wE _ (.Call (.Attribute _ "append" _) _ _ _) _ _ _)); refine zapp ?_)
  | ((with_reducible refine (?_ : wE _ (.Call (.Attribute _ "extend" _) _ _ _) _ _ _)); refine zext ?_)
  | fail)
/-! ### lines, plainly -/
inductive It8 where
  | head (c : Bool) (s : Str)
  | field (fd : FD)
  | gone (ns : List Int)
def It8.words : It8 → List Str
  | .head c s => [fword c, s]
  | .field fd => fd.words
  | .gone ns => "gone" :: ns.map toS
def It8.line (it : It8) : Str := Txt.join " " it.words
def onLast (f : FM → FM) : List FM → List FM
  | [] => []
  | [x] => [f x]
  | x :: y :: r => x :: onLast f (y :: r)
theorem onLast_app (f : FM → FM) : ∀ (xs : List FM) (x : FM), onLast f (xs ++ [x]) = xs ++ [f x]
  | [], _ => rfl
  | [y], x => rfl
  | y :: z :: r, x => by
    show y :: onLast f ((z :: r) ++ [x]) = _
    rw [onLast_app f (z :: r) x]
    rfl
def It8.step (ds : List FM) : It8 → List FM
  | .head c s => ds ++ [⟨s, c, [], []⟩]
  | .field fd => onLast (fun d => d.addF fd) ds
  | .gone ns => onLast (fun d => d.addG ns) ds
def It8.ok (ds : List FM) : It8 → Prop
  | .head _ s => nameB s = true
  | .field fd => ∃ d, ds.getLast? = some d ∧ FdFit fd d.choice
  | .gone ns => ds ≠ [] ∧ ns ≠ [] ∧ ns.length ≤ 10 ∧ ∀ n ∈ ns, 1 ≤ n ∧ n ≤ 200
/-- a word without blanks -/
def goodW (x : Str) : Prop := x ≠ "" ∧ 32 ∉ x.cps.toList
theorem good_name {s : Str} (h : nameB s = true) : goodW s := by
  unfold nameB at h
  rw [Bool.and_eq_true] at h
  have h1 := of_decide_eq_true h.1
  refine ⟨fun z => by rw [z] at h1; exact absurd h1.1 (by decide), fun hc => ?_⟩
  have := of_decide_eq_true (List.all_eq_true.mp h.2 32 hc)
  exact absurd this (by decide +kernel)
theorem good_num (n : Int) : goodW (toS n) := by
  have e : (toS n).cps.toList = _ := tl_numI n
  have hd : ∀ c ∈ TL.numL n.natAbs, 48 ≤ c := fun c hc => (TL.numL_digits _ c hc).1
  refine ⟨fun z => ?_, fun hc => ?_⟩
  · rw [z] at e
    have hne := TL.numL_ne n.natAbs
    split at e
    · cases e
    · exact hne e.symm
  · rw [e] at hc
    split at hc
    · rcases List.mem_cons.mp hc with z | z
      · cases z
      · have := hd _ z; omega
    · have := hd _ hc; omega
theorem good_words : ∀ {k : KD}, k.flat → ∀ w ∈ k.words, goodW w
  | .truth, _, w, hw => by rw [List.mem_singleton.mp hw]; exact ⟨by decide +kernel, by decide +kernel⟩
  | .count, _, w, hw => by rw [List.mem_singleton.mp hw]; exact ⟨by decide +kernel, by decide +kernel⟩
  | .whole, _, w, hw => by rw [List.mem_singleton.mp hw]; exact ⟨by decide +kernel, by decide +kernel⟩
  | .upto n, h, w, hw => by
    have hw : w ∈ [("upto" : Str), toString n] := hw
    rcases List.mem_cons.mp hw with rfl | hw
    · exact ⟨by decide +kernel, by decide +kernel⟩
    · rw [List.mem_singleton.mp hw]; exact good_num n
  | .text n, h, w, hw => by
    unfold KD.words at hw
    split at hw
    · rw [List.mem_singleton.mp hw]; exact ⟨by decide +kernel, by decide +kernel⟩
    · rcases List.mem_cons.mp hw with rfl | hw
      · exact ⟨by decide +kernel, by decide +kernel⟩
      · rw [List.mem_singleton.mp hw]; exact good_num n
  | .form s, h, w, hw => by
    have hw : w ∈ [("form" : Str), s] := hw
    rcases List.mem_cons.mp hw with rfl | hw
    · exact ⟨by decide +kernel, by decide +kernel⟩
    · rw [List.mem_singleton.mp hw]; exact good_name h
  | .list k, h, w, hw => by
    have hw : w ∈ ("list" : Str) :: k.words := hw
    rcases List.mem_cons.mp hw with rfl | hw
    · exact ⟨by decide +kernel, by decide +kernel⟩
    · exact good_words (k := k) (by cases k <;> first | exact h.elim | exact h) w hw
theorem good_fd {fd : FD} {c : Bool} (h : FdFit fd c) : ∀ w ∈ fd.words, goodW w := fun w hw => by
  unfold FD.words FD.head FD.tail at hw
  rcases List.mem_append.mp hw with hw | hw
  · rcases List.mem_append.mp hw with hw | hw
    · rcases List.mem_cons.mp hw with rfl | hw
      · exact good_num _
      · rw [List.mem_singleton.mp hw]; exact good_name h.ok.nm
    · exact good_words h.flat w hw
  · split at hw
    · rw [List.mem_singleton.mp hw]; exact ⟨by decide +kernel, by decide +kernel⟩
    · split at hw
      · rename_i ht
        rcases List.mem_cons.mp hw with rfl | hw
        · exact ⟨by decide +kernel, by decide +kernel⟩
        · rw [List.mem_singleton.mp hw]
          obtain ⟨hp, hs, hne⟩ := told_suits h.ok ht
          generalize fd.dflt = d at hs hne
          generalize fd.kind = k at hs hne hp
          cases d with
          | bl b => cases b <;> exact ⟨by decide +kernel, by decide +kernel⟩
          | int i => exact good_num i
          | str z =>
            cases k with
            | text n =>
              have hz : z = "" ∨ (nameB z = true ∧ (z.length : Int) ≤ n) := hs
              rcases hz with rfl | hz
              · exact absurd (show (!decide (("" : Str) = "")) = true from hne) (by decide +kernel)
              · exact good_name hz.1
            | _ => exact hs.elim
          | none => cases k <;> exact hs.elim
          | list => cases k <;> exact hs.elim
      · cases hw
theorem It8.good {ds : List FM} {it : It8} (h : it.ok ds) : ∀ w ∈ it.words, goodW w := by
  cases it with
  | head c s =>
    intro w hw
    rcases List.mem_cons.mp hw with rfl | hw
    · cases c <;> exact ⟨by decide +kernel, by decide +kernel⟩
    · rw [List.mem_singleton.mp hw]; exact good_name h
  | field fd => obtain ⟨d, _, hf⟩ := h; exact good_fd hf
  | gone ns =>
    intro w hw
    rcases List.mem_cons.mp hw with rfl | hw
    · exact ⟨by decide +kernel, by decide +kernel⟩
    · obtain ⟨n, _, rfl⟩ := List.mem_map.mp hw; exact good_num n
theorem It8.ne (it : It8) : it.words ≠ [] := by
  cases it with
  | head c s => exact List.cons_ne_nil _ _
  | field fd => exact List.cons_ne_nil _ _
  | gone ns => exact List.cons_ne_nil _ _
theorem It8.split {ds : List FM} {it : It8} (h : it.ok ds) : Txt.split it.line " " = it.words :=
  TL.split_join (s := 32) (S := []) (by decide +kernel) (by decide +kernel) it.ne fun p hp => (It8.good h p hp).2
theorem It8.whole {ds : List FM} {it : It8} (h : it.ok ds) : ("" : Str) ∉ it.words := fun z => (It8.good h _ z).1 rfl
/-! ### a draft's methods -/
theorem zs_last {zs : List DZ} {d : FM} (h : (zs.map (·.fm)).getLast? = some d) : ∃ zs0 z, zs = zs0 ++ [z] ∧ z.fm = d := by
  rcases List.eq_nil_or_concat zs with rfl | ⟨zs0, z, rfl⟩
  · cases h
  · refine ⟨zs0, z, by simp, ?_⟩
    simpa using h
def spDP (K : PySem.W.Frag) : Sp := fun vs H Q _ => ∃ (l D : Addr) (zs : List DZ) (z : DZ) (it : It8), vs = [.ref z.a, .ref l] ∧ H l = some (.lst (it.words.map V.str)) ∧ DrI K H D (zs ++ [z]) ∧ z.ws.length ≤ 1000 ∧ z.fm.gone.length ≤ 1000 ∧ it.ok ((zs ++ [z]).map (·.fm)) ∧ (∀ c s, it ≠ .head c s) ∧
  ∀ H' z', Gw (cells D (zs ++ [z])) H H' → DrI K H' D (zs ++ [z']) → z'.lf = z.lf → z'.lg = z.lg → (zs ++ [z']).map (·.fm) = it.step ((zs ++ [z]).map (·.fm)) → Q .non H'
theorem num_letters (n : Int) {z : Str} (h : ∃ c r, z.cps.toList = c :: r ∧ 58 ≤ c) : toS n ≠ z := fun e0 => by
  obtain ⟨c, r, hz, hc⟩ := h
  have e : (toS n).cps.toList = _ := tl_numI n
  rw [e0, hz] at e
  have hd : ∀ c ∈ TL.numL n.natAbs, 48 ≤ c ∧ c ≤ 57 := TL.numL_digits _
  split at e
  · have := (List.cons.inj e).1; omega
  · have := hd c (by rw [← e]; exact List.mem_cons_self)
    omega
theorem num_not_gone (n : Int) : toS n ≠ "gone" := fun z => by
  have e : (toS n).cps.toList = _ := tl_numI n
  rw [z] at e
  have e : [103, 111, 110, 101] = _ := e
  have hd : ∀ c ∈ TL.numL n.natAbs, 48 ≤ c ∧ c ≤ 57 := TL.numL_digits _
  split at e
  · cases e
  · have := hd 103 (by rw [← e]; exact List.mem_cons_self)
    omega
theorem mf_put_line (T : Txt K mg) : Mf P w K mg base 7 (He.ga K "Draft") "put_line" [] (spDP K) := by
  refine mf_mk T.f_Draft_put_line T.c_Draft.cl T.h_Draft_put_line (fun _ _ _ _ _ _ us hl => match us, hl with | [_, _], _ => rfl) fun fd F => fn_mk F sc_Draft_put_line (fun vs H Q E h => ?_) fun cd A outer s H vs Q E hr tk po h => ?_
  · obtain ⟨l, D, zs, z, it, rfl, _⟩ := h; rfl
  · obtain ⟨l, D, zs, z, it, rfl, hl, hI, hz1, hz2, hok, hnh, q⟩ := h
    have nd := sc_Draft_put_line.nd
    have c1 := T.c_Draft.cl
    have a2 := T.a_Draft_is_one
    have a3 := T.a_Draft_fields
    have a4 := T.a_Draft_gone
    obtain ⟨i1, i2, i3, i4⟩ := hI.each z (List.mem_append_right _ List.mem_cons_self)
    unfold insD at i1
    have mf : z.lf ∈ cells D (zs ++ [z]) := by rw [cells_app]; exact List.mem_append_right _ List.mem_cons_self
    have mg' : z.lg ∈ cells D (zs ++ [z]) := by rw [cells_app]; exact List.mem_append_right _ (List.mem_cons_of_mem _ List.mem_cons_self)
    cases it with
    | head c s => exact absurd rfl (hnh c s)
    | gone ns =>
      obtain ⟨_, hne, h10, hb⟩ := hok
      have hl : H l = some (.lst (.str "gone" :: ns.map fun n => V.str (toS n))) := by
        rw [hl]
        show some (HO.lst (V.str "gone" :: (ns.map toS).map V.str)) = _
        rw [List.map_map]
        rfl
      top_name
      refine ⟨z.lg, _, rfl, i3, ?_⟩
      top_name
      refine zcall (ok_gone_in T) hr (by decide) takesF rfl ?_
      top_name
      refine ⟨l, ns, rfl, hl, hne, by omega, hb, fun p H1 hp e1 hx1 => ?_⟩
      refine ⟨_, _, p, rfl, e1 _ _ i3, hx1, by rw [List.length_map, List.length_map, sizeLine_eq]; omega, ?_⟩
      (repeat refine bnil ?_)
      refine q _ { z with fm := z.fm.addG ns } ((Gw.of e1).trans (Gw.put mg')) (hI.gone e1) rfl rfl ?_
      show _ = onLast _ _
      rw [List.map_append, List.map_append]
      exact (onLast_app (fun d => d.addG ns) (zs.map (·.fm)) z.fm).symm
    | field fd =>
      obtain ⟨d, hd, fit⟩ := hok
      have hd : d = z.fm := by simpa using hd.symm
      subst hd
      have hl : H l = some (.lst (.str (toS fd.mark) :: .str fd.name :: (fd.kind.words.map V.str ++ fd.tail.map V.str))) := by
        rw [hl]
        show some (HO.lst (fd.words.map V.str)) = _
        unfold FD.words FD.head
        rw [List.map_append, List.map_append]
        rfl
      have hl' : H l = some (.lst (fd.words.map V.str)) := by
        rw [hl]
        unfold FD.words FD.head
        rw [List.map_append, List.map_append]
        rfl
      have hng := num_not_gone fd.mark
      refine bcons (sif (tcut false ?_ ?_))
      · top_name
        exact ⟨decide_eq_false (fun y => hng (V.str.inj y)), rfl⟩
      refine ifF ?_
      clear hl
      top_name
      refine ⟨z.lf, _, rfl, i2, ?_⟩
      refine zcall (ok_field_in T) hr (by decide) takesF rfl ?_
      top_name
      refine ⟨l, z.fm.choice, fd, rfl, hl', fit, fun a H1 e1 ha hfo => ?_⟩
      refine ⟨_, e1 _ _ i2, by rw [sizeLine_eq]; omega, ?_⟩
      (repeat refine bnil ?_)
      refine q _ { z with ws := z.ws ++ [.ref a], fm := z.fm.addF fd } ((Gw.of e1).trans (Gw.put mf)) (hI.field e1 hfo) rfl rfl ?_
      show _ = onLast _ _
      rw [List.map_append, List.map_append]
      exact (onLast_app (fun d => d.addF fd) (zs.map (·.fm)) z.fm).symm
def spMd (K : PySem.W.Frag) (TP : Addr) : Sp := fun vs H Q _ => ∃ (a dx lf lg : Addr) (ws : List V) (fm : FM) (G : Hp), vs = [.ref a] ∧ H a = some (insD K dx fm.name fm.choice lf lg) ∧ del H TP lf = some (.lst ws) ∧ del H TP lg = some (.lst (fm.gone.map V.int)) ∧ Ex G (del H TP) ∧ FOs K G ws fm.fields ∧ ws.length ≤ 1000 ∧ fm.gone.length < 64 ∧ LamX.TabS H TP lamQ ∧
  ∀ b H' gds (ms : List Int), H b = none → Ex (del H TP) (del H' TP) → LamX.TabS H' TP lamQ → ROn K H (del H' TP) G b ⟨fm.name, fm.choice, gds, ms⟩ → gds.Perm fm.fields → gds.Pairwise (fun x y => x.mark ≤ y.mark) → ms.Perm fm.gone → ms.Pairwise (· ≤ ·) → Q (.ref b) H'
theorem mf_made (T : Txt K mg) (TB : LamX.TabB base mg (He.codeOf K ("by_numbers", none)) (He.tabOf K (He.codeOf K ("by_numbers", none)))) : Mf P w K mg base 7 (He.ga K "Draft") "made" [] (spMd K (He.tabOf K (He.codeOf K ("by_numbers", none)))) := by
  refine mf_mk T.f_Draft_made T.c_Draft.cl T.h_Draft_made (fun _ _ _ _ _ _ us hl => match us, hl with | [_], _ => rfl) fun fd F => fn_mk F sc_Draft_made (fun vs H Q E h => ?_) fun cd A outer s H vs Q E hr tk po h => ?_
  · obtain ⟨a, dx, lf, lg, ws, fm, G, rfl, _⟩ := h; rfl
  · obtain ⟨a, dx, lf, lg, ws, fm, G, rfl, hx, hlf, hlg, eG, hF, hz1, hz2, hT, q⟩ := h
    have F1 := nf_Form (P := P) (w := w) T TB true
    have F2 := nf_Form (P := P) (w := w) T TB false
    generalize hTP : He.tabOf K (He.codeOf K ("by_numbers", none)) = TP at *
    have nd := sc_Draft_made.nd
    have c1 := T.c_Draft.cl
    have a1 := T.a_Draft_name
    have a2 := T.a_Draft_is_one
    have a3 := T.a_Draft_fields
    have a4 := T.a_Draft_gone
    unfold insD at hx
    cases hc : fm.choice with
    | true =>
      rw [hc] at hx q
      top_name
      refine zmk F1 hr (by decide) takesF rfl ?_
      top_name
      intro b bx hb hbx hne
      exact form_to (Q := Q) (c := true) hb hbx hne (.inl hlf) hz1 eG hF hT (.inr ⟨lg, rfl, .inl hlg⟩) hz2 fun H' gds ms e t ro pm pw pm' pw' => q b H' gds ms hb e t ro pm pw pm' pw'
    | false =>
      rw [hc] at hx q
      top_name
      refine zmk F2 hr (by decide) takesF rfl ?_
      top_name
      intro b bx hb hbx hne
      exact form_to (Q := Q) (c := false) hb hbx hne (.inl hlf) hz1 eG hF hT (.inr ⟨lg, rfl, .inl hlg⟩) hz2 fun H' gds ms e t ro pm pw pm' pw' => q b H' gds ms hb e t ro pm pw pm' pw'
/-! ### lines of a book -/
theorem it_len {ds : List FM} {it : It8} (h : it.ok ds) : it.line.length ≤ 100000 ∧ it.words.length ≤ 1000 := by
  have key : ∀ ws : List Str, ws.length ≤ 20 → (∀ w ∈ ws, w.length ≤ 100) → (Txt.join " " ws).length ≤ 100000 ∧ ws.length ≤ 1000 := fun ws h1 h2 => by
    have hs := sum_le h2
    have hj := PySem.StrLaws.join_length_le " " ws
    rw [← TL.join_eq] at hj
    have : (" " : Str).length = 1 := rfl
    rw [this] at hj
    omega
  cases it with
  | head c z =>
    refine key _ (by show 2 ≤ 20; decide) fun w hw => ?_
    have h : nameB z = true := h
    rcases List.mem_cons.mp hw with rfl | hw
    · cases c <;> decide
    · rw [List.mem_singleton.mp hw]; have := name_len h; omega
  | field fd =>
    obtain ⟨d, _, fit⟩ := h
    obtain ⟨h1, h2⟩ := fit.ok.head_small
    obtain ⟨h3, h4⟩ := fit.ok.tail_small
    refine key fd.words (by unfold FD.words; rw [List.length_append]; omega) fun y hy => (List.mem_append.mp hy).elim (h2 y) (h4 y)
  | gone ns =>
    obtain ⟨_, _, h10, hb⟩ := h
    refine key _ (by show (ns.map toS).length + 1 ≤ 20; rw [List.length_map]; omega) fun w hw => ?_
    rcases List.mem_cons.mp hw with rfl | hw
    · decide
    · obtain ⟨n, hn, rfl⟩ := List.mem_map.mp hw
      have := hb n hn
      have := num_len (n := n) (by omega)
      show (toString n : Str).length ≤ 100
      omega
def spPL (K : PySem.W.Frag) : Sp := fun vs H Q _ => ∃ (D : Addr) (zs : List DZ) (it : It8), vs = [.ref D, .str it.line] ∧ DrI K H D zs ∧ zs.length ≤ 1000 ∧ (∀ z ∈ zs, z.ws.length ≤ 1000 ∧ z.fm.gone.length ≤ 1000) ∧ it.ok (zs.map (·.fm)) ∧
  ∀ H' zs', Gw (cells D zs) H H' → DrI K H' D zs' → (∀ x ∈ cells D zs', x ∈ cells D zs ∨ H x = none) → zs'.map (·.fm) = it.step (zs.map (·.fm)) → Q .non H'
theorem ok_put_line (T : Txt K mg) : Gf P w K mg base 8 "put_line" [] (spPL K) := by
  refine gf_mk T.f_put_line T.m_put_line (fun _ _ _ _ _ _ us hl => match us, hl with | [_, _], _ => rfl) fun fd F => fn_mk F sc_put_line (fun vs H Q E h => ?_) fun cd A outer s H vs Q E hr tk po h => ?_
  · obtain ⟨D, zs, it, rfl, _⟩ := h; rfl
  · obtain ⟨D, zs, it, rfl, hI, hz1, hz2, hok, q⟩ := h
    have nd := sc_put_line.nd
    obtain ⟨b1, b2⟩ := it_len hok
    have hsp := It8.split hok
    have hwh := It8.whole hok
    refine bcut (fun σ' H' => Ex H H' ∧ ∃ l, H' l = some (.lst (it.words.map V.str)) ∧ σ' = [some (.ref D), some (.str it.line), some (.ref l)]) ?_ ?_
    · top_name
      refine zcall (ok_words T) hr (by decide) takesF rfl ?_
      top_name
      refine ⟨_, _, rfl, .str _ b1, ?_⟩
      show if ("" : Str) ∈ Txt.split it.line " " then _ else _
      rw [hsp, if_neg hwh]
      exact fun t H' ht e hx => ⟨e, t, hx, rfl⟩
    rintro _ H1 ⟨e1, l, hl, rfl⟩
    refine bcut (fun σ' H' => H1 = H' ∧ σ' = [some (.ref D), some (.str it.line), some (.ref l)]) ?_ ?_
    · top_name
      exact ⟨rfl, rfl, rfl⟩
    rintro _ _ ⟨rfl, rfl⟩
    have hI1 := hI.ex e1
    have wD : ∃ xs, H D = some (.lst xs) := ⟨_, hI.at_⟩
    -- a line of the last form
    have more : (∀ c s, it ≠ .head c s) → (∃ x, it.words.head? = some x ∧ x ≠ "record" ∧ x ≠ "choice") → zs ≠ [] → wB (cx P w K mg base N_put_line "put_line" (defScope s_put_line) (He.fAd K ("put_line", none)) cd A outer s H E) ((defBody s_put_line).drop 2) { nx := fun _ H' => Q .non H', rt := Q } [some (.ref D), some (.str it.line), some (.ref l)] H1 := fun hnh ⟨x, hx0, hx1, hx2⟩ hne => by
      obtain ⟨rs, hrs⟩ : ∃ rs, it.words = x :: rs := by
        cases hw : it.words with
        | nil => rw [hw] at hx0; cases hx0
        | cons y rs => rw [hw] at hx0; exact ⟨rs, by rw [Option.some.inj hx0]⟩
      obtain ⟨zs0, z, rfl⟩ : ∃ zs0 z, zs = zs0 ++ [z] := by
        rcases List.eq_nil_or_concat zs with rfl | ⟨zs0, z, rfl⟩
        · exact absurd rfl hne
        · exact ⟨zs0, z, by simp⟩
      have hl2 : H1 l = some (.lst (.str x :: rs.map V.str)) := by rw [hl, hrs]; rfl
      have hzl := (hz2 z (List.mem_append_right _ List.mem_cons_self))
      have hemp : ((zs0 ++ [z]).map fun z => V.ref z.a).isEmpty = false := by rw [List.map_append]; cases zs0 <;> rfl
      refine bcons (sif (tcut false ?_ ?_))
      · top_name
        · rename_i hq; exact absurd (V.str.inj hq) hx1
        · exact ⟨decide_eq_false (fun z => hx2 (V.str.inj z)), rfl⟩
      refine ifF ?_
      refine bcut (fun σ' H' => Ex H1 H' ∧ σ' = [some (.ref D), some (.str it.line), some (.ref l)]) ?_ ?_
      · top_name
        rename_i p H2 hp e2 hx2
        refine oneNil hr (SqL.of (e2 _ _ hI1.at_)) (SqL.of hx2) ?_
        rw [hemp]
        top_name
        exact ⟨rfl, e2, rfl⟩
      rintro _ H2 ⟨e2, rfl⟩
      have hI2 := hI1.ex e2
      have hlast : ((zs0 ++ [z]).map fun z => V.ref z.a).getLast? = some (.ref z.a) := by simp
      obtain ⟨i1, i2, i3, i4⟩ := hI2.each z (List.mem_append_right _ List.mem_cons_self)
      top_name
      refine zmeth hr tk ?_
      top_name
      refine ixL (SqL.of hI2.at_) (atI_last hlast) ?_
      refine ⟨z.a, _, z.dx, _, 7, [], _, rfl, i1, rfl, mf_put_line T, by decide, ?_⟩
      top_name
      refine ⟨l, D, zs0, z, it, rfl, e2 _ _ hl, hI2, hzl.1, hzl.2, hok, hnh, fun H3 z' g3 hI3 h1 h2 h3 => ?_⟩
      (repeat refine bnil ?_)
      refine q H3 (zs0 ++ [z']) ((Gw.of (e1.trans e2)).trans g3) hI3 (fun y hy => .inl ?_) h3
      rw [cells_app] at hy ⊢
      rwa [h1, h2] at hy
    cases it with
    | head c z =>
      have hl : H1 l = some (.lst [.str (fword c), .str z]) := hl
      have hok : nameB z = true := hok
      refine bcons (sif (tcut true ?_ ?_))
      · cases c with
        | true =>
          have hl : H1 l = some (.lst [.str "choice", .str z]) := hl
          top_name
          exact ⟨rfl, rfl⟩
        | false =>
          have hl : H1 l = some (.lst [.str "record", .str z]) := hl
          top_name
          exact ⟨rfl, rfl⟩
      refine ifT ?_
      top_name
      refine ⟨D, _, rfl, hI1.at_, ?_⟩
      refine vcut (fun v H2 => ∃ a dx lf lg, v = .ref a ∧ Ex H1 H2 ∧ H1 lf = none ∧ H1 lg = none ∧ lf ≠ lg ∧ H2 a = some (insD K dx z c lf lg) ∧ H2 lf = some (.lst []) ∧ H2 lg = some (.lst [])) ?_ ?_
      · refine zmk (nf_Draft T) hr (by decide) takesF rfl ?_
        top_name
        intro a dx ha hd hne
        have e0 : Ex H1 (upd (upd H1 dx (.own a)) a (.ins (He.ga K "Draft") dx [])) := own_ex ha hd
        refine ⟨a, dx, l, c, z, rfl, upd_same, e0 _ _ hl, hok, fun H' lf lg eb h1 h2 h3 h4 h5 h6 => ⟨rfl, a, dx, lf, lg, rfl, ?_, ?_, ?_, h3, h4, h5, h6⟩⟩
        · exact fun x o q => eb _ _ (fun y => by rw [y, ha] at q; cases q) (e0 _ _ q)
        · exact Evl.fresh_back e0 h1
        · exact Evl.fresh_back e0 h2
      rintro _ H2 ⟨a, dx, lf, lg, rfl, e2, h1, h2, h3, h4, h5, h6⟩
      refine ⟨_, e2 _ _ hI1.at_, by rw [List.length_map, sizeLine_eq]; omega, ?_⟩
      (repeat refine bnil ?_)
      have hI2 := hI1.head (z := ⟨a, dx, lf, lg, [], ⟨z, c, [], []⟩⟩) e2 h1 h2 h3 h4 h5 h6 rfl rfl rfl
      refine q _ _ ((Gw.of (e1.trans e2)).trans (Gw.put List.mem_cons_self)) hI2 (fun x hx => ?_) (by rw [List.map_append]; rfl)
      rw [cells_app] at hx
      rcases List.mem_append.mp hx with hx | hx
      · exact .inl hx
      · rcases List.mem_cons.mp hx with rfl | hx
        · exact .inr (Evl.fresh_back e1 h1)
        · rw [List.mem_singleton.mp hx]; exact .inr (Evl.fresh_back e1 h2)
    | field fd =>
      have hne : zs ≠ [] := by
        obtain ⟨d, hd, _⟩ := hok
        rintro rfl
        cases hd
      refine more (fun _ _ z => by cases z) ⟨toS fd.mark, rfl, ?_, ?_⟩ hne
      · exact num_letters _ ⟨_, _, rfl, by decide⟩
      · exact num_letters _ ⟨_, _, rfl, by decide⟩
    | gone ns =>
      have hne : zs ≠ [] := by
        obtain ⟨hd, _⟩ := hok
        rintro rfl
        exact hd rfl
      exact more (fun _ _ z => by cases z) ⟨"gone", rfl, by decide +kernel, by decide +kernel⟩ hne
end

set_option maxRecDepth 100000
set_option maxHeartbeats 4000000
set_option pp.maxSteps 400
section
open PySem PySem.Spec PyProof.Rows L2 Z
open Evl (Ex)
variable {P : Program} {w : World} {K : PySem.W.Frag} {mg : Str → Option Value} {base : Heap}
local macro_rules | `(tactic| nest_fact) => `(tactic| first | exact at0 | exact at1 | exact at2 | exact rfl)
local macro_rules | `(tactic| tb_rel) => `(tactic| first
  | ((with_reducible refine (?_ : wIx _ (.ref _) (.int _) _ _)); refine ixL (SqL.of (by one_item)) (by nest_fact) ?_)
  | ((with_reducible refine (?_ : wE _ (.Call (.Name "number_of" _) _ _ _) _ _ _)); refine zcall (ok_number_of (by assumption)) (by assumption) (by decide) takesF rfl ?_)
  | ((with_reducible refine (?_ : wE _ (.Call (.Name "is_name" _) _ _ _) _ _ _)); refine zcall (ok_name (by assumption)) (by assumption) (by decide) takesF rfl ?_)
  | ((with_reducible refine (?_ : wE _ (.Call (.Name "need" _) _ _ _) _ _ _)); refine zcall (ok_need (by assumption)) (by assumption) (by decide) takesF rfl ?_)
  | fail)
local macro_rules | `(tactic| tb_rel) => `(tactic| first
  | ((with_reducible refine (?_ : wE _ (.Call (.Attribute _ "append" _) _ _ _) _ _ _)); refine zapp ?_)
  | ((with_reducible refine (?_ : wE _ (.Call (.Attribute _ "extend" _) _ _ _) _ _ _)); refine zext ?_)
  | fail)
/-! ### a book's lines, one by one -/
def FM.items (fm : FM) : List It8 := .head fm.choice fm.name :: (fm.fields.map It8.field ++ if fm.gone.isEmpty = true then [] else [.gone fm.gone])
def itemsOf (fms : List FM) : List It8 := (fms.map FM.items).flatten
theorem join_two (x y : Str) : Txt.join " " [x, y] = x ++ " " ++ y := by
  rw [TL.join_eq]
  refine TL.ext_tl ?_
  rw [TL.tl_join]
  show _ = ((x ++ " " ++ y : Str)).cps.toList
  show TL.joinL [32] [x.cps.toList, y.cps.toList] = (x.cps ++ (" " : Str).cps ++ y.cps).toList
  rw [Array.toList_append, Array.toList_append]
  simp only [TL.joinL, List.append_assoc]
  rfl
theorem item_lines (fm : FM) : fm.items.map It8.line = fm.lines := by
  unfold FM.items FM.lines
  rw [List.map_cons, List.map_append, List.map_map, show It8.line (.head fm.choice fm.name) = fm.line from join_two _ _]
  unfold goneLines
  cases fm.gone <;> rfl
theorem items_lines (fms : List FM) : (itemsOf fms).map It8.line = bookLines fms := by
  unfold itemsOf bookLines
  rw [List.map_flatten, List.map_map]
  congr 1
  exact List.map_congr_left fun fm _ => item_lines fm
def legal : List FM → List It8 → Prop
  | _, [] => True
  | ds, it :: its => it.ok ds ∧ legal (it.step ds) its
theorem legal_app : ∀ {ds : List FM} {xs ys : List It8}, legal ds xs → legal (xs.foldl It8.step ds) ys → legal ds (xs ++ ys)
  | _, [], _, _, h => h
  | _, _ :: _, _, h, h2 => ⟨h.1, legal_app h.2 h2⟩
theorem legal_at : ∀ {ds : List FM} {its : List It8} {i : Nat} {it : It8}, legal ds its → its[i]? = some it → it.ok ((its.take i).foldl It8.step ds)
  | _, [], _, _, _, h => by simp at h
  | _, x :: xs, 0, it, h, hx => by
    obtain rfl : x = it := by simpa using hx
    exact h.1
  | ds, x :: xs, i + 1, it, h, hx => by
    have := legal_at (i := i) h.2 (by simpa using hx)
    rw [List.take_succ_cons, List.foldl_cons]
    exact this
/-- a form that lines may write, behind any -/
structure FmFit (fm : FM) : Prop where
  nm : nameB fm.name = true
  fd : ∀ fd ∈ fm.fields, FdFit fd fm.choice
  ng : fm.gone.length ≤ 10
  gb : ∀ n ∈ fm.gone, 1 ≤ n ∧ n ≤ 200
theorem run_fields : ∀ (fds : List FD) (pre : List FM) (fm : FM), (∀ fd ∈ fds, FdFit fd fm.choice) → legal (pre ++ [fm]) (fds.map It8.field) ∧ (fds.map It8.field).foldl It8.step (pre ++ [fm]) = pre ++ [{ fm with fields := fm.fields ++ fds }]
  | [], pre, fm, _ => ⟨trivial, by simp⟩
  | fd :: fds, pre, fm, h => by
    have hs : It8.step (pre ++ [fm]) (.field fd) = pre ++ [fm.addF fd] := onLast_app _ _ _
    obtain ⟨h1, h2⟩ := run_fields fds pre (fm.addF fd) fun x hx => h x (List.mem_cons_of_mem _ hx)
    refine ⟨⟨⟨fm, by simp, h fd List.mem_cons_self⟩, by rw [hs]; exact h1⟩, ?_⟩
    rw [List.map_cons, List.foldl_cons, hs, h2]
    show pre ++ [{ fm with fields := (fm.fields ++ [fd]) ++ fds }] = _
    rw [List.append_assoc]
    rfl
theorem run_form (pre : List FM) {fm : FM} (h : FmFit fm) : legal pre fm.items ∧ fm.items.foldl It8.step pre = pre ++ [fm] := by
  obtain ⟨h1, h2⟩ := run_fields fm.fields pre ⟨fm.name, fm.choice, [], []⟩ h.fd
  have hs : It8.step pre (.head fm.choice fm.name) = pre ++ [⟨fm.name, fm.choice, [], []⟩] := rfl
  unfold FM.items
  by_cases hg : fm.gone.isEmpty = true
  · have hn : fm.gone = [] := List.isEmpty_iff.mp hg
    rw [if_pos hg, List.append_nil]
    refine ⟨⟨h.nm, by rw [hs]; exact h1⟩, ?_⟩
    rw [List.foldl_cons, hs, h2]
    show pre ++ [(⟨fm.name, fm.choice, fm.fields, []⟩ : FM)] = _
    rw [← hn]
  · have hn : fm.gone ≠ [] := fun z => hg (by rw [z]; rfl)
    rw [if_neg hg]
    have hgb := h.gb
    have hng := h.ng
    have hk : It8.ok ((fm.fields.map It8.field).foldl It8.step (pre ++ [⟨fm.name, fm.choice, [], []⟩])) (.gone fm.gone) := by
      rw [h2]
      exact ⟨by simp, hn, hng, hgb⟩
    refine ⟨⟨h.nm, by rw [hs]; exact legal_app h1 ⟨hk, trivial⟩⟩, ?_⟩
    · rw [List.foldl_cons, hs, List.foldl_append, h2]
      show onLast (fun d => d.addG fm.gone) _ = _
      rw [onLast_app]
      rfl
theorem run_book : ∀ (fms pre : List FM), (∀ fm ∈ fms, FmFit fm) → legal pre (itemsOf fms) ∧ (itemsOf fms).foldl It8.step pre = pre ++ fms
  | [], pre, _ => ⟨trivial, by show pre = _; rw [List.append_nil]⟩
  | fm :: fms, pre, h => by
    obtain ⟨h1, h2⟩ := run_form pre (h fm List.mem_cons_self)
    obtain ⟨h3, h4⟩ := run_book fms (pre ++ [fm]) fun x hx => h x (List.mem_cons_of_mem _ hx)
    unfold itemsOf at h3 h4 ⊢
    rw [List.map_cons, List.flatten_cons]
    refine ⟨legal_app h1 (by rw [h2]; exact h3), ?_⟩
    rw [List.foldl_append, h2, h4, List.append_assoc]
    rfl
def Bd (m : Nat) (ds : List FM) : Prop := ds.length ≤ m ∧ ∀ d ∈ ds, d.fields.length ≤ m ∧ d.gone.length ≤ 10 * m
theorem onLast_mem {f : FM → FM} : ∀ {ds : List FM} {d : FM}, d ∈ onLast f ds → d ∈ ds ∨ ∃ e ∈ ds, d = f e
  | [], _, h => nomatch h
  | [x], d, h => .inr ⟨x, List.mem_cons_self, List.mem_singleton.mp h⟩
  | x :: y :: r, d, h => by
    have h : d ∈ x :: onLast f (y :: r) := h
    rcases List.mem_cons.mp h with rfl | h
    · exact .inl List.mem_cons_self
    · rcases onLast_mem h with h | ⟨e, he, h⟩
      · exact .inl (List.mem_cons_of_mem _ h)
      · exact .inr ⟨e, List.mem_cons_of_mem _ he, h⟩
theorem onLast_len {f : FM → FM} : ∀ {ds : List FM}, (onLast f ds).length = ds.length
  | [] => rfl
  | [x] => rfl
  | x :: y :: r => by
    show (onLast f (y :: r)).length + 1 = _
    rw [onLast_len]; rfl
theorem Bd.step {m : Nat} {ds : List FM} {it : It8} (h : Bd m ds) (ok : it.ok ds) : Bd (m + 1) (it.step ds) := by
  obtain ⟨h1, h2⟩ := h
  cases it with
  | head c s =>
    refine ⟨by show (ds ++ [_]).length ≤ _; rw [List.length_append]; show _ + 1 ≤ _; omega, fun d hd => ?_⟩
    rcases mem_app_last hd with hd | rfl
    · have := h2 d hd; omega
    · exact ⟨Nat.zero_le _, Nat.zero_le _⟩
  | field fd =>
    refine ⟨by show (onLast _ ds).length ≤ _; rw [onLast_len]; omega, fun d hd => ?_⟩
    rcases onLast_mem hd with hd | ⟨e, he, rfl⟩
    · have := h2 d hd; omega
    · have := h2 e he
      refine ⟨by show (e.fields ++ [fd]).length ≤ _; rw [List.length_append]; show _ + 1 ≤ _; omega, ?_⟩
      show e.gone.length ≤ _
      omega
  | gone ns =>
    have h10 := ok.2.2.1
    refine ⟨by show (onLast _ ds).length ≤ _; rw [onLast_len]; omega, fun d hd => ?_⟩
    rcases onLast_mem hd with hd | ⟨e, he, rfl⟩
    · have := h2 d hd; omega
    · have := h2 e he
      refine ⟨by show e.fields.length ≤ _; omega, ?_⟩
      show (e.gone ++ ns).length ≤ _
      rw [List.length_append]
      omega
theorem Bd.run : ∀ {its : List It8} {i : Nat}, legal [] its → Bd i ((its.take i).foldl It8.step [])
  | its, 0, _ => ⟨Nat.zero_le _, fun _ h => nomatch h⟩
  | its, i + 1, h => by
    have ih := Bd.run (i := i) h
    rw [List.take_add_one, List.foldl_append]
    cases hx : its[i]? with
    | none =>
      show Bd (i + 1) ((its.take i).foldl It8.step [])
      exact ⟨Nat.le_succ_of_le ih.1, fun d hd => by have := ih.2 d hd; omega⟩
    | some it => exact ih.step (legal_at h hx)
theorem in_flat {ws : List Str} (hw : ∀ s ∈ ws, nameB s = true) : ∀ {k : KD}, k.in_ ws → k.flat
  | .truth, _ => trivial
  | .count, _ => trivial
  | .whole, _ => trivial
  | .upto _, _ => trivial
  | .text _, _ => trivial
  | .form s, h => hw s h
  | .list k, h => by
    cases k with
    | list _ => exact h.elim
    | truth => exact trivial
    | count => exact trivial
    | whole => exact trivial
    | upto _ => exact trivial
    | text _ => exact trivial
    | form s => exact hw s h
theorem BookOk.names {fms : List FM} (h : BookOk fms) : ∀ fm ∈ fms, nameB fm.name = true := fun fm hfm => by
  obtain ⟨i, hi, rfl⟩ := List.mem_iff_getElem.mp hfm
  exact (h.each i _ (List.getElem?_eq_getElem hi)).nm
theorem BookOk.fit {fms : List FM} (h : BookOk fms) : ∀ fm ∈ fms, FmFit fm := fun fm hfm => by
  obtain ⟨i, hi, rfl⟩ := List.mem_iff_getElem.mp hfm
  have ok := h.each i _ (List.getElem?_eq_getElem hi)
  refine ⟨ok.nm, fun fd hfd => dok_fit (ok.fd hfd) (in_flat (fun s hs => ?_) (ok.ki fd hfd).1) (ok.df fd hfd), ok.ng, fun n hn => ok.mks n (List.mem_append_right _ hn)⟩
  rw [wts_names] at hs
  obtain ⟨gm, hg, rfl⟩ := List.mem_map.mp hs
  exact h.names gm (List.mem_of_mem_take hg)
/-! ### sorted lists are told by what they hold -/
theorem perm_marks {xs ys : List FD} (p : xs.Perm ys) (hx : xs.Pairwise fun x y => x.mark ≤ y.mark) (hy : ys.Pairwise fun x y => x.mark ≤ y.mark) (nd : (ys.map (·.mark)).Nodup) : xs = ys := by
  refine List.Perm.eq_of_pairwise (fun a b ha hb h1 h2 => ?_) hx hy p
  have ha := p.mem_iff.mp ha
  have e : a.mark = b.mark := by omega
  obtain ⟨i, hi, rfl⟩ := List.mem_iff_getElem.mp ha
  obtain ⟨j, hj, rfl⟩ := List.mem_iff_getElem.mp hb
  by_cases hij : i = j
  · subst hij; rfl
  · exfalso
    have := (List.pairwise_iff_getElem.mp nd)
    rcases Nat.lt_or_gt_of_ne hij with h | h
    · exact this i j (by simpa using hi) (by simpa using hj) h (by simpa using e)
    · exact this j i (by simpa using hj) (by simpa using hi) h (by simpa using e.symm)
theorem perm_ints {xs ys : List Int} (p : xs.Perm ys) (hx : xs.Pairwise (· ≤ ·)) (hy : ys.Pairwise (· ≤ ·)) : xs = ys :=
  List.Perm.eq_of_pairwise (fun a b _ _ h1 h2 => by omega) hx hy p
def Srt (fm : FM) : Prop := fm.fields.Pairwise (fun x y => x.mark ≤ y.mark) ∧ fm.gone.Pairwise (· ≤ ·)
/-! ### what doesn't stand at the table -/
theorem tbl_del {H : Hp} {TP x : Addr} {ps : Array Value} {o : HO} (hT : H TP = some (.tbl ps)) (hx : H x = some o) (n : ∀ ps, o ≠ .tbl ps) : del H TP x = some o :=
  del_at hx fun z => by rw [z, hT] at hx; exact n ps (Option.some.inj hx).symm
theorem KI.del {H : Hp} {TP : Addr} {ps : Array Value} (hT : H TP = some (.tbl ps)) : ∀ {v : V} {k : KD}, KI K H v k → KI K (L2.del H TP) v k
  | _, _, .truth h => .truth (tbl_del hT h fun _ z => by cases z)
  | _, _, .count h => .count (tbl_del hT h fun _ z => by cases z)
  | _, _, .whole h => .whole (tbl_del hT h fun _ z => by cases z)
  | _, _, .upto h => .upto (tbl_del hT h fun _ z => by cases z)
  | _, _, .text h => .text (tbl_del hT h fun _ z => by cases z)
  | _, _, .form h => .form (tbl_del hT h fun _ z => by cases z)
  | _, _, .list h i => .list (tbl_del hT h fun _ z => by cases z) (i.del hT)
theorem FO.del {H : Hp} {TP a : Addr} {ps : Array Value} {fd : FD} (hT : H TP = some (.tbl ps)) (h : FO K H a fd) : FO K (L2.del H TP) a fd := by
  obtain ⟨mark, nm, k, must, dflt⟩ := fd
  obtain ⟨dx, kv, dv, h1, h2, h3⟩ := h
  have h3 : DvAt H dv dflt := h3
  refine ⟨dx, kv, dv, tbl_del hT h1 fun _ z => (by cases z), h2.del hT, ?_⟩
  cases h3 with
  | bl => exact .bl _
  | int => exact .int _
  | str => exact .str _
  | none => exact .none
  | list h => exact .list (tbl_del hT h fun _ z => by cases z)
theorem FOs.del {H : Hp} {TP : Addr} {ps : Array Value} {vs : List V} {fds : List FD} (hT : H TP = some (.tbl ps)) (h : FOs K H vs fds) : FOs K (L2.del H TP) vs fds := by
  obtain ⟨zs, h1, h2, h3⟩ := h
  exact ⟨zs, h1, h2, fun z hz => (h3 z hz).del hT⟩
/-! ### a book of lines -/
def spBo (K : PySem.W.Frag) (TP : Addr) : Sp := fun vs H Q _ => ∃ (l : Addr) (fms : List FM), vs = [.ref l] ∧ del H TP l = some (.lst ((bookLines fms).map V.str)) ∧ BookOk fms ∧ (∀ fm ∈ fms, Srt fm) ∧ LamX.TabS H TP lamQ ∧
  ∀ b H', H b = none → Ex (del H TP) (del H' TP) → LamX.TabS H' TP lamQ → BO K (del H' TP) b fms → Q (.ref b) H'
theorem ok_book_of (T : Txt K mg) (TB : LamX.TabB base mg (He.codeOf K ("by_numbers", none)) (He.tabOf K (He.codeOf K ("by_numbers", none)))) : Gf P w K mg base 10 "book_of" [] (spBo K (He.tabOf K (He.codeOf K ("by_numbers", none)))) := by
  refine gf_mk T.f_book_of T.m_book_of (fun _ _ _ _ _ _ us hl => match us, hl with | [_], _ => rfl) fun fd F => fn_mk F sc_book_of (fun vs H Q E h => ?_) fun cd A outer s H vs Q E hr tk po h => ?_
  · obtain ⟨l, fms, rfl, _⟩ := h; rfl
  · obtain ⟨l, fms, rfl, hl, ok, srt, hT, q⟩ := h
    have MF := mf_made (P := P) (w := w) T TB
    generalize hTP : He.tabOf K (He.codeOf K ("by_numbers", none)) = TP at *
    have nd := sc_book_of.nd
    have n1 := T.n_isinstance
    have n2 := T.n_list
    have n3 := T.n_enumerate
    have hl0 := del_ex _ _ _ _ hl
    obtain ⟨leg, run⟩ := run_book fms [] ok.fit
    rw [List.nil_append] at run
    have hlen : (bookLines fms).length = (itemsOf fms).length := by rw [← items_lines, List.length_map]
    have h96 : (itemsOf fms).length ≤ 96 := by
      rw [← hlen]
      have := lines_len (fms := fms) fun fm hfm => by
        obtain ⟨i, hi, rfl⟩ := List.mem_iff_getElem.mp hfm
        exact (ok.each i _ (List.getElem?_eq_getElem hi)).nf
      have := ok.hi
      omega
    refine bcut (fun σ' H' => H = H' ∧ σ' = start N_book_of [.ref l]) ?_ ?_
    · top_name
      exact ⟨rfl, rfl⟩
    rintro _ _ ⟨rfl, rfl⟩
    refine bcut (fun σ' H' => Ex H H' ∧ ∃ D, H D = none ∧ H' D = some (.lst []) ∧ σ' = [some (.ref l), some (.ref D), none, none, none]) ?_ ?_
    · top_name
      rename_i D H1 hD e1 hx1
      exact ⟨e1, D, hD, hx1, rfl⟩
    rintro _ H1 ⟨e1, D, hD0, hD1, rfl⟩
    have hl1 := e1 _ _ hl0
    have hI0 : DrI K H1 D [] := { at_ := hD1, each := fun _ h => (nomatch h), nd := List.Pairwise.cons (fun _ h => (nomatch h)) List.Pairwise.nil }
    refine bcut (fun σ' H' => (Ex H H' ∧ ∃ zs : List DZ, DrI K H' D zs ∧ zs.map (·.fm) = fms ∧ (∀ x ∈ cells D zs, H x = none)) ∧ ∃ r1 r2, σ' = [some (.ref l), some (.ref D), r1, r2, none]) ?_ ?_
    · refine lforEn n3 po rfl rfl ?_
      top_name
      refine ⟨l, _, rfl, ⟨SqL.of hl1, trivial⟩, fun i σ' H' => (Ex H H' ∧ ∃ zs : List DZ, DrI K H' D zs ∧ zs.map (·.fm) = ((itemsOf fms).take i).foldl It8.step [] ∧ (∀ x ∈ cells D zs, H x = none)) ∧ ∃ r1 r2, σ' = [some (.ref l), some (.ref D), r1, r2, none], ⟨⟨e1, [], hI0, rfl, fun x hx => by rw [List.mem_singleton.mp hx]; exact hD0⟩, none, none, rfl⟩, fun i σ' H' _ v => SqL.of (v.1.1 _ _ hl0), fun i x σ' H2 TT H3 hxi hv hTT e23 hT3 => ?_, fun σ' H' hv => ?_⟩
      · obtain ⟨⟨e2, zs, hI, hz, hnew⟩, r1, r2, rfl⟩ := hv
        rw [List.getElem?_map] at hxi
        obtain ⟨it, hit, rfl⟩ : ∃ it, (itemsOf fms)[i]? = some it ∧ x = .str it.line := by
          rw [← items_lines, List.getElem?_map] at hxi
          cases z : (itemsOf fms)[i]? with
          | none => rw [z] at hxi; cases hxi
          | some it => rw [z] at hxi; exact ⟨it, rfl, (Option.some.inj hxi).symm⟩
        have hil := (List.getElem?_eq_some_iff.mp hit).1
        have hok := legal_at leg hit
        rw [← hz] at hok
        have bd := Bd.run (i := i) leg
        rw [← hz] at bd
        have hI3 := hI.ex e23
        have hzl : ∀ z ∈ zs, z.ws.length ≤ 1000 ∧ z.fm.gone.length ≤ 1000 := fun z hz' => by
          have b2 := bd.2 z.fm (List.mem_map.mpr ⟨z, hz', rfl⟩)
          have := (hI.each z hz').2.2.2.len
          omega
        have hzn : zs.length ≤ 1000 := by have := bd.1; rw [List.length_map] at this; omega
        have hnx : zs.length ≤ 1000 := hzn
        top_name
        refine stry0 (cl := .ref (He.ga K "BadText")) tk ⟨rfl, by decide, .inl T.m_BadText⟩ rfl rfl fun pn xe po2 tk2 => ?_
        top_name
        refine zcall (ok_put_line T) (j := 9) hr (by decide) takesF rfl ?_
        top_name
        refine ⟨D, zs, it, rfl, hI3, hnx, hzl, hok, fun H4 zs' g4 hI4 hc hst => ?_⟩
        (repeat refine bnil ?_)
        refine ⟨⟨fun x o z => ?_, zs', hI4, ?_, fun x hx => ?_⟩, _, _, rfl⟩
        · exact g4 _ _ (fun y => by rw [hnew x y] at z; cases z) (e23 _ _ (e2 _ _ z))
        · rw [hst, hz, List.take_add_one, hit, List.foldl_append]
          rfl
        · rcases hc x hx with y | y
          · exact hnew x y
          · exact Evl.fresh_back (e2.trans e23) y
      · obtain ⟨⟨e2, zs, hI, hz, hnew⟩, r⟩ := hv
        refine ⟨⟨e2, zs, hI, ?_, hnew⟩, r⟩
        rw [hz, List.length_map, hlen, List.take_length]
        exact run
    rintro _ H2 ⟨⟨e2, zs, hI, hz, hnew⟩, r1, r2, rfl⟩
    have hT2 := hT.ext e2
    obtain ⟨ps0, hP0⟩ := tab_at hT
    have nT : ∀ {x : Addr} {o : HO}, H2 x = some o → (∀ ps, o ≠ .tbl ps) → del H2 TP x = some o := fun h n => tbl_del (e2 _ _ hP0) h n
    have eD2 : Ex (del H TP) (del H2 TP) := del_mono fun b o _ z => e2 b o z
    have hzl : zs.length = fms.length := by rw [← hz, List.length_map]
    top_name
    refine zmk (nf_Book T) hr (by decide) takesF rfl ?_
    refine acons ?_
    refine zlc rfl nd [("draft", 4)] (blkOk_by (N := N_book_of) (sc := defScope s_book_of) (by decide +kernel)) piL (ttL (xs := zs.map fun z => V.ref z.a) TP lamQ (fun j ws H' => ROs K H' ws (fms.take j)) (fun j ws H' H'' g e => g.ex e) (fun _ => ROs.nil) ?_)
    top_name
    refine ⟨nT hI.at_ fun _ z => (by cases z), hT2, fun j x H3 L ws hx e3 hT3 hL hL3 g => ?_, fun L H3 ws hL e3 hT3 hL3 nLT g => ?_⟩
    · rw [List.getElem?_map] at hx
      cases hzj : zs[j]? with
      | none => rw [hzj] at hx; cases hx
      | some z =>
        rw [hzj] at hx
        obtain rfl : V.ref z.a = x := Option.some.inj hx
        have hzm := List.mem_of_getElem? hzj
        have hfj : fms[j]? = some z.fm := by rw [← hz, List.getElem?_map, hzj]; rfl
        have hjl := (List.getElem?_eq_some_iff.mp hfj).1
        have okz := ok.each j _ hfj
        have hnf := okz.nf
        have hng := okz.ng
        obtain ⟨i1, i2, i3, i4⟩ := hI.each z hzm
        have i1' := e3 _ _ (nT i1 fun _ z => (by cases z))
        have i2' := e3 _ _ (nT i2 fun _ z => (by cases z))
        have i3' := e3 _ _ (nT i3 fun _ z => (by cases z))
        have i4' := ((i4.ex cutA_sub).del (e2 _ _ hP0))
        have hwl := i4.len
        have nLT : L ≠ TP := fun y => by rw [y, e2 _ _ hP0] at hL; cases hL
        top_name
        refine ⟨rfl, ?_⟩
        top_name
        refine zmeth0 hr takesF ?_
        top_name
        have eG : Ex (del H2 TP) (del (del H3 TP) L) := fun b o q => by
          rw [del_ne (fun y => by rw [y] at q; have := del_ex _ _ _ _ q; rw [hL] at this; cases this)]
          exact e3 _ _ q
        refine ⟨z.a, _, z.dx, _, 7, [], _, rfl, del_ex _ _ _ _ i1', rfl, MF, by decide, z.a, z.dx, z.lf, z.lg, z.ws, z.fm, _, rfl, del_ex _ _ _ _ i1', i2', i3', eG.trans (del_ex _ _), i4'.ex (Ex.refl _), by omega, by omega, hT3, fun b H4 gds ms hb e4 hT4 ro pm pw pm' pw' => ?_⟩
        have e1g := perm_marks pm pw (srt _ (List.mem_of_getElem? hfj)).1 (List.pairwise_append.mp okz.mnd).1
        have e2g := perm_ints pm' pw' (srt _ (List.mem_of_getElem? hfj)).2
        subst e1g e2g
        have hL3' : del H3 TP L = some (.lst ws) := del_at hL3 nLT
        have ro' : RO K (del (del H4 TP) L) b z.fm := ro.to (fun x o q => by
          have q2 := e4 _ _ (e3 _ _ q)
          rw [del_ne (fun y => by rw [y] at q; have := del_ex _ _ _ _ q; rw [hL] at this; cases this)]
          exact q2) fun x o h1 h2 => by
            rw [del_ne (fun y => by rw [y, hL3] at h1; cases h1)]; exact h2
        have gl := g.len
        rw [List.length_take] at gl
        refine ⟨by have := ok.hi; rw [sizeLine_eq]; omega, e4, hT4, ?_⟩
        show ROs K _ _ (fms.take (j + 1))
        rw [List.take_add_one, hfj]
        refine (g.ex fun x o q => ?_).one ro'
        have n1 : x ≠ L := fun y => by rw [y, del_same] at q; cases q
        rw [del_ne n1] at q ⊢
        exact e4 _ _ q
    · rw [List.length_map, hzl, List.take_length] at g
      top_name
      intro a dx ha hd hne
      have hP3 := tab_at hT3
      obtain ⟨ps3, hP3⟩ := hP3
      refine book_to (Q := Q) ha hd hL3 (del_ex _ TP) g ok fun H4 bx l' d e4 hl' hd' h1 h2 h3 => ?_
      have e34 : Ex (del H3 TP) (del H4 TP) := del_mono fun b o _ z => e4 b o z
      have new : ∀ {x : Addr} {o : HO}, H3 x = none → H4 x = some o → del H4 TP x = some o := fun h h' => del_at h' fun y => by rw [y, hP3] at h; cases h
      have ha2 : H a = none := by
        cases z : H a with
        | none => rfl
        | some o =>
          have nTa : a ≠ TP := fun y => by rw [y, hP3] at ha; cases ha
          have := e3 _ _ (eD2 _ _ (del_at z nTa))
          have := del_ex _ _ _ _ this
          rw [ha] at this; cases this
      exact q a H4 ha2 ((eD2.trans e3).trans e34) (hT3.ext e4) ⟨bx, l', d, ws, new ha h1, new hl' h2, g.ex e34, new hd' h3⟩
end

set_option maxRecDepth 100000
set_option maxHeartbeats 4000000
set_option pp.maxSteps 400
section
open PySem PySem.Spec PyProof.Rows L2 Z
open Evl (Ex)
variable {P : Program} {w : World} {K : PySem.W.Frag} {mg : Str → Option Value} {base : Heap}
/-! ### names drawn -/
def accS (f : Nat → Str) (j : Nat) : List V := ((List.range j).map f).map V.str
theorem accS_succ (f : Nat → Str) (j : Nat) : accS f (j + 1) = accS f j ++ [.str (f j)] := by unfold accS; rw [List.range_succ]; simp
theorem accS_len (f : Nat → Str) (j : Nat) : (accS f j).length = j := by unfold accS; simp
theorem atS {z : Str} {i n : Int} (h0 : 0 ≤ i) (h1 : i < n) (hn : (z.length : Int) = n) : atI z.cps.toList i = some (z.cps.toList.getD i.toNat 0) := by
  rw [show i = ((i.toNat : Nat) : Int) from by omega]
  refine atI_nat ?_
  rw [Int.toNat_natCast, List.getD_eq_getElem?_getD, List.getElem?_eq_getElem (by rw [← len_is]; omega)]
  rfl
theorem letters_len : (letters.length : Int) = 26 := by decide +kernel
def sgn (i : Int) : Str := ⟨#[letters.cps.toList.getD i.toNat 0]⟩
theorem lett_at : ∀ i < 26, letters.cps.toList.getD i 0 = 97 + i ∧ letters.cps.toList.getD i 0 ∈ letters.cps.toList := by decide +kernel
theorem joinL_nil : ∀ ls : List (List Nat), TL.joinL [] ls = ls.flatten
  | [] => rfl
  | [p] => by simp [TL.joinL]
  | p :: q :: r => by
    show p ++ ([] ++ TL.joinL [] (q :: r)) = _
    rw [joinL_nil (q :: r)]
    rfl
theorem join_tl (ys : List Str) : (Txt.join "" ys).cps.toList = (ys.map fun y => y.cps.toList).flatten := by
  have e := TL.tl_join "" ys
  rw [← TL.join_eq] at e
  exact e.trans (joinL_nil _)
theorem join_len (ys : List Str) : (Txt.join "" ys).length = (ys.map fun y : Str => y.length).sum := by
  rw [len_is, join_tl, List.length_flatten, List.map_map]
  congr 1
def LO (x : Str) : Prop := ∀ c ∈ x.cps.toList, c ∈ letters.cps.toList
theorem cutTo {x : Str} {k : Int} (h : 0 ≤ k) : (cutS x none (some k)).cps.toList = x.cps.toList.take k.toNat := by
  show ((x.cps.toList.drop 0).take (HT.sIx x.length x.length (some k) - 0)) = _
  rw [List.drop_zero, Nat.sub_zero]
  show x.cps.toList.take (if k < 0 then (k + (x.length : Int)).toNat else min k.toNat x.length) = _
  rw [if_neg (by omega), len_is]
  by_cases hk : k.toNat ≤ x.cps.toList.length
  · rw [Nat.min_eq_left hk]
  · rw [Nat.min_eq_right (by omega), List.take_length, List.take_of_length_le (by omega)]
theorem cutFrom {x : Str} {k : Int} (h : 0 ≤ k) (h1 : k ≤ (x.length : Int)) : (cutS x (some k) none).cps.toList = x.cps.toList.drop k.toNat := by
  show ((x.cps.toList.drop (HT.sIx x.length 0 (some k))).take (x.length - HT.sIx x.length 0 (some k))) = _
  rw [sIx_at _ _ h h1, len_is, List.take_of_length_le (by rw [List.length_drop]; exact Nat.le_refl _)]
theorem LO.to {x : Str} (hx : LO x) {k : Int} (h : 0 ≤ k) : LO (cutS x none (some k)) := fun c hc => by
  rw [cutTo h] at hc; exact hx c (List.mem_of_mem_take hc)
theorem name_lo {x : Str} (h : LO x) (h1 : 1 ≤ x.length) (h2 : x.length ≤ 12) : nameB x = true := by
  unfold nameB
  rw [decide_eq_true ⟨h1, h2⟩, Bool.true_and]
  exact List.all_eq_true.mpr fun c hc => decide_eq_true (h c hc)
structure Nms (ys : List Str) (m : Nat) : Prop where
  len : ys.length = m
  nm : ∀ y ∈ ys, nameB y = true ∧ y.length ≤ 11
  nd : ys.Nodup
theorem nodup_range {f : Nat → Str} {m : Nat} (h : ∀ i j, i < m → j < m → f i = f j → i = j) : ((List.range m).map f).Nodup := by
  unfold List.Nodup
  rw [List.pairwise_map]
  refine List.Pairwise.imp_of_mem (fun {a b} ha hb hab => ?_) List.nodup_range
  intro z
  exact hab (h a b (List.mem_range.mp ha) (List.mem_range.mp hb) z)
theorem nms_pre {x : Str} {m : Nat} (hx : LO x) (hl : x.length = 12) (hm : m ≤ 10) : Nms ((List.range m).map fun j : Nat => cutS x none (some ((j : Int) + 1))) m := by
  have len : ∀ j : Nat, j < m → (cutS x none (some ((j : Int) + 1))).length = j + 1 := fun j hj => by
    rw [len_is, cutTo (by omega), List.length_take, ← len_is]
    omega
  refine ⟨by simp, fun y hy => ?_, nodup_range fun i j hi hj e => ?_⟩
  · obtain ⟨j, hj, rfl⟩ := List.mem_map.mp hy
    have := len j (List.mem_range.mp hj)
    have hjm := List.mem_range.mp hj
    exact ⟨name_lo (hx.to (by omega)) (by omega) (by omega), by omega⟩
  · have h1 := len i hi
    have h2 := len j hj
    have e : cutS x none (some ((i : Int) + 1)) = cutS x none (some ((j : Int) + 1)) := e
    rw [e] at h1
    omega
theorem app_tl (x y : Str) : (x ++ y).cps.toList = x.cps.toList ++ y.cps.toList := by show (x.cps ++ y.cps).toList = _; simp
theorem nms_mid {z : Str} {a : Int} {m : Nat} {f : Nat → Int} (hz : LO z) (hl : z.length ≤ 7) (a0 : 0 ≤ a) (a1 : a ≤ (z.length : Int)) (hm : m ≤ 10) (f0 : ∀ j, 0 ≤ f j ∧ f j < 26) (fi : ∀ i j, i < m → j < m → f i = f j → i = j) :
    Nms ((List.range m).map fun j => cutS z none (some a) ++ sgn (f j) ++ cutS z (some a) none) m := by
  have tl : ∀ j, (cutS z none (some a) ++ sgn (f j) ++ cutS z (some a) none).cps.toList = z.cps.toList.take a.toNat ++ ([letters.cps.toList.getD (f j).toNat 0] ++ z.cps.toList.drop a.toNat) := fun j => by
    rw [app_tl, app_tl, cutTo a0, cutFrom a0 a1, List.append_assoc]
    rfl
  have zl : z.cps.toList.length ≤ 7 := by rw [← len_is]; exact hl
  have len : ∀ j, 1 ≤ (cutS z none (some a) ++ sgn (f j) ++ cutS z (some a) none).length ∧ (cutS z none (some a) ++ sgn (f j) ++ cutS z (some a) none).length ≤ 8 := fun j => by
    rw [len_is, tl, List.length_append, List.length_append, List.length_take, List.length_drop]
    show 1 ≤ _ + (1 + _) ∧ _ + (1 + _) ≤ 8
    omega
  refine ⟨by simp, fun y hy => ?_, nodup_range fun i j hi hj e => ?_⟩
  · obtain ⟨j, hj, rfl⟩ := List.mem_map.mp hy
    have := len j
    refine ⟨name_lo (fun c hc => ?_) (by omega) (by omega), by omega⟩
    rw [tl] at hc
    rcases List.mem_append.mp hc with hc | hc
    · exact hz c (List.mem_of_mem_take hc)
    · rcases List.mem_append.mp hc with hc | hc
      · rw [List.mem_singleton.mp hc]
        exact (lett_at _ (by have := f0 j; omega)).2
      · exact hz c (List.mem_of_mem_drop hc)
  · have e2 := congrArg (fun x : Str => x.cps.toList) e
    have e2 : (cutS z none (some a) ++ sgn (f i) ++ cutS z (some a) none).cps.toList = (cutS z none (some a) ++ sgn (f j) ++ cutS z (some a) none).cps.toList := e2
    rw [tl, tl] at e2
    have e3 := (List.cons.inj (List.append_cancel_left e2)).1
    have h1 := f0 i
    have h2 := f0 j
    rw [(lett_at _ (show (f i).toNat < 26 by omega)).1, (lett_at _ (show (f j).toNat < 26 by omega)).1] at e3
    exact fi i j hi hj (by omega)
def spNames : Sp := fun vs H Q _ => ∃ (c : Int) (m : Nat), vs = [.int c, .int (m : Nat)] ∧ 0 ≤ c ∧ c < 2147483647 ∧ m ≤ 10 ∧ ∀ ys t H', Nms ys m → H t = none → Ex H H' → H' t = some (.lst (ys.map V.str)) → Q (.ref t) H'
theorem ok_names (T : Txt K mg) : Gf P w K mg base 1 "_law_names" [] spNames := by
  refine gf_mk T.f__law_names T.m__law_names (fun _ _ _ _ _ _ us hl => match us, hl with | [_, _], _ => rfl) fun fd F => fn_mk F sc__law_names (fun vs H Q E h => ?_) fun cd A outer s H vs Q E hr tk po h => ?_
  · obtain ⟨c, m, rfl, _⟩ := h; rfl
  · obtain ⟨c, m, rfl, c0, c1, hm, q⟩ := h
    have nd := sc__law_names.nd
    have n1 := T.n_range
    have n2 := T.n_len
    refine bcut (fun σ' H' => H = H' ∧ σ' = [some (.int c), some (.int (m : Nat)), some (.str letters), none, none, none, none, none, none, none, none]) (by top_name; exact ⟨rfl, rfl⟩) ?_
    rintro _ _ ⟨rfl, rfl⟩
    refine bcut (fun σ' H' => H = H' ∧ σ' = [some (.int c), some (.int (m : Nat)), some (.str letters), some (.int (3 + c % 5)), none, none, none, none, none, none, none]) (by top_name; exact ⟨rfl, rfl⟩) ?_
    rintro _ _ ⟨rfl, rfl⟩
    refine bcut (fun σ' H' => Ex H H' ∧ ∃ x : Str, x.length = 12 ∧ LO x ∧ σ' = [some (.int c), some (.int (m : Nat)), some (.str letters), some (.int (3 + c % 5)), some (.str x), none, none, none, none, none, none]) ?_ ?_
    · top_name
      refine zjoin ?_
      top_name
      refine ⟨⟨_, rfl⟩, ?_⟩
      refine zlc rfl nd [("_law_j", 8)] (blkOk_by (N := N__law_names) (sc := defScope s__law_names) (by decide +kernel)) (piR1 n1 rfl) (tmR1 (n := 12) (accS fun j => sgn ((c / 7 + (3 + c % 5) * (j : Int)) % 26)) rfl ?_)
      top_name
      refine ⟨rfl, by decide, by decide, fun j H2 hj e2 => ?_, fun L H2 hL e2 hw => ?_⟩
      · top_name
        refine ixS (by decide +kernel) (atS (n := 26) (by omega) (by omega) letters_len) ?_
        exact ⟨accS_succ _ _, by rw [accS_len, sizeLine_eq]; omega, Evl.Ex.refl _⟩
      · have hl1 : ∀ y ∈ (List.range 12).map (fun j : Nat => sgn ((c / 7 + (3 + c % 5) * (j : Int)) % 26)), y.length = 1 ∧ LO y := fun y hy => by
          obtain ⟨j, _, rfl⟩ := List.mem_map.mp hy
          refine ⟨rfl, fun d hd => ?_⟩
          rw [List.mem_singleton.mp hd]
          exact (lett_at _ (by omega)).2
        generalize hys : (List.range 12).map (fun j : Nat => sgn ((c / 7 + (3 + c % 5) * (j : Int)) % 26)) = ys at hl1
        have hyl : ys.length = 12 := by rw [← hys]; simp
        have hw : H2 L = some (.lst (ys.map V.str)) := by rw [← hys]; exact hw
        have hsum : ∀ zs : List Str, (∀ y ∈ zs, y.length = 1 ∧ LO y) → (zs.map fun y : Str => y.length).sum = zs.length := fun zs h => by
          induction zs with
          | nil => rfl
          | cons z zs ih =>
            rw [List.map_cons, List.sum_cons, List.length_cons, (h z List.mem_cons_self).1, ih fun y hy => h y (List.mem_cons_of_mem _ hy)]
            omega
        refine ⟨"", L, ys, rfl, rfl, .inl (SqL.of hw), by rw [hsum ys hl1]; show _ + _ * 0 ≤ _; omega, ?_⟩
        (repeat refine bnil ?_)
        refine ⟨e2, _, by rw [join_len, hsum ys hl1, hyl], fun d hd => ?_, rfl⟩
        rw [join_tl] at hd
        obtain ⟨l, hl, hd⟩ := List.mem_flatten.mp hd
        obtain ⟨y, hy, rfl⟩ := List.mem_map.mp hl
        exact (hl1 y hy).2 d hd
    rintro _ H1 ⟨e1, x, hx, hlo, rfl⟩
    have hzs : sizeLine = 16777216 := sizeLine_eq
    refine bcut (fun σ' H' => H1 = H' ∧ σ' = [some (.int c), some (.int (m : Nat)), some (.str letters), some (.int (3 + c % 5)), some (.str x), none, none, none, none, none, none]) ?_ ?_
    · top_name
      · refine zlc rfl nd [("_law_k", 9)] (blkOk_by (N := N__law_names) (sc := defScope s__law_names) (by decide +kernel)) (piR1 n1 rfl) (tmR1 (n := (m : Nat)) (accS fun j => cutS x none (some ((j : Int) + 1))) rfl ?_)
        top_name
        refine ⟨rfl, by omega, by omega, fun j H2 hj e2 => ?_, fun L H2 hL e2 hw => ?_⟩
        · top_name
          refine slS (by omega) ?_
          exact ⟨accS_succ _ _, by rw [accS_len, sizeLine_eq]; omega, Evl.Ex.refl _⟩
        · exact q _ L H2 (nms_pre hlo hx hm) (Evl.fresh_back e1 hL) (e1.trans e2) hw
      · exact ⟨rfl, rfl⟩
    rintro _ _ ⟨rfl, rfl⟩
    refine bcut (fun σ' H' => H1 = H' ∧ ∃ z : Str, z.length ≤ 7 ∧ LO z ∧ σ' = [some (.int c), some (.int (m : Nat)), some (.str letters), some (.int (3 + c % 5)), some (.str x), some (.str z), none, none, none, none, none]) ?_ ?_
    · top_name
      refine slS (by omega) ?_
      (repeat refine bnil ?_)
      refine ⟨rfl, _, ?_, hlo.to (by omega), rfl⟩
      rw [len_is, cutTo (by omega), List.length_take]
      omega
    rintro _ _ ⟨rfl, z, hz, hzo, rfl⟩
    refine bcut (fun σ' H' => H1 = H' ∧ ∃ a : Int, 0 ≤ a ∧ a ≤ (z.length : Int) ∧ σ' = [some (.int c), some (.int (m : Nat)), some (.str letters), some (.int (3 + c % 5)), some (.str x), some (.str z), some (.int a), none, none, none, none]) ?_ ?_
    · top_name
      refine klenS (by omega) ?_
      top_name
      (repeat refine bnil ?_)
      exact ⟨rfl, _, Int.emod_nonneg _ (by omega), Int.le_of_lt_add_one (Int.emod_lt_of_pos _ (by omega)), rfl⟩
    rintro _ _ ⟨rfl, a, a0, a1, rfl⟩
    refine bcut (fun σ' H' => Ex H1 H' ∧ ∃ (L : Addr), H' L = some (.lst (accS (fun k => sgn ((c / 2000 + 5 * (k : Int)) % 26)) m)) ∧ σ' = [some (.int c), some (.int (m : Nat)), some (.str letters), some (.int (3 + c % 5)), some (.str x), some (.str z), some (.int a), some (.ref L), none, none, none]) ?_ ?_
    · refine slc (i := 7) (y := "_law_signs") rfl nd rfl rfl [("_law_k", 9)] (blkOk_by (N := N__law_names) (sc := defScope s__law_names) (by decide +kernel)) (piR1 n1 rfl) (sw_true rfl rfl rfl (by decide +kernel)) (tmR1 (n := (m : Nat)) (accS fun k => sgn ((c / 2000 + 5 * (k : Int)) % 26)) rfl ?_)
      top_name
      refine ⟨rfl, by omega, by omega, fun j H2 hj e2 => ?_, fun L H2 hL e2 hw => ?_⟩
      · top_name
        refine ixS (by decide +kernel) (atS (n := 26) (by omega) (by omega) letters_len) ?_
        exact ⟨accS_succ _ _, by rw [accS_len, sizeLine_eq]; omega, Evl.Ex.refl _⟩
      · (repeat refine bnil ?_)
        exact ⟨e2, L, hw, rfl⟩
    rintro _ H2 ⟨e2, L, hL, rfl⟩
    top_name
    refine zlc rfl nd [("_law_sign", 10)] (blkOk_by (N := N__law_names) (sc := defScope s__law_names) (by decide +kernel)) piL (tmL (xs := accS (fun k => sgn ((c / 2000 + 5 * (k : Int)) % 26)) m) (accS fun k => cutS z none (some a) ++ sgn ((c / 2000 + 5 * (k : Int)) % 26) ++ cutS z (some a) none) rfl ?_)
    top_name
    refine ⟨SqL.of hL, fun j u H3 hu e3 => ?_, fun L' H3 hL' e3 hw => ?_⟩
    · have hj := (List.getElem?_eq_some_iff.mp hu).1
      rw [accS_len] at hj
      have hu' : u = .str (sgn ((c / 2000 + 5 * (j : Int)) % 26)) := by
        unfold accS at hu
        rw [List.getElem?_map, List.getElem?_map, List.getElem?_range hj] at hu
        exact (Option.some.inj hu).symm
      subst hu'
      have hsl : (sgn ((c / 2000 + 5 * (j : Int)) % 26)).length = 1 := rfl
      have c1 := cutS_length z none (some a)
      have c2 := cutS_length z (some a) none
      top_name
      refine slS (by omega) ?_
      top_name
      refine oadds (by omega) ?_
      top_name
      refine slS (by omega) ?_
      refine oadds (by rw [str_app]; omega) ?_
      exact ⟨accS_succ _ _, by rw [accS_len, sizeLine_eq]; omega, Evl.Ex.refl _⟩
    · rw [accS_len] at hw
      exact q _ L' H3 (nms_mid (f := fun k => (c / 2000 + 5 * (k : Int)) % 26) hzo hz a0 a1 hm (fun j => ⟨Int.emod_nonneg _ (by decide), Int.emod_lt_of_pos _ (by decide)⟩) fun i j hi hj e => by
        have e : (c / 2000 + 5 * (i : Int)) % 26 = (c / 2000 + 5 * (j : Int)) % 26 := e
        omega) (Evl.fresh_back (e1.trans e2) hL') (e1.trans (e2.trans e3)) hw
end

set_option maxRecDepth 100000
set_option maxHeartbeats 4000000
set_option pp.maxSteps 400
section
open PySem PySem.Spec PyProof.Rows L2 Z
open Evl (Ex)
variable {P : Program} {w : World} {K : PySem.W.Frag} {mg : Str → Option Value} {base : Heap}
local macro_rules | `(tactic| tb_rel) => `(tactic| first
  | ((with_reducible refine (?_ : wO _ (binaryOp .Pow) _ _ _ _)); refine opow (by decide) (by decide +kernel) ?_)
  | fail)
/-! ### kinds as the law has them -/
inductive LD where
  | truth
  | count
  | whole
  | upto (n : Int)
  | text (n : Int)
  | form (i : Nat)
  | list (k : LD)
def LD.kd (nms : List Str) : LD → KD
  | .truth => .truth
  | .count => .count
  | .whole => .whole
  | .upto n => .upto n
  | .text n => .text n
  | .form i => .form (nms.getD i "")
  | .list k => .list (k.kd nms)
inductive LKI (H : Hp) : V → LD → Prop
  | truth {t : Addr} (h : H t = some (.tup [.str "truth"])) : LKI H (.ref t) .truth
  | count {t : Addr} (h : H t = some (.tup [.str "count"])) : LKI H (.ref t) .count
  | whole {t : Addr} (h : H t = some (.tup [.str "whole"])) : LKI H (.ref t) .whole
  | upto {t : Addr} {n : Int} (h : H t = some (.tup [.str "upto", .int n])) : LKI H (.ref t) (.upto n)
  | text {t : Addr} {n : Int} (h : H t = some (.tup [.str "text", .int n])) : LKI H (.ref t) (.text n)
  | form {t : Addr} {i : Nat} (h : H t = some (.tup [.str "form", .int (i : Nat)])) : LKI H (.ref t) (.form i)
  | list {t : Addr} {v : V} {k : LD} (h : H t = some (.tup [.str "list", v])) (i : LKI H v k) : LKI H (.ref t) (.list k)
theorem LKI.ex {H H' : Hp} (e : Ex H H') : ∀ {v : V} {k : LD}, LKI H v k → LKI H' v k
  | _, _, .truth h => .truth (e _ _ h)
  | _, _, .count h => .count (e _ _ h)
  | _, _, .whole h => .whole (e _ _ h)
  | _, _, .upto h => .upto (e _ _ h)
  | _, _, .text h => .text (e _ _ h)
  | _, _, .form h => .form (e _ _ h)
  | _, _, .list h i => .list (e _ _ h) (i.ex e)
def LD.word : LD → Str
  | .truth => "truth"
  | .count => "count"
  | .whole => "whole"
  | .upto _ => "upto"
  | .text _ => "text"
  | .form _ => "form"
  | .list _ => "list"
theorem LKI.tup {H : Hp} {v : V} {k : LD} (h : LKI H v k) : ∃ t us, v = .ref t ∧ H t = some (.tup (.str k.word :: us)) := by
  cases h with
  | truth h => exact ⟨_, _, rfl, h⟩
  | count h => exact ⟨_, _, rfl, h⟩
  | whole h => exact ⟨_, _, rfl, h⟩
  | upto h => exact ⟨_, _, rfl, h⟩
  | text h => exact ⟨_, _, rfl, h⟩
  | form h => exact ⟨_, _, rfl, h⟩
  | list h i => exact ⟨_, _, rfl, h⟩
def LD.Plain : LD → Prop
  | .truth => True
  | .count => True
  | .whole => True
  | .upto n => 1 ≤ n ∧ n ≤ 18446744073709551616
  | .text n => 1 ≤ n ∧ n ≤ 100
  | _ => False
def LD.One (ahead : Nat) : LD → Prop
  | .form i => i < ahead
  | .list _ => False
  | k => k.Plain
def LD.Good (ahead : Nat) : LD → Prop
  | .list k => k.One ahead
  | k => k.One ahead
theorem LD.Plain.one {k : LD} (h : k.Plain) (a : Nat) : k.One a := by
  cases k <;> first | exact h | exact h.elim
theorem LD.One.good {k : LD} {a : Nat} (h : k.One a) : k.Good a := by
  cases k <;> first | exact h | exact h.elim
def spPl : Sp := fun vs H Q _ => ∃ c : Int, vs = [.int c] ∧ 0 ≤ c ∧ ∀ v k H', k.Plain → LKI H' v k → Ex H H' → Q v H'
theorem ok_plain (T : Txt K mg) : Gf P w K mg base 1 "_law_plain" [] spPl := by
  refine gf_mk T.f__law_plain T.m__law_plain (fun _ _ _ _ _ _ us hl => match us, hl with | [_], _ => rfl) fun fd F => fn_mk F sc__law_plain (fun vs H Q E h => ?_) fun cd A outer s H vs Q E hr tk po h => ?_
  · obtain ⟨c, rfl, _⟩ := h; rfl
  · obtain ⟨c, rfl, c0, q⟩ := h
    have nd := sc__law_plain.nd
    refine bcut (fun σ' H' => Ex H H' ∧ ∃ b : Int, 1 ≤ b ∧ b ≤ 18446744073709551616 ∧ σ' = [some (.int c), some (.int b), none, none]) ?_ ?_
    · top_name
      rename_i p H1 hp e1 hx1
      obtain ⟨v, hv, hi⟩ := atN (ns := [1, 2, 3, 7, 8, 127, 128, 255, 256, 300, 10 ^ (12 : Int).toNat, 2 ^ (64 : Int).toNat]) (k := c / 8 % 12) (Int.emod_nonneg _ (by decide)) (Int.emod_lt_of_pos _ (by decide))
      refine ixL (SqL.of hx1) hi ?_
      have hb : ∀ v ∈ [1, 2, 3, 7, 8, 127, 128, 255, 256, 300, (10 : Int) ^ (12 : Int).toNat, 2 ^ (64 : Int).toNat], 1 ≤ v ∧ v ≤ 18446744073709551616 := by decide +kernel
      exact ⟨e1, v, (hb v hv).1, (hb v hv).2, rfl⟩
    rintro _ H1 ⟨e1, b, b0, b1, rfl⟩
    refine bcut (fun σ' H' => Ex H H' ∧ ∃ g : Int, 1 ≤ g ∧ g ≤ 100 ∧ σ' = [some (.int c), some (.int b), some (.int g), none]) ?_ ?_
    · top_name
      rename_i p H2 hp e2 hx2
      obtain ⟨v, hv, hi⟩ := atN (ns := [1, 2, 5, 99, 100]) (k := c / 8 % 5) (Int.emod_nonneg _ (by decide)) (Int.emod_lt_of_pos _ (by decide))
      refine ixL (SqL.of hx2) hi ?_
      have hb : ∀ v ∈ [1, 2, 5, 99, (100 : Int)], 1 ≤ v ∧ v ≤ 100 := by decide
      exact ⟨e1.trans e2, v, (hb v hv).1, (hb v hv).2, rfl⟩
    rintro _ H2 ⟨e2, g, g0, g1, rfl⟩
    refine bcut (fun σ' H' => Ex H H' ∧ ∃ (L : Addr) (us : List V), H' L = some (.lst us) ∧ us.length = 5 ∧ (∀ u ∈ us, ∃ k : LD, k.Plain ∧ LKI H' u k) ∧ σ' = [some (.int c), some (.int b), some (.int g), some (.ref L)]) ?_ ?_
    · top_name
      rename_i o1 G1 ho1 g1 hx1 o2 G2 ho2 g2 hx2 o3 G3 ho3 g3 hx3 o4 G4 ho4 g4 hx4 o5 G5 ho5 g5 hx5 o6 G6 ho6 g6 hx6
      refine ⟨by one_sign, o6, _, hx6, rfl, fun u hu => ?_, rfl⟩
      simp only [List.mem_cons, List.not_mem_nil, or_false] at hu
      rcases hu with rfl | rfl | rfl | rfl | rfl
      · exact ⟨.truth, trivial, .truth (by one_item)⟩
      · exact ⟨.count, trivial, .count (by one_item)⟩
      · exact ⟨.whole, trivial, .whole (by one_item)⟩
      · exact ⟨.upto b, ⟨b0, b1⟩, .upto (by one_item)⟩
      · exact ⟨.text g, ⟨g0, by assumption⟩, .text (by one_item)⟩
    rintro _ H3 ⟨e3, L, us, hL, hul, hus, rfl⟩
    refine bcut (fun σ' H' => Ex H H' ∧ ∃ (L : Addr) (us : List V), H' L = some (.lst us) ∧ us.length = 8 ∧ (∀ u ∈ us, ∃ k : LD, k.Plain ∧ LKI H' u k) ∧ σ' = [some (.int c), some (.int b), some (.int g), some (.ref L)]) ?_ ?_
    · top_name
      rename_i o1 G1 ho1 g1 hx1 o2 G2 ho2 g2 hx2 o3 G3 ho3 g3 hx3 o6 G6 ho6 g6 hx6
      refine ocatE (by one_item) hx6 (by rw [hul, sizeLine_eq]; show 5 + 3 ≤ _; decide) fun M G7 hM g7 hxM => ?_
      have e37 : Ex H3 G7 := by one_sign
      refine ⟨e3.trans e37, M, _, hxM, by rw [List.length_append, hul]; rfl, fun u hu => ?_, rfl⟩
      rcases List.mem_append.mp hu with hu | hu
      · obtain ⟨k, h1, h2⟩ := hus u hu
        exact ⟨k, h1, h2.ex e37⟩
      simp only [List.mem_cons, List.not_mem_nil, or_false] at hu
      rcases hu with rfl | rfl | rfl
      · exact ⟨.upto b, ⟨b0, b1⟩, .upto (by one_item)⟩
      · exact ⟨.text 100, ⟨by decide, by decide⟩, .text (by one_item)⟩
      · exact ⟨.truth, trivial, .truth (by one_item)⟩
    rintro _ H4 ⟨e4, M, us', hM, hul', hus', rfl⟩
    obtain ⟨j, hj⟩ : ∃ j : Nat, c % 8 = (j : Int) := ⟨(c % 8).toNat, by omega⟩
    have hjl : j < us'.length := by omega
    obtain ⟨k, hk1, hk2⟩ := hus' _ (List.getElem_mem hjl)
    top_name
    rw [hj]
    refine ixL (SqL.of hM) (atI_nat (List.getElem?_eq_getElem hjl)) ?_
    exact q _ k _ hk1 hk2 e4
def spKd : Sp := fun vs H Q _ => ∃ (c : Int) (ahead : Nat), vs = [.int c, .int (ahead : Nat)] ∧ 0 ≤ c ∧ ahead ≤ 8 ∧ ∀ v k H', k.Good ahead → LKI H' v k → Ex H H' → Q v H'
theorem ok_kind (T : Txt K mg) : Gf P w K mg base 2 "_law_kind" [] spKd := by
  refine gf_mk T.f__law_kind T.m__law_kind (fun _ _ _ _ _ _ us hl => match us, hl with | [_, _], _ => rfl) fun fd F => fn_mk F sc__law_kind (fun vs H Q E h => ?_) fun cd A outer s H vs Q E hr tk po h => ?_
  · obtain ⟨c, ahead, rfl, _⟩ := h; rfl
  · obtain ⟨c, ahead, rfl, c0, ha, q⟩ := h
    have nd := sc__law_kind.nd
    refine bcut (fun σ' H' => Ex H H' ∧ ∃ v k, LD.One ahead k ∧ LKI H' v k ∧ σ' = [some (.int c), some (.int (ahead : Nat)), some v]) ?_ ?_
    · top_name
      refine zcall (ok_plain T) hr (by decide) takesF rfl ?_
      top_name
      refine ⟨by omega, fun v k H1 hk hi e1 => ?_⟩
      exact ⟨e1, v, k, hk.one _, hi, rfl⟩
    rintro _ H1 ⟨e1, v, k, hk, hi, rfl⟩
    refine bcut (fun σ' H' => Ex H H' ∧ ∃ v k, LD.One ahead k ∧ LKI H' v k ∧ σ' = [some (.int c), some (.int (ahead : Nat)), some v]) ?_ ?_
    · top_name
      · rename_i hpos tp H2 htp e2 hxt
        refine oinF (.inr (SqT.of hxt)) rfl rfl ?_
        refine ⟨_, rfl, ?_⟩
        refine ifb (fun hb => ?_) fun hb => ?_
        · top_name
          rename_i o H3 ho e3 hx3
          have m0 := Int.emod_nonneg (c / 16) (show ((ahead : Nat) : Int) ≠ 0 by omega)
          have m1 := Int.emod_lt_of_pos (c / 16) (show (0 : Int) < ((ahead : Nat) : Int) by omega)
          obtain ⟨j, hj⟩ : ∃ j : Nat, c / 16 % (ahead : Int) = (j : Int) := ⟨(c / 16 % (ahead : Int)).toNat, by omega⟩
          rw [hj] at hx3
          exact ⟨(e1.trans e2).trans e3, _, .form j, (by show j < ahead; omega), .form hx3, rfl⟩
        · (repeat refine bnil ?_)
          exact ⟨e1.trans e2, v, k, hk, hi.ex e2, rfl⟩
      · exact ⟨e1, v, k, hk, hi, rfl⟩
    rintro _ H2 ⟨e2, v, k, hk, hi, rfl⟩
    top_name
    rename_i tp H3 htp e3 hxt
    refine oinF (.inr (SqT.of hxt)) rfl rfl ?_
    refine ⟨_, rfl, ?_⟩
    refine ifb (fun hb => ?_) fun hb => ?_
    · top_name
      rename_i o H4 ho e4 hx4
      exact q _ (.list k) _ hk (.list hx4 (hi.ex (e3.trans e4))) ((e2.trans e3).trans e4)
    · top_name
      exact q _ k _ hk.good (hi.ex e3) (e2.trans e3)
end

set_option maxRecDepth 100000
set_option maxHeartbeats 4000000
set_option pp.maxSteps 400
section
open PySem PySem.Spec PyProof.Rows L2 Z
open Evl (Ex)
variable {P : Program} {w : World} {K : PySem.W.Frag} {mg : Str → Option Value} {base : Heap}
/-! ### dicts as the law has them -/
def sfD (n : Int) (s : Str) (kv : V) (m : Bool) (dv : V) : List (Key × V) := [(.inr "number", .int n), (.inr "name", .str s), (.inr "kind", kv), (.inr "must", .bl m), (.inr "default", dv)]
def smD (s : Str) (c : Bool) (g l : Addr) : List (Key × V) := [(.inr "name", .str s), (.inr "choice", .bl c), (.inr "gone", .ref g), (.inr "fields", .ref l)]
theorem dk_get {H : Hp} {a : Addr} {kvs : List (Key × V)} {s : Str} {v : V} (h : H a = some (.dK kvs)) (e : valV kvs (.inr s) = some v) : DGet H a (.str s) (some v) := by
  have := DGet.k (k := .inr s) h
  rwa [e] at this
section
variable {H : Hp} {a : Addr} {n : Int} {s : Str} {kv dv : V} {m : Bool}
theorem sf_number (h : H a = some (.dK (sfD n s kv m dv))) : DGet H a (.str "number") (some (.int n)) := dk_get h rfl
theorem sf_name (h : H a = some (.dK (sfD n s kv m dv))) : DGet H a (.str "name") (some (.str s)) := dk_get h rfl
theorem sf_kind (h : H a = some (.dK (sfD n s kv m dv))) : DGet H a (.str "kind") (some kv) := dk_get h rfl
theorem sf_must (h : H a = some (.dK (sfD n s kv m dv))) : DGet H a (.str "must") (some (.bl m)) := dk_get h rfl
theorem sf_default (h : H a = some (.dK (sfD n s kv m dv))) : DGet H a (.str "default") (some dv) := dk_get h rfl
theorem sm_name {g l : Addr} (h : H a = some (.dK (smD s m g l))) : DGet H a (.str "name") (some (.str s)) := dk_get h rfl
theorem sm_choice {g l : Addr} (h : H a = some (.dK (smD s m g l))) : DGet H a (.str "choice") (some (.bl m)) := dk_get h rfl
theorem sm_gone {g l : Addr} (h : H a = some (.dK (smD s m g l))) : DGet H a (.str "gone") (some (.ref g)) := dk_get h rfl
theorem sm_fields {g l : Addr} (h : H a = some (.dK (smD s m g l))) : DGet H a (.str "fields") (some (.ref l)) := dk_get h rfl
end
theorem tup0 {α : Type} {x : α} {xs : List α} : atI (x :: xs) 0 = some x := at0
theorem tup1 {α : Type} {x y : α} {xs : List α} : atI (x :: y :: xs) 1 = some y := at1
local macro_rules | `(tactic| nest_fact) => `(tactic| first | exact tup0 | exact tup1 | exact rfl)
local macro_rules | `(tactic| leaf_len) => `(tactic| first | refine ⟨_, _, rfl, sf_number (by one_item), ?_⟩ | refine ⟨_, _, rfl, sf_name (by one_item), ?_⟩ | refine ⟨_, _, rfl, sf_kind (by one_item), ?_⟩ | refine ⟨_, _, rfl, sf_must (by one_item), ?_⟩ | refine ⟨_, _, rfl, sf_default (by one_item), ?_⟩ | refine ⟨_, _, rfl, sm_name (by one_item), ?_⟩ | refine ⟨_, _, rfl, sm_choice (by one_item), ?_⟩ | refine ⟨_, _, rfl, sm_gone (by one_item), ?_⟩ | refine ⟨_, _, rfl, sm_fields (by one_item), ?_⟩ | fail)
local macro_rules | `(tactic| tb_rel) => `(tactic| first
  | ((with_reducible refine (?_ : wE _ (.Subscript _ (.Constant (.str _) _ _) _) _ _ _)); refine zdat (by first | assumption | omega) ?_)
  | ((with_reducible refine (?_ : wS _ (.Assign [.Subscript _ (.Constant (.str _) _ _) _] _ _) _ _ _)); refine sdput (by first | assumption | omega) ?_)
  | ((with_reducible refine (?_ : wIx _ (.ref _) (.int _) _ _)); refine ixT (SqT.of (by one_item)) (by nest_fact) ?_)
  | ((with_reducible refine (?_ : ∃ a v, _ = V.ref a ∧ DGet _ a _ (some v) ∧ _)); leaf_len)
  | fail)
/-! ### defaults drawn -/
def LD.bl (k : LD) : DV := (k.kd []).bl
theorem LD.bl_kd (k : LD) (nms : List Str) : (k.kd nms).bl = k.bl := by cases k <;> rfl
def spBla : Sp := fun vs H Q _ => ∃ (v : V) (k : LD), vs = [v] ∧ LKI H v k ∧ ∀ v' H', Ex H H' → DvAt (nw H H') v' k.bl → Q v' H'
theorem ok_blank (T : Txt K mg) : Gf P w K mg base 1 "_law_blank" [] spBla := by
  refine gf_mk T.f__law_blank T.m__law_blank (fun _ _ _ _ _ _ us hl => match us, hl with | [_], _ => rfl) fun fd F => fn_mk F sc__law_blank (fun vs H Q E h => ?_) fun cd A outer s H vs Q E hr tk po h => ?_
  · obtain ⟨v, k, rfl, _⟩ := h; rfl
  · obtain ⟨v, k, rfl, hk, q⟩ := h
    have nd := sc__law_blank.nd
    obtain ⟨t, us, rfl, ht⟩ := hk.tup
    top_name
    refine zdget2 (Nat.lt_of_le_of_lt (by omega) hr.units) ?_
    refine zdisp rfl rfl (by decide) (by decide) fun p G1 hp g1 hx1 => ?_
    show wE _ _ _ _ _
    top_name
    show wE _ _ _ _ _
    top_name
    show wE _ _ _ _ _
    top_name
    show wE _ _ _ _ _
    top_name
    rename_i l G2 hl0 g2 hxl
    refine ⟨g2, [(.inr "truth", .bl false), (.inr "text", .str ""), (.inr "list", .ref l), (.inr "form", .non)], rfl, by show 4 ≤ 15; decide, fun G3 g3 hk3 hx3 => ?_⟩
    refine ⟨p, rfl, .inl ⟨_, .inl hx3⟩, ?_⟩
    top_name
    refine ⟨_, .inl ⟨_, .inr k.word, .inl hx3, rfl, rfl⟩, ?_⟩
    cases k with
    | truth => exact q _ _ g3 (.bl _)
    | count => exact q _ _ g3 (.int _)
    | whole => exact q _ _ g3 (.int _)
    | upto n => exact q _ _ g3 (.int _)
    | text n => exact q _ _ g3 (.str _)
    | form i => exact q _ _ g3 .none
    | list k =>
      have nlp : l ≠ p := fun e => by subst e; rw [hx1] at hl0; cases hl0
      exact q (.ref l) _ g3 (.list (nw_at (Evl.fresh_back g1 hl0) (hk3 l _ nlp hxl)))
def LD.suits (k : LD) (d : DV) : Prop := DV.suits (k.kd []) d
theorem plain_kd {k : LD} (h : k.Plain) (nms : List Str) : k.kd nms = k.kd [] := by
  cases k <;> first | rfl | exact h.elim
theorem name_cut {x : Str} (h : nameB x = true) {k : Int} (hk : 1 ≤ k) : nameB (cutS x none (some k)) = true ∧ ((cutS x none (some k)).length : Int) ≤ k := by
  have h' := h
  unfold nameB at h
  rw [Bool.and_eq_true] at h
  have h1 := of_decide_eq_true h.1
  have hlo : LO x := fun c hc => of_decide_eq_true (List.all_eq_true.mp h.2 c hc)
  have hl : (cutS x none (some k)).length = min k.toNat x.length := by
    rw [len_is, cutTo (by omega), List.length_take, ← len_is]
  exact ⟨name_lo (hlo.to (by omega)) (by omega) (by omega), by omega⟩
def spDe : Sp := fun vs H Q _ => ∃ (v : V) (k : LD) (c : Int), vs = [v, .int c] ∧ LKI H v k ∧ k.Plain ∧ 0 ≤ c ∧ c < 2147483647 ∧ ∀ d H', k.suits d → Ex H H' → Q d.val H'
theorem ok_default (T : Txt K mg) : Gf P w K mg base 2 "_law_default" [] spDe := by
  refine gf_mk T.f__law_default T.m__law_default (fun _ _ _ _ _ _ us hl => match us, hl with | [_, _], _ => rfl) fun fd F => fn_mk F sc__law_default (fun vs H Q E h => ?_) fun cd A outer s H vs Q E hr tk po h => ?_
  · obtain ⟨v, k, c, rfl, _⟩ := h; rfl
  · obtain ⟨v, k, c, rfl, hk, hp, c0, c1, q⟩ := h
    have nd := sc__law_default.nd
    have hM : MOST = 115792089237316195423570985008687907853269984665640564039457584007913129639935 := rfl
    have hH : HALF = 57896044618658097711785492504343953926634992332820282019728792003956564819968 := rfl
    cases hk with
    | truth ht =>
      top_name
      exact q (.bl true) _ trivial (Ex.refl _)
    | text ht =>
      rename_i t n
      have hp : 1 ≤ n ∧ n ≤ 100 := hp
      top_name
      refine zcall (ok_names T) hr (by decide) takesF rfl ?_
      top_name
      refine ⟨c, 1, rfl, c0, by omega, by decide, fun ys u H1 hy hu e1 hxu => ?_⟩
      obtain ⟨y, rfl⟩ : ∃ y, ys = [y] := List.length_eq_one_iff.mp hy.len
      have ht1 := e1 _ _ ht
      top_name
      refine ixL (SqL.of hxu) at0 ?_
      obtain ⟨n1, n2⟩ := hy.nm y List.mem_cons_self
      top_name
      refine slS (by rw [sizeLine_eq]; omega) ?_
      obtain ⟨a1, a2⟩ := name_cut n1 hp.1
      exact q (.str _) _ (.inr ⟨a1, a2⟩) e1
    | upto ht =>
      rename_i t n
      have hp : 1 ≤ n ∧ n ≤ 18446744073709551616 := hp
      have m0 := Int.emod_nonneg c (show n + 1 ≠ 0 by omega)
      have m1 := Int.emod_lt_of_pos c (show (0 : Int) < n + 1 by omega)
      top_name
      rename_i p H1 hp1 e1 hx1
      obtain ⟨v, hv, hi⟩ := atN (ns := [1, n, c % (n + 1)]) (k := c / 7 % 3) (Int.emod_nonneg _ (by decide)) (Int.emod_lt_of_pos _ (by decide))
      refine ixL (SqL.of hx1) hi ?_
      refine q (.int v) _ ?_ e1
      show 0 ≤ v ∧ v ≤ n
      simp only [List.mem_cons, List.not_mem_nil, or_false] at hv
      rcases hv with rfl | rfl | rfl <;> omega
    | whole ht =>
      top_name
      rename_i p H1 hp1 e1 hx1
      obtain ⟨v, hv, hi⟩ := atN (ns := [-1, 1, c, 0 - c]) (k := c / 7 % 4) (Int.emod_nonneg _ (by decide)) (Int.emod_lt_of_pos _ (by decide))
      refine ixL (SqL.of hx1) hi ?_
      refine q (.int v) _ ?_ e1
      show -HALF ≤ v ∧ v ≤ HALF - 1
      rw [hH]
      simp only [List.mem_cons, List.not_mem_nil, or_false] at hv
      rcases hv with rfl | rfl | rfl | rfl <;> omega
    | count ht =>
      top_name
      rename_i p H1 hp1 e1 hx1
      obtain ⟨v, hv, hi⟩ := atN (ns := [1, 127, 128, c]) (k := c / 7 % 4) (Int.emod_nonneg _ (by decide)) (Int.emod_lt_of_pos _ (by decide))
      refine ixL (SqL.of hx1) hi ?_
      refine q (.int v) _ ?_ e1
      show 0 ≤ v ∧ v ≤ MOST
      rw [hM]
      simp only [List.mem_cons, List.not_mem_nil, or_false] at hv
      rcases hv with rfl | rfl | rfl | rfl <;> omega
    | form ht => exact hp.elim
    | list ht _ => exact hp.elim
/-! ### fields drawn -/
structure SF where
  mark : Int
  name : Str
  kind : LD
  must : Bool
  dflt : DV
structure SFI (H : Hp) (a : Addr) (sf : SF) : Prop where
  at_ : ∃ kv dv, H a = some (.dK (sfD sf.mark sf.name kv sf.must dv)) ∧ LKI H kv sf.kind ∧ DvAt H dv sf.dflt
theorem SFI.ex {H H' : Hp} (e : Ex H H') {a : Addr} {sf : SF} (h : SFI H a sf) : SFI H' a sf := by
  obtain ⟨kv, dv, h1, h2, h3⟩ := h
  exact ⟨kv, dv, e _ _ h1, h2.ex e, h3.ex e⟩
theorem cut_keep {T : List Addr} {H : Hp} {x : Addr} {o : HO} (hT : ∀ x ∈ T, ∃ xs, H x = some (.lst xs)) (h : H x = some o) (n : ∀ xs, o ≠ .lst xs) : cutA T H x = some o := by
  unfold cutA
  rw [if_neg (fun m => ?_)]
  · exact h
  · obtain ⟨xs, hx⟩ := hT x m
    rw [h] at hx
    exact n xs (Option.some.inj hx)
theorem LKI.cut {T : List Addr} {H : Hp} (hT : ∀ x ∈ T, ∃ xs, H x = some (.lst xs)) : ∀ {v : V} {k : LD}, LKI H v k → LKI (cutA T H) v k
  | _, _, .truth h => .truth (cut_keep hT h fun _ z => by cases z)
  | _, _, .count h => .count (cut_keep hT h fun _ z => by cases z)
  | _, _, .whole h => .whole (cut_keep hT h fun _ z => by cases z)
  | _, _, .upto h => .upto (cut_keep hT h fun _ z => by cases z)
  | _, _, .text h => .text (cut_keep hT h fun _ z => by cases z)
  | _, _, .form h => .form (cut_keep hT h fun _ z => by cases z)
  | _, _, .list h i => .list (cut_keep hT h fun _ z => by cases z) (i.cut hT)
def LD.isPlain : LD → Bool
  | .form _ => false
  | .list _ => false
  | _ => true
theorem LD.isPlain_kd (k : LD) (nms : List Str) : (k.kd nms).plain = k.isPlain := by cases k <;> rfl
theorem good_plain {k : LD} {a : Nat} (h : k.Good a) (hp : k.isPlain = true) : k.Plain := by
  cases k <;> first | exact h | cases hp
/-- a field that may be drawn -/
structure SfOk (ahead : Nat) (ws : List Int) (c : Bool) (sf : SF) : Prop where
  ki : sf.kind.Good ahead
  mu : sf.must = true → c = false
  wt : sf.must = true → ∀ i, sf.kind = .form i → ws.getD i 0 ≤ 8
  df : if sf.must = true ∨ c = true ∨ sf.kind.isPlain = false then sf.dflt = sf.kind.bl else sf.kind.suits sf.dflt
theorem in_lf (k : LD) : inV (.str k.word) [.str "list", .str "form"] = !k.isPlain := by
  cases k <;> rfl
theorem word_form (k : LD) : decide (V.str k.word = .str "form") = (match k with | .form _ => true | _ => false) := by
  cases k <;> rfl
def spFd : Sp := fun vs H Q _ => ∃ (n mark : Int) (s : Str) (ahead : Nat) (wl : Addr) (ws : List Int) (c : Bool), vs = [.int n, .int mark, .str s, .int (ahead : Nat), .ref wl, .bl c] ∧ 0 ≤ n ∧ n < 2147483647 ∧ ahead ≤ 8 ∧ H wl = some (.lst (ws.map V.int)) ∧ ws.length = ahead ∧
  ∀ a H' sf, Ex H H' → H a = none → (∀ T, (∀ x ∈ T, ∃ xs, H x = some (.lst xs)) → SFI (cutA T H') a sf) → sf.mark = mark → sf.name = s → SfOk ahead ws c sf → Q (.ref a) H'
theorem ok_field (T : Txt K mg) : Gf P w K mg base 3 "_law_field" [] spFd := by
  refine gf_mk T.f__law_field T.m__law_field (fun _ _ _ _ _ _ us hl => match us, hl with | [_, _, _, _, _, _], _ => rfl) fun fd F => fn_mk F sc__law_field (fun vs H Q E h => ?_) fun cd A outer s0 H vs Q E hr tk po h => ?_
  · obtain ⟨n, mark, s, ahead, wl, ws, c, rfl, _⟩ := h; rfl
  · obtain ⟨n, mark, s, ahead, wl, ws, c, rfl, n0, n1, ha, hw, hwl, q⟩ := h
    have nd := sc__law_field.nd
    have hu1 := Nat.lt_of_le_of_lt (Nat.add_le_add_left (show 1 ≤ 64 by decide) _) hr.units
    refine bcut (fun σ' H' => Ex H H' ∧ ∃ v k, LD.Good ahead k ∧ LKI H' v k ∧ σ' = [some (.int n), some (.int mark), some (.str s), some (.int (ahead : Nat)), some (.ref wl), some (.bl c), some v, none, none]) ?_ ?_
    · top_name
      refine zcall (ok_kind T) hr (by decide) takesF rfl ?_
      top_name
      exact ⟨n, ahead, rfl, n0, ha, fun v k H1 hk hi e1 => ⟨e1, v, k, hk, hi, rfl⟩⟩
    rintro _ H1 ⟨e1, v, k, hk, hi, rfl⟩
    obtain ⟨kt, kus, rfl, hkt⟩ := hi.tup
    refine bcut (fun σ' H' => H1 = H' ∧ ∃ m : Bool, (m = true → c = false) ∧ σ' = [some (.int n), some (.int mark), some (.str s), some (.int (ahead : Nat)), some (.ref wl), some (.bl c), some (.ref kt), some (.bl m), none]) ?_ ?_
    · cases c with
      | true =>
        top_name
        exact ⟨rfl, false, fun z => (by cases z), rfl⟩
      | false =>
        top_name
        exact ⟨rfl, _, fun _ => rfl, rfl⟩
    rintro _ _ ⟨rfl, m0, hm0, rfl⟩
    refine bcut (fun σ' H' => H1 = H' ∧ ∃ m : Bool, (m = true → c = false) ∧ (m = true → ∀ i, k = .form i → ws.getD i 0 ≤ 8) ∧ σ' = [some (.int n), some (.int mark), some (.str s), some (.int (ahead : Nat)), some (.ref wl), some (.bl c), some (.ref kt), some (.bl m), none]) ?_ ?_
    · have other : (∀ i, k ≠ .form i) → wS (cx P w K mg base N__law_field "_law_field" (defScope s__law_field) (He.fAd K ("_law_field", none)) cd A outer s0 H E) ((defBody s__law_field).getD 2 (.Pass ⟨0, 0, 0, 0⟩)) { nx := fun σ' H' => H1 = H' ∧ ∃ m : Bool, (m = true → c = false) ∧ (m = true → ∀ i, k = .form i → ws.getD i 0 ≤ 8) ∧ σ' = [some (.int n), some (.int mark), some (.str s), some (.int (ahead : Nat)), some (.ref wl), some (.bl c), some (.ref kt), some (.bl m), none], rt := Q } [some (.int n), some (.int mark), some (.str s), some (.int (ahead : Nat)), some (.ref wl), some (.bl c), some (.ref kt), some (.bl m0), none] H1 := fun hn => by
        have hwf : decide (V.str k.word = .str "form") = false := by
          rw [word_form]
          cases k with
          | form i => exact absurd rfl (hn i)
          | _ => rfl
        refine sif (tcut false ?_ ?_)
        · top_name
          · rename_i hq; exact absurd (decide_eq_true hq) (by rw [hwf]; exact Bool.false_ne_true)
          · exact ⟨rfl, rfl⟩
        · exact ifF (bnil ⟨rfl, m0, hm0, fun _ i hi => absurd hi (hn i), rfl⟩)
      cases k with
      | form i =>
        have hil : i < ahead := hk
        have hkt2 : H1 kt = some (.tup [.str "form", .int (i : Nat)]) := by cases hi with | form h => exact h
        cases m0 with
        | false =>
          top_name
          exact ⟨rfl, false, fun z => (by cases z), fun z => (by cases z), rfl⟩
        | true =>
          have hw1 := e1 _ _ hw
          obtain ⟨x, hx⟩ : ∃ x, ws[i]? = some x := ⟨_, List.getElem?_eq_getElem (by omega)⟩
          top_name
          refine ixL (SqL.of hw1) (atI_nat (by rw [List.getElem?_map, hx]; rfl)) ?_
          top_name
          refine ⟨rfl, _, hm0 |> fun z _ => z rfl, fun z j hj => ?_, rfl⟩
          obtain rfl : i = j := LD.form.inj hj
          have := of_decide_eq_true z
          rw [List.getD_eq_getElem?_getD, hx]
          exact this
      | truth => exact other fun i z => by cases z
      | count => exact other fun i z => by cases z
      | whole => exact other fun i z => by cases z
      | upto _ => exact other fun i z => by cases z
      | text _ => exact other fun i z => by cases z
      | list _ => exact other fun i z => by cases z
    rintro _ _ ⟨rfl, m, hm1, hm2, rfl⟩
    refine bcut (fun σ' H' => Ex H1 H' ∧ ∃ p, H1 p = none ∧ H' p = some (.dK [(.inr "number", .int mark), (.inr "name", .str s), (.inr "kind", .ref kt), (.inr "must", .bl m)]) ∧ σ' = [some (.int n), some (.int mark), some (.str s), some (.int (ahead : Nat)), some (.ref wl), some (.bl c), some (.ref kt), some (.bl m), some (.ref p)]) ?_ ?_
    · top_name
      refine zdisp rfl rfl (by decide) (by decide) fun p G1 hp g1 hx1 => ?_
      show wE _ _ _ _ _
      top_name
      show wE _ _ _ _ _
      top_name
      show wE _ _ _ _ _
      top_name
      show wE _ _ _ _ _
      top_name
      refine ⟨Ex.refl _, [(.inr "number", .int mark), (.inr "name", .str s), (.inr "kind", .ref kt), (.inr "must", .bl m)], rfl, by show 4 ≤ 15; decide, fun G3 g3 hk3 hx3 => ?_⟩
      exact ⟨g3, p, hp, hx3, rfl⟩
    rintro _ H2 ⟨e2, p, hp0, hp2, rfl⟩
    have p4 : ∀ dv, putK ([(.inr "number", .int mark), (.inr "name", .str s), (.inr "kind", .ref kt), (.inr "must", .bl m)] : List (Key × V)) (.inr "default") dv = sfD mark s (.ref kt) m dv := fun _ => rfl
    have p5 : ∀ dv dv', putK (sfD mark s (.ref kt) m dv) (.inr "default") dv' = sfD mark s (.ref kt) m dv' := fun _ _ => rfl
    refine bcut (fun σ' H' => Ex H1 H' ∧ ∃ dv, DvAt (nw H1 H') dv k.bl ∧ H' p = some (.dK (sfD mark s (.ref kt) m dv)) ∧ σ' = [some (.int n), some (.int mark), some (.str s), some (.int (ahead : Nat)), some (.ref wl), some (.bl c), some (.ref kt), some (.bl m), some (.ref p)]) ?_ ?_
    · top_name
      refine zcall (ok_blank T) hr (by decide) takesF rfl ?_
      top_name
      refine ⟨_, k, rfl, hi.ex e2, fun dv H3 e3 hdv => ?_⟩
      top_name
      refine ⟨p, _, rfl, DPut.k (k := .inr "default") (e3 _ _ hp2) (by rw [sizeLine_eq]; show 4 < 16777216; decide), ?_⟩
      refine ⟨Ex.past (e2.trans e3) hp0, dv, ?_, by rw [upd_same, p4], rfl⟩
      exact hdv.ex fun b o z => by
        have z2 := nw_del hp2 _ _ z
        have nb : b ≠ p := fun y => by rw [y, del_same] at z2; cases z2
        refine nw_more e2 _ _ ?_
        unfold nw at z ⊢
        cases hb : H2 b with
        | some _ => rw [hb] at z; cases z
        | none => rw [hb] at z; show upd H3 p _ b = some o; rw [upd_ne nb]; exact z
    rintro _ H3 ⟨e3, dv, hdv, hp3, rfl⟩
    have e13 := e1.trans e3
    have hpH : H p = none := Evl.fresh_back e1 hp0
    refine bcut (fun σ' H' => Ex H1 H' ∧ ∃ dv d, DvAt (nw H1 H') dv d ∧ H' p = some (.dK (sfD mark s (.ref kt) m dv)) ∧ (if m = true ∨ c = true ∨ k.isPlain = false then d = k.bl else k.suits d) ∧ σ' = [some (.int n), some (.int mark), some (.str s), some (.int (ahead : Nat)), some (.ref wl), some (.bl c), some (.ref kt), some (.bl m), some (.ref p)]) ?_ ?_
    · have hkt3 := e3 _ _ hkt
      have keep : (k.isPlain = true → k.Plain) → ∀ {H' : Hp}, Ex H3 H' → Ex H1 H' ∧ ∃ dv d, DvAt (nw H1 H') dv d ∧ H' p = some (.dK (sfD mark s (.ref kt) m dv)) ∧ (if m = true ∨ c = true ∨ k.isPlain = false then d = k.bl else k.suits d) := fun hpl H' e => by
        refine ⟨e3.trans e, dv, k.bl, hdv.ex (nw_mono e), e _ _ hp3, ?_⟩
        split
        · rfl
        · rename_i hh
          have hp : k.isPlain = true := by
            cases z : k.isPlain with
            | true => rfl
            | false => exact absurd (.inr (.inr z)) hh
          have hpp := hpl hp
          show DV.suits (k.kd []) (k.kd []).bl
          refine bl_suits ?_ (by rw [LD.isPlain_kd]; exact hp)
          have hM : MOST = 115792089237316195423570985008687907853269984665640564039457584007913129639935 := rfl
          cases k with
          | upto n => have hpp : 1 ≤ n ∧ n ≤ 18446744073709551616 := hpp; exact ⟨hpp.1, by omega⟩
          | text n => exact hpp
          | truth => trivial
          | count => trivial
          | whole => trivial
          | form _ => cases hp
          | list _ => cases hp
      have keep := @keep fun h => good_plain hk h
      have done : ∀ {H' : Hp}, Ex H3 H' → Ex H1 H' ∧ ∃ dv d, DvAt (nw H1 H') dv d ∧ H' p = some (.dK (sfD mark s (.ref kt) m dv)) ∧ (if m = true ∨ c = true ∨ k.isPlain = false then d = k.bl else k.suits d) ∧ [some (V.int n), some (.int mark), some (.str s), some (.int (ahead : Nat)), some (.ref wl), some (.bl c), some (.ref kt), some (.bl m), some (.ref p)] = [some (V.int n), some (.int mark), some (.str s), some (.int (ahead : Nat)), some (.ref wl), some (.bl c), some (.ref kt), some (.bl m), some (.ref p)] := fun e => by
        obtain ⟨a, dv, d, h1, h2, h3⟩ := keep e
        exact ⟨a, dv, d, h1, h2, h3, rfl⟩
      refine sif ?_
      top_name
      rename_i tp H4 htp e4 hxt
      refine oninF (.inr (SqT.of hxt)) rfl rfl ?_
      rw [in_lf, Bool.not_not]
      refine ⟨_, rfl, ?_⟩
      refine ifb (fun hpl => ?_) fun hpl => ?_
      · have hpp := good_plain hk hpl
        cases m with
        | true =>
          top_name
          exact done e4
        | false =>
          cases c with
          | true =>
            top_name
            exact done e4
          | false =>
            top_name
            · refine zcall (ok_default T) hr (by decide) takesF rfl ?_
              top_name
              refine ⟨_, k, _, rfl, (hi.ex e3).ex e4, hpp, by omega, by omega, fun d H5 hd e5 => ?_⟩
              top_name
              refine ⟨p, _, rfl, DPut.k (k := .inr "default") (e5 _ _ (e4 _ _ hp3)) (by rw [sizeLine_eq]; show 5 < 16777216; decide), ?_⟩
              (repeat refine bnil ?_)
              refine ⟨Ex.past (e3.trans (e4.trans e5)) hp0, d.val, d, dv_val hd, by rw [upd_same, p5], ?_, rfl⟩
              rw [if_neg (by rw [hpl]; simp)]
              exact hd
            · exact done e4
      · top_name
        exact done e4
    rintro _ H4 ⟨e4, dv, d, hd, hp4, hdf, rfl⟩
    top_name
    exact q p H4 ⟨mark, s, k, m, d⟩ (e1.trans e4) hpH (fun TT hTT => have hT4 : ∀ x ∈ TT, ∃ xs, H4 x = some (.lst xs) := fun x hx => (by obtain ⟨xs, h⟩ := hTT x hx; exact ⟨xs, e4 _ _ (e1 _ _ h)⟩); ⟨_, dv, cut_keep hT4 hp4 fun _ z => (by cases z), (hi.ex e4).cut hT4, hd.ex ((nw_more e1).trans (nw_cut fun x hx z => by obtain ⟨xs, h⟩ := hTT x hx; rw [z] at h; cases h))⟩) rfl rfl ⟨hk, hm1, hm2, hdf⟩
end

set_option maxRecDepth 100000
set_option maxHeartbeats 4000000
set_option pp.maxSteps 400
section
open PySem PySem.Spec PyProof.Rows L2 Z
open Evl (Ex)
variable {P : Program} {w : World} {K : PySem.W.Frag} {mg : Str → Option Value} {base : Heap}
local macro_rules | `(tactic| nest_fact) => `(tactic| first | exact tup0 | exact tup1 | exact rfl)
local macro_rules | `(tactic| leaf_len) => `(tactic| first | refine ⟨_, _, rfl, sf_number (by one_item), ?_⟩ | refine ⟨_, _, rfl, sf_name (by one_item), ?_⟩ | refine ⟨_, _, rfl, sf_kind (by one_item), ?_⟩ | refine ⟨_, _, rfl, sf_must (by one_item), ?_⟩ | refine ⟨_, _, rfl, sf_default (by one_item), ?_⟩ | refine ⟨_, _, rfl, sm_name (by one_item), ?_⟩ | refine ⟨_, _, rfl, sm_choice (by one_item), ?_⟩ | refine ⟨_, _, rfl, sm_gone (by one_item), ?_⟩ | refine ⟨_, _, rfl, sm_fields (by one_item), ?_⟩ | fail)
local macro_rules | `(tactic| tb_rel) => `(tactic| first
  | ((with_reducible refine (?_ : wE _ (.Subscript _ (.Constant (.str _) _ _) _) _ _ _)); refine zdat (by first | assumption | omega) ?_)
  | ((with_reducible refine (?_ : wS _ (.Assign [.Subscript _ (.Constant (.str _) _ _) _] _ _) _ _ _)); refine sdput (by first | assumption | omega) ?_)
  | ((with_reducible refine (?_ : wIx _ (.ref _) (.int _) _ _)); refine ixT (SqT.of (by one_item)) (by nest_fact) ?_)
  | ((with_reducible refine (?_ : ∃ a v, _ = V.ref a ∧ DGet _ a _ (some v) ∧ _)); leaf_len)
  | fail)
/-! ### forms drawn -/
structure SM where
  name : Str
  choice : Bool
  gone : List Int
  fields : List SF
def SFs (H : Hp) (vs : List V) (sfs : List SF) : Prop := ∃ zs : List (Addr × SF), vs = zs.map (fun z => V.ref z.1) ∧ sfs = zs.map (fun z => z.2) ∧ ∀ z ∈ zs, SFI H z.1 z.2
theorem SFs.ex {H H' : Hp} (e : Ex H H') {vs : List V} {sfs : List SF} (h : SFs H vs sfs) : SFs H' vs sfs := by
  obtain ⟨zs, h1, h2, h3⟩ := h
  exact ⟨zs, h1, h2, fun z hz => (h3 z hz).ex e⟩
theorem SFs.len {H : Hp} {vs : List V} {sfs : List SF} (h : SFs H vs sfs) : vs.length = sfs.length := by
  obtain ⟨zs, rfl, rfl, _⟩ := h
  rw [List.length_map, List.length_map]
theorem SFs.get {H : Hp} {vs : List V} {sfs : List SF} {i : Nat} {v : V} (h : SFs H vs sfs) (hv : vs[i]? = some v) : ∃ a sf, v = .ref a ∧ sfs[i]? = some sf ∧ SFI H a sf := by
  obtain ⟨zs, rfl, rfl, h3⟩ := h
  rw [List.getElem?_map] at hv
  cases z : zs[i]? with
  | none => rw [z] at hv; cases hv
  | some x =>
    rw [z] at hv
    exact ⟨x.1, x.2, (Option.some.inj hv).symm, by rw [List.getElem?_map, z]; rfl, h3 x (List.mem_of_getElem? z)⟩
theorem SFs.nil {H : Hp} : SFs H [] [] := ⟨[], rfl, rfl, fun _ h => nomatch h⟩
theorem SFs.one {H : Hp} {vs : List V} {sfs : List SF} {a : Addr} {sf : SF} (h : SFs H vs sfs) (g : SFI H a sf) : SFs H (vs ++ [.ref a]) (sfs ++ [sf]) := by
  obtain ⟨zs, rfl, rfl, h3⟩ := h
  refine ⟨zs ++ [(a, sf)], by rw [List.map_append]; rfl, by rw [List.map_append]; rfl, fun z hz => ?_⟩
  rcases List.mem_append.mp hz with hz | hz
  · exact h3 z hz
  · rw [List.mem_singleton.mp hz]; exact g
structure SMI (H : Hp) (a : Addr) (sm : SM) : Prop where
  at_ : ∃ g l us, H a = some (.dK (smD sm.name sm.choice g l)) ∧ H g = some (.lst (sm.gone.map V.int)) ∧ H l = some (.lst us) ∧ SFs H us sm.fields
theorem SMI.ex {H H' : Hp} (e : Ex H H') {a : Addr} {sm : SM} (h : SMI H a sm) : SMI H' a sm := by
  obtain ⟨g, l, us, h1, h2, h3, h4⟩ := h
  exact ⟨g, l, us, e _ _ h1, e _ _ h2, e _ _ h3, h4.ex e⟩
def SMs (H : Hp) (vs : List V) (sms : List SM) : Prop := ∃ zs : List (Addr × SM), vs = zs.map (fun z => V.ref z.1) ∧ sms = zs.map (fun z => z.2) ∧ ∀ z ∈ zs, SMI H z.1 z.2
theorem SMs.ex {H H' : Hp} (e : Ex H H') {vs : List V} {sms : List SM} (h : SMs H vs sms) : SMs H' vs sms := by
  obtain ⟨zs, h1, h2, h3⟩ := h
  exact ⟨zs, h1, h2, fun z hz => (h3 z hz).ex e⟩
theorem SMs.len {H : Hp} {vs : List V} {sms : List SM} (h : SMs H vs sms) : vs.length = sms.length := by
  obtain ⟨zs, rfl, rfl, _⟩ := h
  rw [List.length_map, List.length_map]
theorem SMs.get {H : Hp} {vs : List V} {sms : List SM} {i : Nat} {v : V} (h : SMs H vs sms) (hv : vs[i]? = some v) : ∃ a sm, v = .ref a ∧ sms[i]? = some sm ∧ SMI H a sm := by
  obtain ⟨zs, rfl, rfl, h3⟩ := h
  rw [List.getElem?_map] at hv
  cases z : zs[i]? with
  | none => rw [z] at hv; cases hv
  | some x =>
    rw [z] at hv
    exact ⟨x.1, x.2, (Option.some.inj hv).symm, by rw [List.getElem?_map, z]; rfl, h3 x (List.mem_of_getElem? z)⟩
theorem SMs.nil {H : Hp} : SMs H [] [] := ⟨[], rfl, rfl, fun _ h => nomatch h⟩
theorem SMs.one {H : Hp} {vs : List V} {sms : List SM} {a : Addr} {sm : SM} (h : SMs H vs sms) (g : SMI H a sm) : SMs H (vs ++ [.ref a]) (sms ++ [sm]) := by
  obtain ⟨zs, rfl, rfl, h3⟩ := h
  refine ⟨zs ++ [(a, sm)], by rw [List.map_append]; rfl, by rw [List.map_append]; rfl, fun z hz => ?_⟩
  rcases List.mem_append.mp hz with hz | hz
  · exact h3 z hz
  · rw [List.mem_singleton.mp hz]; exact g
def LD.wt (ws : List Int) : LD → Int
  | .form i => ws.getD i 0
  | _ => 1
def SM.wt (ws : List Int) (sm : SM) : Int := if sm.choice = true then 1 + minI (sm.fields.map (·.kind.wt ws)) else 1 + ((sm.fields.filter (·.must)).map (·.kind.wt ws)).sum
def LD.there (n : Nat) : LD → Prop
  | .form i => i < n
  | _ => True
theorem good_there {k : LD} {a n : Nat} (h : k.Good a) (hn : a ≤ n) : k.there n := by
  cases k with
  | form i => exact Nat.lt_of_lt_of_le (show i < a from h) hn
  | _ => trivial
theorem ok_load (T : Txt K mg) : Gf P w K mg base 1 "_law_load" [] (fun vs H Q _ => ∃ (v : V) (wl : Addr) (k : LD) (ws : List Int), vs = [v, .ref wl] ∧ LKI H v k ∧ H wl = some (.lst (ws.map V.int)) ∧ k.there ws.length ∧ Q (.int (k.wt ws)) H) := by
  refine gf_mk T.f__law_load T.m__law_load (fun _ _ _ _ _ _ us hl => match us, hl with | [_, _], _ => rfl) fun fd F => fn_mk F sc__law_load (fun vs H Q E h => ?_) fun cd A outer s0 H vs Q E hr tk po h => ?_
  · obtain ⟨v, wl, k, ws, rfl, _⟩ := h; rfl
  · obtain ⟨v, wl, k, ws, rfl, hk, hw, hth, q⟩ := h
    have nd := sc__law_load.nd
    cases hk with
    | form h =>
      rename_i t i
      have hth : i < ws.length := hth
      have hx : ws[i]? = some (ws.getD i 0) := by rw [List.getD_eq_getElem?_getD, List.getElem?_eq_getElem hth]; rfl
      top_name
      refine ixL (SqL.of hw) (atI_nat (by rw [List.getElem?_map, hx]; rfl)) ?_
      exact q
    | truth h => top_name; exact q
    | count h => top_name; exact q
    | whole h => top_name; exact q
    | upto h => top_name; exact q
    | text h => top_name; exact q
    | list h _ => top_name; exact q
def spLW : Sp := fun vs H Q _ => ∃ (a wl : Addr) (sm : SM) (ws : List Int), vs = [.ref a, .ref wl] ∧ SMI H a sm ∧ H wl = some (.lst (ws.map V.int)) ∧ sm.fields.length ≤ 1000 ∧ (∀ sf ∈ sm.fields, sf.kind.there ws.length) ∧ (sm.choice = true → 0 < sm.fields.length) ∧ ∀ H', Ex H H' → Q (.int (sm.wt ws)) H'
theorem ok_lweight (T : Txt K mg) : Gf P w K mg base 2 "_law_weight" [] spLW := by
  refine gf_mk T.f__law_weight T.m__law_weight (fun _ _ _ _ _ _ us hl => match us, hl with | [_, _], _ => rfl) fun fd F => fn_mk F sc__law_weight (fun vs H Q E h => ?_) fun cd A outer s0 H vs Q E hr tk po h => ?_
  · obtain ⟨a, wl, sm, ws, rfl, _⟩ := h; rfl
  · obtain ⟨a, wl, sm, wts, rfl, ⟨g, l, us, hx, hg, hl, hF⟩, hw, hz, hth, hch, q⟩ := h
    have nd := sc__law_weight.nd
    have hu1 := Nat.lt_of_le_of_lt (Nat.add_le_add_left (show 1 ≤ 64 by decide) _) hr.units
    have n1 := T.n_min
    have n2 := T.n_sum
    have hlen := hF.len
    refine bcons (sif (tcut sm.choice ?_ ?_))
    · top_name
      exact ⟨rfl, rfl⟩
    unfold SM.wt at q
    cases hc : sm.choice with
    | true =>
      rw [hc] at q hx
      rw [if_pos rfl] at q
      top_name
      refine zlc rfl nd [("_law_field_here", 2)] (blkOk_by (N := N__law_weight) (sc := defScope s__law_weight) (by decide +kernel)) piL (tmL (xs := us) (fun j => ((sm.fields.take j).map (·.kind.wt wts)).map V.int) rfl ?_)
      top_name
      refine ⟨SqL.of hl, fun j x H2 hx2 e2 => ?_, fun M H2 hM e2 hxM => ?_⟩
      · obtain ⟨b, sf, rfl, hj, hsf⟩ := hF.get hx2
        have hjl := (List.getElem?_eq_some_iff.mp hj).1
        obtain ⟨kv, dv, h1, h2, h3⟩ := hsf.ex e2
        top_name
        refine zcall (ok_load T) hr (by decide) takesF rfl ?_
        top_name
        refine ⟨kv, wl, sf.kind, wts, rfl, h2, e2 _ _ hw, hth sf (List.mem_of_getElem? hj), ?_⟩
        exact ⟨mapI_succ hj, by show (List.map _ _).length < _; rw [List.length_map, List.length_map, List.length_take, sizeLine_eq]; omega, Evl.Ex.refl _⟩
      · rw [hlen, List.take_length] at hxM
        top_name
        refine kminL rfl (SqL.of hxM) (by rw [List.length_map]; exact hch hc) fun m hm1 hm2 => ?_
        top_name
        rw [minI_eq hm1 hm2] at q
        exact q _ e2
    | false =>
      rw [hc] at q hx
      rw [if_neg Bool.false_ne_true] at q
      top_name
      refine zlc rfl nd [("_law_field_here", 2)] (blkOk_by (N := N__law_weight) (sc := defScope s__law_weight) (by decide +kernel)) piL (tmL (xs := us) (fun j => (((sm.fields.take j).filter (·.must)).map (·.kind.wt wts)).map V.int) rfl ?_)
      top_name
      refine ⟨SqL.of hl, fun j x H2 hx2 e2 => ?_, fun M H2 hM e2 hxM => ?_⟩
      · obtain ⟨b, sf, rfl, hj, hsf⟩ := hF.get hx2
        have hjl := (List.getElem?_eq_some_iff.mp hj).1
        obtain ⟨kv, dv, h1, h2, h3⟩ := hsf.ex e2
        cases hmu : sf.must with
        | true =>
          rw [hmu] at h1
          top_name
          refine zcall (ok_load T) hr (by decide) takesF rfl ?_
          top_name
          refine ⟨kv, wl, sf.kind, wts, rfl, h2, e2 _ _ hw, hth sf (List.mem_of_getElem? hj), ?_⟩
          refine ⟨filtI_succ (p := fun sf : SF => sf.must) hj hmu, ?_, Evl.Ex.refl _⟩
          have := List.length_filter_le (·.must) (sm.fields.take j)
          rw [List.length_take] at this
          show (List.map _ _).length < _
          rw [List.length_map, List.length_map, sizeLine_eq]
          omega
        | false =>
          rw [hmu] at h1
          top_name
          exact ⟨filtI_no (p := fun sf : SF => sf.must) hj hmu, Evl.Ex.refl _⟩
      · rw [hlen, List.take_length] at hxM
        top_name
        refine ksum rfl (SqL.of hxM) ?_
        top_name
        exact q _ e2
end

set_option maxRecDepth 100000
set_option maxHeartbeats 8000000
set_option pp.maxSteps 400
section
open PySem PySem.Spec PyProof.Rows L2 Z
open Evl (Ex)
variable {P : Program} {w : World} {K : PySem.W.Frag} {mg : Str → Option Value} {base : Heap}
local macro_rules | `(tactic| nest_fact) => `(tactic| first | exact tup0 | exact tup1 | exact rfl)
local macro_rules | `(tactic| leaf_len) => `(tactic| first | refine ⟨_, _, rfl, sf_number (by one_item), ?_⟩ | refine ⟨_, _, rfl, sf_name (by one_item), ?_⟩ | refine ⟨_, _, rfl, sf_kind (by one_item), ?_⟩ | refine ⟨_, _, rfl, sf_must (by one_item), ?_⟩ | refine ⟨_, _, rfl, sf_default (by one_item), ?_⟩ | refine ⟨_, _, rfl, sm_name (by one_item), ?_⟩ | refine ⟨_, _, rfl, sm_choice (by one_item), ?_⟩ | refine ⟨_, _, rfl, sm_gone (by one_item), ?_⟩ | refine ⟨_, _, rfl, sm_fields (by one_item), ?_⟩ | fail)
local macro_rules | `(tactic| tb_rel) => `(tactic| first
  | ((with_reducible refine (?_ : wE _ (.Subscript _ (.Constant (.str _) _ _) _) _ _ _)); refine zdat (by first | assumption | omega) ?_)
  | ((with_reducible refine (?_ : wS _ (.Assign [.Subscript _ (.Constant (.str _) _ _) _] _ _) _ _ _)); refine sdput (by first | assumption | omega) ?_)
  | ((with_reducible refine (?_ : wIx _ (.ref _) (.int _) _ _)); refine ixT (SqT.of (by one_item)) (by nest_fact) ?_)
  | ((with_reducible refine (?_ : ∃ a v, _ = V.ref a ∧ DGet _ a _ (some v) ∧ _)); leaf_len)
  | fail)
/-! ### the law's spec -/
def wtsL (sms : List SM) : List Int := sms.foldl (fun ws sm => ws ++ [sm.wt ws]) []
theorem wtsL_app (sms : List SM) (sm : SM) : wtsL (sms ++ [sm]) = wtsL sms ++ [sm.wt (wtsL sms)] := by
  unfold wtsL
  rw [List.foldl_append]
  rfl
theorem wtsL_len (sms : List SM) : (wtsL sms).length = sms.length := by
  have : ∀ ws : List Int, (sms.foldl (fun ws sm => ws ++ [sm.wt ws]) ws).length = ws.length + sms.length := by
    induction sms with
    | nil => intro ws; rfl
    | cons sm sms ih => intro ws; rw [List.foldl_cons, ih]; simp; omega
  unfold wtsL
  rw [this]
  simp
structure SmOk (ahead : Nat) (ws : List Int) (sm : SM) : Prop where
  nf : sm.fields.length ≤ 10
  ng : sm.gone.length ≤ 10
  ch : sm.choice = true → 0 < sm.fields.length
  fd : ∀ sf ∈ sm.fields, SfOk ahead ws sm.choice sf ∧ nameB sf.name = true ∧ sf.name.length ≤ 11
  fnd : (sm.fields.map (·.name)).Nodup
  mks : ∀ n ∈ sm.fields.map (·.mark) ++ sm.gone, 1 ≤ n ∧ n ≤ 200
  mnd : (sm.fields.map (·.mark) ++ sm.gone).Nodup
  so : sm.fields.Pairwise fun x y => x.mark ≤ y.mark
  sg : sm.gone.Pairwise (· ≤ ·)
structure SpecOk (sms : List SM) : Prop where
  lo : 1 ≤ sms.length
  hi : sms.length ≤ 6
  nms : Nms (sms.map (·.name)) sms.length
  each : ∀ i sm, sms[i]? = some sm → SmOk i (wtsL (sms.take i)) sm
  last : ∀ sm, sms.getLast? = some sm → sm.choice = false
theorem accM_at {f : Nat → Int} {n j : Nat} (h : j < n) : (accM f n)[j]? = some (.int (f j)) := by
  unfold accM
  rw [List.getElem?_map, List.getElem?_map, List.getElem?_range h]
  rfl
theorem cutV_drop {xs : List Int} {k : Nat} (h : k ≤ xs.length) : cutV (xs.map V.int) (some (k : Int)) none = (xs.drop k).map V.int := by
  unfold cutV
  rw [sIx_at _ _ (by omega) (by rw [List.length_map]; omega)]
  show ((xs.map V.int).drop ((k : Int)).toNat).take ((xs.map V.int).length - ((k : Int)).toNat) = _
  rw [Int.toNat_natCast, List.take_of_length_le (by rw [List.length_drop]; exact Nat.le_refl _), List.map_drop]
/-- numbers that differ, 1 to 200 -/
structure Mks (f : Nat → Int) : Prop where
  b : ∀ j, j < 12 → 1 ≤ f j ∧ f j ≤ 200
  inj : ∀ i j, i < 12 → j < 12 → f i = f j → i = j
theorem mks1 (c : Int) : Mks fun j => 1 + (c / 7 + 37 * (j : Int)) % 200 := ⟨fun j _ => by show 1 ≤ 1 + (c / 7 + 37 * (j : Int)) % 200 ∧ 1 + (c / 7 + 37 * (j : Int)) % 200 ≤ 200; omega, fun i j hi hj e => by
  have e : 1 + (c / 7 + 37 * (i : Int)) % 200 = 1 + (c / 7 + 37 * (j : Int)) % 200 := e
  omega⟩
theorem mks2 (c : Int) : Mks fun j => 1 + c % 3 + (j : Int) := ⟨fun j h => by show 1 ≤ 1 + c % 3 + (j : Int) ∧ 1 + c % 3 + (j : Int) ≤ 200; omega, fun i j hi hj e => by
  have e : 1 + c % 3 + (i : Int) = 1 + c % 3 + (j : Int) := e
  omega⟩
/-- pairs of a mark and a place, as tuples -/
def PrA (f : Nat → Int) (j : Nat) (ws : List V) (H : Hp) : Prop := ws.length = j ∧ ∀ i x, ws[i]? = some x → ∃ t, x = .ref t ∧ H t = some (.tup [.int (f i), .int (i : Nat)])
theorem PrA.ex {f : Nat → Int} {j : Nat} {ws : List V} {H H' : Hp} (h : PrA f j ws H) (e : Ex H H') : PrA f j ws H' := ⟨h.1, fun i x hx => by obtain ⟨t, h1, h2⟩ := h.2 i x hx; exact ⟨t, h1, e _ _ h2⟩⟩
def kOf (H : Hp) : V → Int × Int
  | .ref t => match H t with
    | some (.tup [.int i, .int j]) => (i, j)
    | _ => (0, 0)
  | _ => (0, 0)
theorem kOf_at {H : Hp} {t : Addr} {i j : Int} (h : H t = some (.tup [.int i, .int j])) : kOf H (.ref t) = (i, j) := by
  show (match H t with
    | some (.tup [.int i, .int j]) => (i, j)
    | _ => (0, 0)) = (i, j)
  rw [h]
theorem PrA.keys {f : Nat → Int} {j : Nat} {ws : List V} {H : Hp} (h : PrA f j ws H) : ws.map (kOf H) = (List.range j).map fun i => (f i, (i : Int)) := by
  refine List.ext_getElem? fun i => ?_
  rw [List.getElem?_map, List.getElem?_map]
  by_cases hi : i < j
  · have hi' : i < ws.length := by rw [h.1]; exact hi
    rw [List.getElem?_range hi]
    obtain ⟨t, h1, h2⟩ := h.2 i _ (List.getElem?_eq_getElem hi')
    rw [List.getElem?_eq_getElem hi', h1]
    show some (kOf H (.ref t)) = _
    rw [kOf_at h2]
    rfl
  · rw [List.getElem?_eq_none (by rw [h.1]; omega), List.getElem?_eq_none (by rw [List.length_range]; omega)]
    rfl
/-- sorted pairs tell the fields by rising marks -/
theorem sorted_fields {f : Nat → Int} {sfs : List SF} {ps : List (Int × Int)} (hp : ps.Perm ((List.range sfs.length).map fun i => (f i, (i : Int)))) (hs : ps.Pairwise fun x y => x.1 ≤ y.1) (hm : ∀ i sf, sfs[i]? = some sf → sf.mark = f i) (d : SF) :
    (ps.map fun p => sfs.getD p.2.toNat d).Perm sfs ∧ (ps.map fun p => sfs.getD p.2.toNat d).Pairwise (fun x y => x.mark ≤ y.mark) := by
  have mem : ∀ p ∈ ps, ∃ i, i < sfs.length ∧ p = (f i, (i : Int)) := fun p hpm => by
    obtain ⟨i, hi, e⟩ := List.mem_map.mp (hp.mem_iff.mp hpm)
    exact ⟨i, List.mem_range.mp hi, e.symm⟩
  have at_ : ∀ i, i < sfs.length → sfs.getD i d = sfs.getD i d ∧ (sfs.getD i d).mark = f i := fun i hi => by
    refine ⟨rfl, hm i _ ?_⟩
    rw [List.getD_eq_getElem?_getD, List.getElem?_eq_getElem hi]
    rfl
  refine ⟨(hp.map fun p => sfs.getD p.2.toNat d).trans ?_, ?_⟩
  · rw [List.map_map]
    have : (List.range sfs.length).map ((fun p : Int × Int => sfs.getD p.2.toNat d) ∘ fun i => (f i, (i : Int))) = sfs := by
      refine List.ext_getElem (by simp) fun i h1 h2 => ?_
      rw [List.getElem_map, List.getElem_range]
      show sfs.getD ((i : Int)).toNat d = _
      rw [Int.toNat_natCast, List.getD_eq_getElem?_getD, List.getElem?_eq_getElem h2]
      rfl
    rw [this]
  · rw [List.pairwise_map]
    refine hs.imp_of_mem fun {x y} hx hy hxy => ?_
    obtain ⟨i, hi, rfl⟩ := mem x hx
    obtain ⟨j, hj, rfl⟩ := mem y hy
    show (sfs.getD ((i : Int)).toNat d).mark ≤ (sfs.getD ((j : Int)).toNat d).mark
    rw [Int.toNat_natCast, Int.toNat_natCast, (at_ i hi).2, (at_ j hj).2]
    exact hxy
theorem tmLe {X : Cx} {σ : Z.St} {H : Hp} {elt tg l : Expr} {ifs : List Expr} {scope : Scope} {Q : VK} {vs : List Nat}
    (h : wE X l σ H fun x H1 => ∃ (r : Addr) (xs : List V), x = .ref r ∧ (SqL X.K H1 r xs ∧ True) ∧ ∃ acc : Nat → List V, acc 0 = [] ∧ (∀ j x H', xs[j]? = some x → Ex H1 H' → turnA X scope tg ifs elt vs acc j x σ H') ∧ ∀ L H', H1 L = none → Ex H1 H' → H' L = some (.lst (acc xs.length)) → Q (.ref L) H') :
    tLc (iList X.K (wE X l)) (bG X scope tg) (bTs X scope ifs) (bE X scope elt) vs σ H Q :=
  ⟨fun pins s I => thn (h.run pins s I) fun u s1 ⟨x, H1, I1, r, p, xs, ex, ⟨hq, _⟩, acc, h0, q2, q3⟩ => ⟨x, H1, I1, r, p, ex, ⟨xs, hq⟩, fun L hL =>
    lc_list (fun j H' => Ex H1 H' ∧ H' L = some (.lst (acc j))) ⟨Ex.new hL, by rw [h0]; exact upd_same⟩ (fun i H' _ z => Evl.ex_l z.1 hq) (fun i x H' hx hP => turn_of hL hP.1 hP.2 (q2 i x H' hx hP.1)) fun H' z => q3 L H' hL z.1 z.2⟩⟩
def sf0 : SF := ⟨0, "", .truth, false, .none⟩
theorem SFs.cons {H : Hp} {vs : List V} {sfs : List SF} {a : Addr} {sf : SF} (g : SFI H a sf) (h : SFs H vs sfs) : SFs H (.ref a :: vs) (sf :: sfs) := by
  obtain ⟨zs, rfl, rfl, h3⟩ := h
  refine ⟨(a, sf) :: zs, rfl, rfl, fun z hz => ?_⟩
  rcases List.mem_cons.mp hz with rfl | hz
  · exact g
  · exact h3 z hz
theorem SFs.pick {H : Hp} {vs : List V} {sfs : List SF} (h : SFs H vs sfs) : ∀ {ks : List Nat}, (∀ k ∈ ks, k < sfs.length) → SFs H (ks.map fun k => vs.getD k .non) (ks.map fun k => sfs.getD k sf0)
  | [], _ => SFs.nil
  | k :: ks, hk => by
    have hl := h.len
    have hkl := hk k List.mem_cons_self
    obtain ⟨a, sf, h1, h2, h3⟩ := h.get (List.getElem?_eq_getElem (show k < vs.length by omega))
    rw [List.map_cons, List.map_cons]
    have e1 : vs.getD k .non = .ref a := by rw [List.getD_eq_getElem?_getD, List.getElem?_eq_getElem (show k < vs.length by omega), h1]; rfl
    have e2 : sfs.getD k sf0 = sf := by rw [List.getD_eq_getElem?_getD, h2]; rfl
    rw [e1, e2]
    exact .cons h3 (h.pick fun j hj => hk j (List.mem_cons_of_mem _ hj))
theorem sm_ok {i cnt tot : Nat} {wts : List Int} {c : Bool} {f : Nat → Int} {zs : List Str} {sfs : List SF} {ps : List (Int × Int)} {gs : List Int} {y : Str} (hc : c = true → 0 < cnt) (h10 : cnt ≤ 10) (t0 : cnt ≤ tot) (t1 : tot ≤ cnt + 2) (hf : Mks f) (hz : Nms zs (max 1 cnt)) (hl : sfs.length = cnt)
    (hp : ∀ j sf, sfs[j]? = some sf → sf.mark = f j ∧ zs[j]? = some sf.name ∧ SfOk i wts c sf) (hps : ps.Perm ((List.range cnt).map fun i => (f i, (i : Int)))) (hso : ps.Pairwise fun x y => x.1 ≤ y.1) (hg : gs.Perm (((List.range tot).map f).drop cnt)) (hgs : gs.Pairwise (· ≤ ·)) :
    SmOk i wts ⟨y, c, gs, ps.map fun p => sfs.getD p.2.toNat sf0⟩ := by
  subst hl
  obtain ⟨pf, so⟩ := sorted_fields hps hso (fun j sf h => (hp j sf h).1) sf0
  generalize ps.map (fun p => sfs.getD p.2.toNat sf0) = fs at pf so
  have hmarks : sfs.map (·.mark) = ((List.range tot).map f).take sfs.length := by
    refine List.ext_getElem? fun j => ?_
    rw [List.getElem?_map]
    by_cases hj : j < sfs.length
    · rw [List.getElem?_take_of_lt hj, List.getElem?_map, List.getElem?_range (by omega), List.getElem?_eq_getElem hj]
      show some (sfs[j].mark) = some (f j)
      rw [(hp j _ (List.getElem?_eq_getElem hj)).1]
    · rw [List.getElem?_eq_none (by omega), List.getElem?_eq_none (by rw [List.length_take]; omega)]
      rfl
  have hnames : sfs.map (·.name) = zs.take sfs.length := by
    refine List.ext_getElem? fun j => ?_
    rw [List.getElem?_map]
    by_cases hj : j < sfs.length
    · rw [List.getElem?_take_of_lt hj, (hp j _ (List.getElem?_eq_getElem hj)).2.1, List.getElem?_eq_getElem hj]
      rfl
    · rw [List.getElem?_eq_none (by omega), List.getElem?_eq_none (by rw [List.length_take]; omega)]
      rfl
  have mem : ∀ sf ∈ fs, ∃ j, sfs[j]? = some sf := fun sf h => by
    obtain ⟨j, hj, e⟩ := List.mem_iff_getElem.mp (pf.mem_iff.mp h)
    exact ⟨j, by rw [List.getElem?_eq_getElem hj, e]⟩
  have hall : (fs.map (·.mark) ++ gs).Perm ((List.range tot).map f) := by
    refine ((pf.map _).append hg).trans ?_
    show (sfs.map (·.mark) ++ _).Perm _
    rw [hmarks, List.take_append_drop]
  have hfl := pf.length_eq
  refine ⟨by show fs.length ≤ 10; omega, ?_, fun z => by show 0 < fs.length; have := hc z; omega, fun sf h => ?_, ?_, fun n hn => ?_, ?_, so, hgs⟩
  · show gs.length ≤ 10
    rw [hg.length_eq, List.length_drop, List.length_map, List.length_range]
    omega
  · obtain ⟨j, hj⟩ := mem sf h
    obtain ⟨_, h2, h3⟩ := hp j sf hj
    have := hz.nm _ (List.mem_of_getElem? h2)
    exact ⟨h3, this.1, this.2⟩
  · show (fs.map (·.name)).Nodup
    have e := (pf.map (·.name)).nodup_iff
    rw [e, hnames]
    exact List.Sublist.nodup (List.take_sublist _ _) hz.nd
  · obtain ⟨j, hj, rfl⟩ := List.mem_map.mp (hall.mem_iff.mp hn)
    exact hf.b j (by have := List.mem_range.mp hj; omega)
  · show (fs.map (·.mark) ++ gs).Nodup
    rw [hall.nodup_iff]
    unfold List.Nodup
    rw [List.pairwise_map]
    refine List.Pairwise.imp_of_mem (fun {a b} ha hb hab => ?_) List.nodup_range
    intro z
    have := List.mem_range.mp ha
    have := List.mem_range.mp hb
    exact hab (hf.inj a b (by omega) (by omega) z)
end

set_option maxRecDepth 100000
set_option maxHeartbeats 8000000
set_option pp.maxSteps 400
section
open PySem PySem.Spec PyProof.Rows L2 Z
open Evl (Ex)
variable {P : Program} {w : World} {K : PySem.W.Frag} {mg : Str → Option Value} {base : Heap}
local macro_rules | `(tactic| nest_fact) => `(tactic| first | exact tup0 | exact tup1 | exact rfl)
local macro_rules | `(tactic| leaf_len) => `(tactic| first | refine ⟨_, _, rfl, sf_number (by one_item), ?_⟩ | refine ⟨_, _, rfl, sf_name (by one_item), ?_⟩ | refine ⟨_, _, rfl, sf_kind (by one_item), ?_⟩ | refine ⟨_, _, rfl, sf_must (by one_item), ?_⟩ | refine ⟨_, _, rfl, sf_default (by one_item), ?_⟩ | refine ⟨_, _, rfl, sm_name (by one_item), ?_⟩ | refine ⟨_, _, rfl, sm_choice (by one_item), ?_⟩ | refine ⟨_, _, rfl, sm_gone (by one_item), ?_⟩ | refine ⟨_, _, rfl, sm_fields (by one_item), ?_⟩ | fail)
local macro_rules | `(tactic| tb_rel) => `(tactic| first
  | ((with_reducible refine (?_ : wE _ (.Subscript _ (.Constant (.str _) _ _) _) _ _ _)); refine zdat (by first | assumption | omega) ?_)
  | ((with_reducible refine (?_ : wS _ (.Assign [.Subscript _ (.Constant (.str _) _ _) _] _ _) _ _ _)); refine sdput (by first | assumption | omega) ?_)
  | ((with_reducible refine (?_ : wIx _ (.ref _) (.int _) _ _)); refine ixT (SqT.of (by one_item)) (by nest_fact) ?_)
  | ((with_reducible refine (?_ : ∃ a v, _ = V.ref a ∧ DGet _ a _ (some v) ∧ _)); leaf_len)
  | fail)
def spSp (K : PySem.W.Frag) : Sp := fun vs H Q _ => ∃ (a : Addr) (ns : List Int), vs = [.ref a, .int 0, .int 6] ∧ SqL K H a (ns.map V.int) ∧ ∀ s H' us sms, Ex H H' → H s = none → H' s = some (.lst us) → SMs (L2.del H' s) us sms → SpecOk sms → Q (.ref s) H'
theorem ok_spec (T : Txt K mg) : Gf P w K mg base 4 "_law_spec" [] (spSp K) := by
  refine gf_mk T.f__law_spec T.m__law_spec (fun _ _ _ _ _ _ us hl => match us, hl with | [_, _, _], _ => rfl) fun fd F => fn_mk F sc__law_spec (fun vs H Q E h => ?_) fun cd A outer s0 H vs Q E hr tk po h => ?_
  · obtain ⟨a, ns, rfl, _⟩ := h; rfl
  · obtain ⟨a, ns, rfl, hs, q⟩ := h
    have nd := sc__law_spec.nd
    have hu1 := Nat.lt_of_le_of_lt (Nat.add_le_add_left (show 1 ≤ 64 by decide) _) hr.units
    have n1 := T.n_range
    have n2 := T.n_len
    have n3 := T.n_max
    have n4 := T.n_int
    have n5 := T.n_sorted
    refine bcut (fun σ' H' => H = H' ∧ ∃ many : Nat, 1 ≤ many ∧ many ≤ 6 ∧ σ' = [some (.ref a), some (.int 0), some (.int 6), some (.int (many : Nat)), none, none, none, none, none, none, none, none, none, none, none, none, none, none]) ?_ ?_
    · top_name
      refine zcall (ok_number T) hr (by decide) takesF rfl ?_
      top_name
      refine ⟨a, ns, _, rfl, hs, by decide, by decide, fun c c0 c1 => ?_⟩
      top_name
      obtain ⟨m, hm⟩ : ∃ m : Nat, 1 + c % 6 = (m : Int) := ⟨(1 + c % 6).toNat, by omega⟩
      rw [hm]
      exact ⟨rfl, m, by omega, by omega, rfl⟩
    rintro _ _ ⟨rfl, many, m1, m6, rfl⟩
    refine bcut (fun σ' H' => Ex H H' ∧ ∃ N ys, Nms ys many ∧ H' N = some (.lst (ys.map V.str)) ∧ σ' = [some (.ref a), some (.int 0), some (.int 6), some (.int (many : Nat)), some (.ref N), none, none, none, none, none, none, none, none, none, none, none, none, none]) ?_ ?_
    · top_name
      refine zcall (ok_names T) hr (by decide) takesF rfl ?_
      top_name
      refine zcall (ok_number T) hr (by decide) takesF rfl ?_
      top_name
      refine ⟨a, ns, _, rfl, hs, by decide, by decide, fun c c0 c1 => ?_⟩
      top_name
      exact ⟨c, many, rfl, c0, by omega, by omega, fun ys t H1 hy ht e1 hx1 => ⟨e1, t, ys, hy, hx1, rfl⟩⟩
    rintro _ H1 ⟨e1, N, ys, hys, hN, rfl⟩
    refine bcut (fun σ' H' => Ex H1 H' ∧ ∃ S, H1 S = none ∧ H' S = some (.lst []) ∧ σ' = [some (.ref a), some (.int 0), some (.int 6), some (.int (many : Nat)), some (.ref N), some (.ref S), none, none, none, none, none, none, none, none, none, none, none, none]) ?_ ?_
    · top_name
      rename_i S H2 hS e2 hx2
      exact ⟨e2, S, hS, hx2, rfl⟩
    rintro _ H2 ⟨e2, S, hS0, hS2, rfl⟩
    refine bcut (fun σ' H' => Ex H2 H' ∧ ∃ W, H2 W = none ∧ H' W = some (.lst []) ∧ σ' = [some (.ref a), some (.int 0), some (.int 6), some (.int (many : Nat)), some (.ref N), some (.ref S), some (.ref W), none, none, none, none, none, none, none, none, none, none, none]) ?_ ?_
    · top_name
      rename_i W H3 hW e3 hx3
      exact ⟨e3, W, hW, hx3, rfl⟩
    rintro _ H3 ⟨e3, W, hW0, hW3, rfl⟩
    have nSW : S ≠ W := fun z => by rw [← z, hS2] at hW0; cases hW0
    have hS3 := e3 _ _ hS2
    have hSH : H S = none := Evl.fresh_back e1 hS0
    have hWH : H W = none := Evl.fresh_back (e1.trans e2) hW0
    have hW1 : H1 W = none := Evl.fresh_back e2 hW0
    refine bcut (fun σ' H' => (Ex H1 H' ∧ ∃ us sms, H' S = some (.lst us) ∧ H' W = some (.lst ((wtsL sms).map V.int)) ∧ SMs (cutA [S, W] H') us sms ∧ SpecOk sms) ∧ ∃ r7 r8 r9 r10 r11 r12 r13 r14 r15 r16 r17, σ' = [some (.ref a), some (.int 0), some (.int 6), some (.int (many : Nat)), some (.ref N), some (.ref S), some (.ref W), r7, r8, r9, r10, r11, r12, r13, r14, r15, r16, r17]) ?_ ?_
    · refine lfor1 (n := (many : Nat)) n1 po rfl (fun i σ' H' => (Ex H1 H' ∧ ∃ us sms, H' S = some (.lst us) ∧ H' W = some (.lst ((wtsL sms).map V.int)) ∧ SMs (cutA [S, W] H') us sms ∧ sms.length = i ∧ sms.map (·.name) = ys.take i ∧ (∀ j sm, sms[j]? = some sm → SmOk j (wtsL (sms.take j)) sm) ∧ (∀ sm, sms.getLast? = some sm → i = many → sm.choice = false)) ∧ ∃ r7 r8 r9 r10 r11 r12 r13 r14 r15 r16 r17, σ' = [some (.ref a), some (.int 0), some (.int 6), some (.int (many : Nat)), some (.ref N), some (.ref S), some (.ref W), r7, r8, r9, r10, r11, r12, r13, r14, r15, r16, r17]) rfl ?_
      top_name
      refine ⟨rfl, by omega, by omega, ⟨⟨e2.trans e3, [], [], hS3, hW3, SMs.nil, rfl, rfl, fun j sm h => (by simp at h), fun sm h => (by cases h)⟩, none, none, none, none, none, none, none, none, none, none, none, rfl⟩, fun i σ' H4 hi hv => ?_, fun σ' H' hv => ?_⟩
      · obtain ⟨⟨e4, us, sms, hS4, hW4, hsm, hsl, hnm, hok, _⟩, r7, r8, r9, r10, r11, r12, r13, r14, r15, r16, r17, rfl⟩ := hv
        have hi : i < many := by omega
        have hs4 := Evl.ex_l (e1.trans e4) hs
        have hN4 := e4 _ _ hN
        tb_rel
        refine bcut (fun σ' H' => H4 = H' ∧ ∃ one : Int, 0 ≤ one ∧ one < 2147483629 ∧ σ' = [some (.ref a), some (.int 0), some (.int 6), some (.int (many : Nat)), some (.ref N), some (.ref S), some (.ref W), some (.int (i : Nat)), some (.int one), r9, r10, r11, r12, r13, r14, r15, r16, r17]) ?_ ?_
        · top_name
          refine zcall (ok_number T) hr (by decide) takesF rfl ?_
          top_name
          refine ⟨a, ns, _, rfl, hs4, by omega, by omega, fun c c0 c1 => ?_⟩
          exact ⟨rfl, c, c0, c1, rfl⟩
        rintro _ _ ⟨rfl, one, o0, o1, rfl⟩
        refine bcut (fun σ' H' => H4 = H' ∧ ∃ c : Bool, (c = true → i + 1 < many) ∧ σ' = [some (.ref a), some (.int 0), some (.int 6), some (.int (many : Nat)), some (.ref N), some (.ref S), some (.ref W), some (.int (i : Nat)), some (.int one), some (.bl c), r10, r11, r12, r13, r14, r15, r16, r17]) ?_ ?_
        · top_name
          · rename_i hlt
            exact ⟨rfl, _, fun _ => by omega, rfl⟩
          · exact ⟨rfl, false, fun z => (by cases z), rfl⟩
        rintro _ _ ⟨rfl, c, hc, rfl⟩
        refine bcut (fun σ' H' => Ex H4 H' ∧ ∃ cn : Int, 0 ≤ cn ∧ cn ≤ 10 ∧ σ' = [some (.ref a), some (.int 0), some (.int 6), some (.int (many : Nat)), some (.ref N), some (.ref S), some (.ref W), some (.int (i : Nat)), some (.int one), some (.bl c), some (.int cn), r11, r12, r13, r14, r15, r16, r17]) ?_ ?_
        · top_name
          rename_i p H5 hp e5 hx5
          obtain ⟨v, hv, hiv⟩ := atN (ns := [1 + one / 4 % 4, one / 4 % 4, 1 + one / 4 % 10]) (k := one / 64 % 3) (Int.emod_nonneg _ (by decide)) (Int.emod_lt_of_pos _ (by decide))
          refine ixL (SqL.of hx5) hiv ?_
          simp only [List.mem_cons, List.not_mem_nil, or_false] at hv
          exact ⟨e5, v, by rcases hv with rfl | rfl | rfl <;> omega, by rcases hv with rfl | rfl | rfl <;> omega, rfl⟩
        rintro _ H5 ⟨e5, cn, cn0, cn1, rfl⟩
        refine bcut (fun σ' H' => H5 = H' ∧ ∃ cnt : Nat, cnt ≤ 10 ∧ (c = true → 0 < cnt) ∧ σ' = [some (.ref a), some (.int 0), some (.int 6), some (.int (many : Nat)), some (.ref N), some (.ref S), some (.ref W), some (.int (i : Nat)), some (.int one), some (.bl c), some (.int (cnt : Nat)), r11, r12, r13, r14, r15, r16, r17]) ?_ ?_
        · top_name
          refine kintB ?_
          top_name
          obtain ⟨m, hm⟩ : ∃ m : Nat, max cn (if c = true then 1 else 0) = (m : Int) := ⟨(max cn (if c = true then 1 else 0)).toNat, by split <;> omega⟩
          rw [hm]
          refine ⟨rfl, m, by split at hm <;> omega, fun z => by rw [if_pos z] at hm; omega, rfl⟩
        rintro _ _ ⟨rfl, cnt, cnt10, hcnt, rfl⟩
        refine bcut (fun σ' H' => Ex H5 H' ∧ ∃ (M : Addr) (tot : Nat) (f : Nat → Int), cnt ≤ tot ∧ tot ≤ cnt + 2 ∧ Mks f ∧ H' M = some (.lst (accM f tot)) ∧ σ' = [some (.ref a), some (.int 0), some (.int 6), some (.int (many : Nat)), some (.ref N), some (.ref S), some (.ref W), some (.int (i : Nat)), some (.int one), some (.bl c), some (.int (cnt : Nat)), some (.ref M), r12, r13, r14, r15, r16, r17]) ?_ ?_
        · top_name
          refine zlc rfl nd [("_law_j", 14)] (blkOk_by (N := N__law_spec) (sc := defScope s__law_spec) (by decide +kernel)) (piR1 n1 rfl) (tmR1 (n := (cnt : Int) + one / 11 % 3) (accM fun j => 1 + (one / 7 + 37 * (j : Int)) % 200) rfl ?_)
          top_name
          refine ⟨rfl, by omega, by omega, fun j H6 hj e6 => ?_, fun L H6 hL e6 hw => ?_⟩
          · top_name
            exact ⟨accM_succ _ _, by rw [accM_len, sizeLine_eq]; omega, Evl.Ex.refl _⟩
          · exact ⟨e6, L, _, _, by omega, by omega, mks1 one, hw, rfl⟩
        rintro _ H6 ⟨e6, M0, tot, f0, t0, t1, hf0, hM0, rfl⟩
        refine bcut (fun σ' H' => Ex H5 H' ∧ ∃ (M : Addr) (f : Nat → Int), Mks f ∧ H' M = some (.lst (accM f tot)) ∧ σ' = [some (.ref a), some (.int 0), some (.int 6), some (.int (many : Nat)), some (.ref N), some (.ref S), some (.ref W), some (.int (i : Nat)), some (.int one), some (.bl c), some (.int (cnt : Nat)), some (.ref M), r12, r13, r14, r15, r16, r17]) ?_ ?_
        · top_name
          · refine zlc rfl nd [("_law_j", 14)] (blkOk_by (N := N__law_spec) (sc := defScope s__law_spec) (by decide +kernel)) (piR1 n1 rfl) (tmR1 (n := (tot : Int)) (accM fun j => 1 + one % 3 + (j : Int)) rfl ?_)
            top_name
            refine ⟨by rw [accM_len], by omega, by omega, fun j H7 hj e7 => ?_, fun L H7 hL e7 hw => ?_⟩
            · top_name
              exact ⟨accM_succ _ _, by rw [accM_len, sizeLine_eq]; omega, Evl.Ex.refl _⟩
            · (repeat refine bnil ?_)
              exact ⟨e6.trans e7, L, _, mks2 one, hw, rfl⟩
          · exact ⟨e6, M0, f0, hf0, hM0, rfl⟩
        rintro _ H7 ⟨e7, M, f, hf, hM, rfl⟩
        refine bcut (fun σ' H' => Ex H7 H' ∧ ∃ (Z : Addr) (zs : List Str), Nms zs (max 1 cnt) ∧ H' Z = some (.lst (zs.map V.str)) ∧ σ' = [some (.ref a), some (.int 0), some (.int 6), some (.int (many : Nat)), some (.ref N), some (.ref S), some (.ref W), some (.int (i : Nat)), some (.int one), some (.bl c), some (.int (cnt : Nat)), some (.ref M), some (.ref Z), r13, r14, r15, r16, r17]) ?_ ?_
        · top_name
          refine zcall (ok_names T) hr (by decide) takesF rfl ?_
          top_name
          refine zcall (ok_mixed T) hr (by decide) takesF rfl ?_
          top_name
          refine ⟨one, 1, rfl, by decide, by decide, fun z z0 z1 => ?_⟩
          top_name
          refine ⟨z, max 1 cnt, by rw [show max (1 : Int) ((cnt : Nat) : Int) = ((max 1 cnt : Nat) : Int) from by omega]; rfl, z0, by omega, by omega, fun ys' t H8 hy ht e8 hx8 => ?_⟩
          exact ⟨e8, t, ys', hy, hx8, rfl⟩
        rintro _ H8 ⟨e8, Z, zs, hzs, hZ, rfl⟩
        refine bcut (fun σ' H' => Ex H8 H' ∧ ∃ R, H8 R = none ∧ H' R = some (.lst []) ∧ σ' = [some (.ref a), some (.int 0), some (.int 6), some (.int (many : Nat)), some (.ref N), some (.ref S), some (.ref W), some (.int (i : Nat)), some (.int one), some (.bl c), some (.int (cnt : Nat)), some (.ref M), some (.ref Z), some (.ref R), r14, r15, r16, r17]) ?_ ?_
        · top_name
          rename_i R H9 hR e9 hx9
          exact ⟨e9, R, hR, hx9, rfl⟩
        rintro _ H9 ⟨e9, R, hR0, hR9, rfl⟩
        have e48 : Ex H4 H8 := (e5.trans e7).trans e8
        have hR4 : H4 R = none := Evl.fresh_back e48 hR0
        have hS8 := e48 _ _ hS4
        have hW8 := e48 _ _ hW4
        have nRS : R ≠ S := fun z => by rw [z, hS8] at hR0; cases hR0
        have nRW : R ≠ W := fun z => by rw [z, hW8] at hR0; cases hR0
        have hM8 := e8 _ _ hM
        refine bcut (fun σ' H' => (Ex H8 H' ∧ ∃ rws sfs, H' R = some (.lst rws) ∧ SFs (cutA [S, W, R] H') rws sfs ∧ sfs.length = cnt ∧ (∀ j sf, sfs[j]? = some sf → sf.mark = f j ∧ zs[j]? = some sf.name ∧ SfOk i (wtsL sms) c sf)) ∧ ∃ r14 r15, σ' = [some (.ref a), some (.int 0), some (.int 6), some (.int (many : Nat)), some (.ref N), some (.ref S), some (.ref W), some (.int (i : Nat)), some (.int one), some (.bl c), some (.int (cnt : Nat)), some (.ref M), some (.ref Z), some (.ref R), r14, r15, r16, r17]) ?_ ?_
        · refine lfor1 (n := (cnt : Nat)) n1 po rfl (fun jj σ' H' => (Ex H8 H' ∧ ∃ rws sfs, H' R = some (.lst rws) ∧ SFs (cutA [S, W, R] H') rws sfs ∧ sfs.length = jj ∧ (∀ j sf, sfs[j]? = some sf → sf.mark = f j ∧ zs[j]? = some sf.name ∧ SfOk i (wtsL sms) c sf)) ∧ ∃ r14 r15, σ' = [some (.ref a), some (.int 0), some (.int 6), some (.int (many : Nat)), some (.ref N), some (.ref S), some (.ref W), some (.int (i : Nat)), some (.int one), some (.bl c), some (.int (cnt : Nat)), some (.ref M), some (.ref Z), some (.ref R), r14, r15, r16, r17]) rfl ?_
          top_name
          refine ⟨rfl, by omega, by omega, ⟨⟨e9, [], [], hR9, SFs.nil, rfl, fun j sf h => (by simp at h)⟩, r14, r15, rfl⟩, fun j σ' H10 hj hv => ?_, fun σ' H' hv => ?_⟩
          · obtain ⟨⟨e10, rws, sfs, hR10, hF10, hFl, hFp⟩, r14, r15, rfl⟩ := hv
            have hj : j < cnt := by omega
            have hS10 := e10 _ _ hS8
            have hW10 := e10 _ _ hW8
            have hM10 := e10 _ _ hM8
            have hZ10 := e10 _ _ hZ
            have hzl := hzs.len
            obtain ⟨z, hz⟩ : ∃ z, zs[j]? = some z := ⟨_, List.getElem?_eq_getElem (by omega)⟩
            tb_rel
            refine bcut (fun σ' H' => Ex H10 H' ∧ ∃ fa sf, SFI (cutA [S, W, R] H') fa sf ∧ sf.mark = f j ∧ sf.name = z ∧ SfOk i (wtsL sms) c sf ∧ σ' = [some (.ref a), some (.int 0), some (.int 6), some (.int (many : Nat)), some (.ref N), some (.ref S), some (.ref W), some (.int (i : Nat)), some (.int one), some (.bl c), some (.int (cnt : Nat)), some (.ref M), some (.ref Z), some (.ref R), some (.int (j : Nat)), some (.ref fa), r16, r17]) ?_ ?_
            · top_name
              refine zcall (ok_field T) hr (by decide) takesF rfl ?_
              top_name
              refine zcall (ok_mixed T) hr (by decide) takesF rfl ?_
              top_name
              refine ⟨one, _, rfl, by omega, by omega, fun x x0 x1 => ?_⟩
              top_name
              refine ixL (SqL.of hM10) (atI_nat (accM_at (by omega))) ?_
              top_name
              refine ixL (SqL.of hZ10) (atI_nat (by rw [List.getElem?_map, hz]; rfl)) ?_
              top_name
              refine ⟨x, f j, z, i, W, wtsL sms, c, rfl, x0, by omega, by omega, hW10, by rw [wtsL_len, hsl], fun fa H11 sf e11 hfa hsf h1 h2 h3 => ?_⟩
              refine ⟨e11, fa, sf, hsf _ fun x hx => ?_, h1, h2, h3, rfl⟩
              simp only [List.mem_cons, List.not_mem_nil, or_false] at hx
              rcases hx with rfl | rfl | rfl
              · exact ⟨_, hS10⟩
              · exact ⟨_, hW10⟩
              · exact ⟨_, hR10⟩
            rintro _ H11 ⟨e11, fa, sf, hsf, h1, h2, h3, rfl⟩
            have hR11 := e11 _ _ hR10
            have mR : R ∈ [S, W, R] := List.mem_cons_of_mem _ (List.mem_cons_of_mem _ List.mem_cons_self)
            have hrl := hF10.len
            top_name
            refine zapp ?_
            top_name
            refine ⟨R, _, rfl, hR11, ?_⟩
            top_name
            refine ⟨_, hR11, by rw [hrl, hFl, sizeLine_eq]; omega, ?_⟩
            (repeat refine bnil ?_)
            refine ⟨⟨Ex.past (e10.trans e11) hR0, _, sfs ++ [sf], upd_same, ?_, by rw [List.length_append, hFl]; rfl, fun m sf' hm => ?_⟩, _, _, rfl⟩
            · rw [cutA_upd mR]
              exact (hF10.ex (cutA_ex (Gw.of e11))).one hsf
            · by_cases hmj : m < sfs.length
              · rw [List.getElem?_append_left hmj] at hm
                exact hFp m sf' hm
              · have hml := (List.getElem?_eq_some_iff.mp hm).1
                rw [List.length_append] at hml
                have hmj2 : m = sfs.length := by have hml : m < sfs.length + 1 := hml; omega
                subst hmj2
                rw [List.getElem?_append_right (Nat.le_refl _), Nat.sub_self] at hm
                obtain rfl : sf = sf' := Option.some.inj hm
                rw [hFl]
                exact ⟨h1, by rw [hz, h2], h3⟩
          · obtain ⟨hv, r14, r15, rfl⟩ := hv
            exact ⟨hv, r14, r15, rfl⟩
        rintro _ H10 ⟨⟨e10, rws, sfs, hR10, hF10, hFl, hFp⟩, r14, r15, rfl⟩
        have hN10 := e10 _ _ (e48 _ _ hN4)
        have hM10 := e10 _ _ hM8
        have hS10 := e10 _ _ hS8
        have hW10 := e10 _ _ hW8
        obtain ⟨y, hy⟩ : ∃ y, ys[i]? = some y := ⟨_, List.getElem?_eq_getElem (by rw [hys.len]; exact hi)⟩
        refine bcut (fun σ' H' => Ex H10 H' ∧ ∃ (F G : Addr) (gs : List Int), H10 F = none ∧ H10 G = none ∧ H' F = some (.dK [(.inr "name", .str y), (.inr "choice", .bl c), (.inr "gone", .ref G)]) ∧ H' G = some (.lst (gs.map V.int)) ∧ gs.Perm (((List.range tot).map f).drop cnt) ∧ gs.Pairwise (· ≤ ·) ∧ σ' = [some (.ref a), some (.int 0), some (.int 6), some (.int (many : Nat)), some (.ref N), some (.ref S), some (.ref W), some (.int (i : Nat)), some (.int one), some (.bl c), some (.int (cnt : Nat)), some (.ref M), some (.ref Z), some (.ref R), r14, r15, some (.ref F), r17]) ?_ ?_
        · top_name
          refine zdisp rfl rfl (by decide) (by decide) fun p G1 hp g1 hx1 => ?_
          have hN11 := g1 _ _ hN10
          have hM11 := g1 _ _ hM10
          show wE _ _ _ _ _
          top_name
          refine ixL (SqL.of hN11) (atI_nat (by rw [List.getElem?_map, hy]; rfl)) ?_
          show wE _ _ _ _ _
          top_name
          show wE _ _ _ _ _
          top_name
          refine zbfn n5 bt_sorted rfl ?_
          top_name
          rename_i q1 G2 hq1 g2 hx2
          have hx2' : G2 q1 = some (.lst ((((List.range tot).map f).drop cnt).map V.int)) := by
            rw [hx2, ← cutV_drop (by rw [List.length_map, List.length_range]; omega)]
            rfl
          refine ksortI hr (.inl (SqL.of hx2')) (by rw [List.length_drop, List.length_map, List.length_range]; omega) fun ms q2 G3 pm pw hq2 g3 hx3 => ?_
          refine ⟨g2.trans g3, [(.inr "name", .str y), (.inr "choice", .bl c), (.inr "gone", .ref q2)], rfl, by show 3 ≤ 15; decide, fun G4 g4 hk4 hx4 => ?_⟩
          have nq : q2 ≠ p := fun z => by rw [z, g2 _ _ hx1] at hq2; cases hq2
          exact ⟨g4, p, q2, ms, hp, Evl.fresh_back (g1.trans g2) hq2, hx4, hk4 _ _ nq hx3, pm, pw, rfl⟩
        rintro _ H11 ⟨e11, F, G, gs, hF0, hG0, hF11, hG11, gpm, gpw, rfl⟩
        have hR11 := e11 _ _ hR10
        have hM11 := e11 _ _ hM10
        have hS11 := e11 _ _ hS10
        have hW11 := e11 _ _ hW10
        have hrl := hF10.len
        refine bcut (fun σ' H' => Ex H10 H' ∧ ∃ sm, H' S = some (.lst us) ∧ H' W = some (.lst ((wtsL sms).map V.int)) ∧ SMI (cutA [S, W] H') F sm ∧ SMI H' F sm ∧ sm.name = y ∧ sm.choice = c ∧ SmOk i (wtsL sms) sm ∧ σ' = [some (.ref a), some (.int 0), some (.int 6), some (.int (many : Nat)), some (.ref N), some (.ref S), some (.ref W), some (.int (i : Nat)), some (.int one), some (.bl c), some (.int (cnt : Nat)), some (.ref M), some (.ref Z), some (.ref R), r14, r15, some (.ref F), r17]) ?_ ?_
        · top_name
          refine zlc rfl nd [("_law_mark", 17), ("_law_j", 14)] (blkOk_by (N := N__law_spec) (sc := defScope s__law_spec) (by decide +kernel)) piL (tmLe ?_)
          refine zbfn n5 bt_sorted rfl ?_
          refine acons ?_
          refine zlc rfl nd [("_law_j", 14)] (blkOk_by (N := N__law_spec) (sc := defScope s__law_spec) (by decide +kernel)) (piR1 n1 rfl) (tnR1 (n := (cnt : Nat)) (fun j ws H' => PrA f j ws H') (fun _ _ _ _ g e => g.ex e) (fun _ => ⟨rfl, fun i x h => by simp at h⟩) ?_)
          top_name
          refine ⟨rfl, by omega, by omega, fun j H12 L ws hj e12 hL hw g => ?_, fun L H12 ws hL e12 hw g => ?_⟩
          · have hM12 := e12 _ _ hM11
            top_name
            refine ixL (SqL.of hM12) (atI_nat (accM_at (by omega))) ?_
            top_name
            rename_i t H13 ht e13 hx13
            have nt : t ≠ L := fun z => by rw [z, hw] at ht; cases ht
            refine ⟨by rw [g.1, sizeLine_eq]; omega, e13, by rw [List.length_append, g.1]; rfl, fun m x hm => ?_⟩
            have g' := g.ex (del_mono (L := L) fun b o _ z => e13 b o z)
            by_cases hmj : m < ws.length
            · rw [List.getElem?_append_left hmj] at hm
              exact g'.2 m x hm
            · have hml := (List.getElem?_eq_some_iff.mp hm).1
              rw [List.length_append] at hml
              have hmj2 : m = ws.length := by have hml : m < ws.length + 1 := hml; omega
              subst hmj2
              rw [List.getElem?_append_right (Nat.le_refl _), Nat.sub_self] at hm
              obtain rfl : V.ref t = x := Option.some.inj hm
              exact ⟨t, rfl, del_at (by rw [g.1]; exact hx13) nt⟩
          have hprs : PrA f cnt ws H12 := g
          top_name
          refine ofK cr_sortedPO ⟨L, ws, kOf H12, rfl, SqL.of hw, fun x hx => ?_, fun zs' p srt stb hp => ?_⟩
          · obtain ⟨m, hm, rfl⟩ := List.mem_iff_getElem.mp hx
            obtain ⟨t, h1, h2⟩ := hprs.2 m _ (List.getElem?_eq_getElem hm)
            exact ⟨t, h1, by rw [h1, kOf_at h2]; exact h2⟩
          have ep : Ex H12 (upd H12 p (.lst zs')) := Ex.new hp
          have hpk : (zs'.map (kOf H12)).Perm ((List.range cnt).map fun i => (f i, (i : Int))) := by
            rw [← hprs.keys]; exact stb.perm.map _
          have hsk : (zs'.map (kOf H12)).Pairwise fun x y => x.1 ≤ y.1 := by
            rw [List.pairwise_map]
            refine List.Pairwise.imp (fun {x y} hxy => ?_) srt
            have := SrtO.lexB_no.mp hxy
            omega
          have hel : ∀ x ∈ zs', ∃ (t : Addr) (m : Nat), x = .ref t ∧ m < cnt ∧ H12 t = some (.tup [.int (f m), .int (m : Nat)]) := fun x hx => by
            obtain ⟨m, hm, e⟩ := List.mem_iff_getElem.mp (stb.perm.mem_iff.mp hx)
            obtain ⟨t, h1, h2⟩ := hprs.2 m _ (List.getElem?_eq_getElem hm)
            rw [e] at h1
            exact ⟨t, m, h1, by rw [← hprs.1]; exact hm, h2⟩
          refine ⟨p, zs', rfl, ⟨SqL.of upd_same, trivial⟩, fun j => (zs'.take j).map (fun y => rws.getD (kOf H12 y).2.toNat .non), rfl, fun j x H13 hx e13 => ?_, fun L2' H13 hL2 e13 hw13 => ?_⟩
          · obtain ⟨t, m, rfl, hmc, ht⟩ := hel x (List.mem_of_getElem? hx)
            have ht13 := e13 _ _ (ep _ _ ht)
            have hR13 := e13 _ _ (ep _ _ (e12 _ _ hR11))
            have hjz := (List.getElem?_eq_some_iff.mp hx).1
            have hzl : zs'.length = cnt := by rw [stb.perm.length_eq, hprs.1]
            top_name
            have hrm : rws[m]? = some (rws.getD m .non) := by rw [List.getD_eq_getElem?_getD, List.getElem?_eq_getElem (by omega)]; rfl
            refine ixL (SqL.of hR13) (atI_nat hrm) ?_
            refine ⟨?_, by show (List.map _ _).length < _; rw [List.length_map, List.length_take, sizeLine_eq]; omega, Evl.Ex.refl _⟩
            show ((zs'.take (j + 1)).map fun y => rws.getD (kOf H12 y).2.toNat .non) = ((zs'.take j).map fun y => rws.getD (kOf H12 y).2.toNat .non) ++ [rws.getD m .non]
            rw [take_map_succ hx, kOf_at ht]
            show _ ++ [rws.getD ((m : Int)).toNat .non] = _
            rw [Int.toNat_natCast]
          · have hw13 : H13 L2' = some (.lst (zs'.map fun y => rws.getD (kOf H12 y).2.toNat .non)) := by
              rw [hw13]
              show some (HO.lst ((zs'.take zs'.length).map _)) = _
              rw [List.take_length]
            have e1113 : Ex H11 H13 := e12.trans (ep.trans e13)
            have hL2F : L2' ≠ F := fun z => by rw [z, ep _ _ (e12 _ _ hF11)] at hL2; cases hL2
            have hL211 : H11 L2' = none := Evl.fresh_back (e12.trans ep) hL2
            have hF13 := e1113 _ _ hF11
            top_name
            refine ⟨F, _, rfl, DPut.k (k := .inr "fields") hF13 (by rw [sizeLine_eq]; show 3 < 16777216; decide), ?_⟩
            rw [show ∀ dv, putK ([(.inr "name", .str y), (.inr "choice", .bl c), (.inr "gone", .ref G)] : List (Key × V)) (.inr "fields") dv = [(.inr "name", .str y), (.inr "choice", .bl c), (.inr "gone", .ref G), (.inr "fields", dv)] from fun _ => rfl]
            have nF : ∀ {x : Addr} {o : HO}, H13 x = some o → (∀ d, o ≠ .dK d) → x ≠ F := fun h n z => by rw [z, hF13] at h; exact n _ (Option.some.inj h).symm
            have nFS := nF (e1113 _ _ hS11) fun _ z => (by cases z)
            have nFW := nF (e1113 _ _ hW11) fun _ z => (by cases z)
            have nFR := nF (e1113 _ _ hR11) fun _ z => (by cases z)
            have nFG := nF (e1113 _ _ hG11) fun _ z => (by cases z)
            have hFH : H10 F = none := hF0
            have eU : Ex H10 (upd H13 F (.dK (smD y c G L2'))) := Ex.past (e11.trans e1113) hFH
            have inC : ∀ {x : Addr} {o : HO}, H10 x = none → upd H13 F (.dK (smD y c G L2')) x = some o → cutA [S, W] (upd H13 F (.dK (smD y c G L2'))) x = some o := fun {x o} h h' => by
              unfold cutA
              rw [if_neg (fun m => ?_)]
              · exact h'
              · rcases List.mem_cons.mp m with z | m
                · rw [z, hS10] at h; cases h
                · rw [List.mem_singleton.mp m, hW10] at h; cases h
            have sfC : SFs (cutA [S, W] (upd H13 F (.dK (smD y c G L2')))) rws sfs := hF10.ex fun x o h => by
              have hnm : x ∉ [S, W, R] := fun m => by unfold cutA at h; rw [if_pos m] at h; cases h
              have h' := cutA_sub _ _ h
              unfold cutA
              rw [if_neg (fun m => hnm (by rcases List.mem_cons.mp m with z | m
                                           · rw [z]; exact List.mem_cons_self
                                           · rw [List.mem_singleton.mp m]; exact List.mem_cons_of_mem _ List.mem_cons_self))]
              exact eU _ _ h'
            have key : ∀ k ∈ (zs'.map (kOf H12)).map (fun p => p.2.toNat), k < sfs.length := fun k hk => by
              obtain ⟨p', hp', rfl⟩ := List.mem_map.mp hk
              obtain ⟨m, hm, rfl⟩ := List.mem_map.mp (hpk.mem_iff.mp hp')
              rw [hFl]
              show ((m : Int)).toNat < cnt
              rw [Int.toNat_natCast]
              exact List.mem_range.mp hm
            have hpick := sfC.pick key
            have hp1 : ((zs'.map (kOf H12)).map fun p => p.2.toNat).map (fun k => rws.getD k V.non) = zs'.map fun y => rws.getD (kOf H12 y).2.toNat .non := by rw [List.map_map, List.map_map]; rfl
            have hp2 : ((zs'.map (kOf H12)).map fun p => p.2.toNat).map (fun k => sfs.getD k sf0) = (zs'.map (kOf H12)).map fun p => sfs.getD p.2.toNat sf0 := by rw [List.map_map]; rfl
            rw [hp1, hp2] at hpick
            have smi : SMI (cutA [S, W] (upd H13 F (.dK (smD y c G L2')))) F ⟨y, c, gs, (zs'.map (kOf H12)).map fun p => sfs.getD p.2.toNat sf0⟩ := by
              refine ⟨G, L2', _, inC hFH upd_same, inC hG0 ((upd_ne nFG).trans (e1113 _ _ hG11)), inC (Evl.fresh_back e11 hL211) ((upd_ne hL2F).trans hw13), ?_⟩
              exact hpick
            refine ⟨eU, _, (upd_ne nFS).trans (e1113 _ _ hS11), (upd_ne nFW).trans (e1113 _ _ hW11), smi, smi.ex cutA_sub, rfl, rfl, sm_ok hcnt cnt10 t0 t1 hf hzs hFl hFp hpk hsk gpm gpw, rfl⟩
        rintro _ H12 ⟨e12, sm, hS12, hW12, smC, smH, hsn, hsc, smok, rfl⟩
        have mS : S ∈ [S, W] := List.mem_cons_self
        have mW : W ∈ [S, W] := List.mem_cons_of_mem _ List.mem_cons_self
        have hul := hsm.len
        refine bcut (fun σ' H' => H' = upd H12 S (.lst (us ++ [.ref F])) ∧ σ' = [some (.ref a), some (.int 0), some (.int 6), some (.int (many : Nat)), some (.ref N), some (.ref S), some (.ref W), some (.int (i : Nat)), some (.int one), some (.bl c), some (.int (cnt : Nat)), some (.ref M), some (.ref Z), some (.ref R), r14, r15, some (.ref F), r17]) ?_ ?_
        · top_name
          refine zapp ?_
          top_name
          refine ⟨S, _, rfl, hS12, ?_⟩
          top_name
          exact ⟨_, hS12, by rw [sizeLine_eq]; omega, rfl, rfl⟩
        rintro _ _ ⟨rfl, rfl⟩
        have hW13 : upd H12 S (.lst (us ++ [.ref F])) W = some (.lst ((wtsL sms).map V.int)) := (upd_ne nSW.symm).trans hW12
        have smX : SMI (upd H12 S (.lst (us ++ [.ref F]))) F sm := smC.ex fun x o h => by
          rw [← cutA_upd (H := H12) (x := S) (o := .lst (us ++ [.ref F])) mS] at h
          exact cutA_sub _ _ h
        have hwl := wtsL_len sms
        have hsmf := smok.nf
        top_name
        refine zapp ?_
        top_name
        refine ⟨W, _, rfl, hW13, ?_⟩
        top_name
        refine zcall (ok_lweight T) hr (by decide) takesF rfl ?_
        top_name
        refine ⟨F, W, sm, wtsL sms, rfl, smX, hW13, by omega, fun sf h => good_there (smok.fd sf h).1.ki (by omega), smok.ch, fun H14 e14 => ?_⟩
        refine ⟨_, e14 _ _ hW13, by rw [List.length_map, sizeLine_eq]; omega, ?_⟩
        (repeat refine bnil ?_)
        have gw : Gw [S, W] H4 (upd H14 W (.lst ((wtsL sms).map V.int ++ [.int (sm.wt (wtsL sms))]))) := ((Gw.of (e48.trans (e10.trans e12))).trans (Gw.put mS)).trans ((Gw.of e14).trans (Gw.put mW))
        refine ⟨⟨fun x o h => ?_, us ++ [.ref F], sms ++ [sm], (upd_ne nSW).trans (e14 _ _ upd_same), ?_, ?_, by rw [List.length_append, hsl]; rfl, ?_, fun j sm' hj => ?_, fun sm' h hm => ?_⟩, _, _, _, _, _, _, _, _, _, _, _, rfl⟩
        · exact gw _ _ (fun m => by
            rcases List.mem_cons.mp m with z | m
            · rw [z, hS0] at h; cases h
            · rw [List.mem_singleton.mp m, hW1] at h; cases h) (e4 _ _ h)
        · rw [upd_same, wtsL_app, List.map_append]; rfl
        · rw [cutA_upd mW]
          have eC : Ex (cutA [S, W] H12) (cutA [S, W] H14) := by
            have := cutA_ex (T := [S, W]) (Gw.of e14)
            rwa [cutA_upd mS] at this
          exact (hsm.ex ((cutA_ex (Gw.of (e48.trans (e10.trans e12)))).trans eC)).one (smC.ex eC)
        · rw [List.map_append, hnm, List.take_add_one, hy]
          show _ ++ [sm.name] = _
          rw [hsn]
          rfl
        · by_cases hjl : j < sms.length
          · rw [List.getElem?_append_left hjl] at hj
            rw [List.take_append_of_le_length (by omega)]
            exact hok j sm' hj
          · have hml := (List.getElem?_eq_some_iff.mp hj).1
            rw [List.length_append] at hml
            have hmj2 : j = sms.length := by have hml : j < sms.length + 1 := hml; omega
            subst hmj2
            rw [List.getElem?_append_right (Nat.le_refl _), Nat.sub_self] at hj
            obtain rfl : sm = sm' := Option.some.inj hj
            rw [List.take_left]
            rw [hsl]
            exact smok
        · rw [List.getLast?_append] at h
          obtain rfl : sm = sm' := by simpa using h
          rw [hsc]
          cases hcc : c with
          | false => rfl
          | true => have := hc hcc; omega
      · obtain ⟨⟨e4, us, sms, hS4, hW4, hsm, hsl, hnm, hok, hla⟩, rs⟩ := hv
        rw [Int.toNat_natCast] at hsl hnm hla
        refine ⟨⟨e4, us, sms, hS4, hW4, hsm, ⟨by omega, by omega, ?_, hok, fun sm h => hla sm h rfl⟩⟩, rs⟩
        rw [hnm, hsl, ← hys.len, List.take_length]
        exact ⟨rfl, hys.nm, hys.nd⟩
    rintro _ H4 ⟨⟨e4, us, sms, hS4, hW4, hsm, hok⟩, r7, r8, r9, r10, r11, r12, r13, r14, r15, r16, r17, rfl⟩
    top_name
    refine q S H4 us sms (e1.trans e4) hSH hS4 (hsm.ex fun x o h => ?_) hok
    rw [del_ne (fun y => by unfold cutA at h; rw [y, if_pos List.mem_cons_self] at h; cases h)]
    exact cutA_sub _ _ h
end

set_option maxRecDepth 100000
set_option maxHeartbeats 4000000
set_option pp.maxSteps 400
section
open PySem PySem.Spec PyProof.Rows L2 Z
open Evl (Ex)
variable {P : Program} {w : World} {K : PySem.W.Frag} {mg : Str → Option Value} {base : Heap}
local macro_rules | `(tactic| nest_fact) => `(tactic| first | exact tup0 | exact tup1 | exact rfl)
local macro_rules | `(tactic| leaf_len) => `(tactic| first | refine ⟨_, _, rfl, sf_number (by one_item), ?_⟩ | refine ⟨_, _, rfl, sf_name (by one_item), ?_⟩ | refine ⟨_, _, rfl, sf_kind (by one_item), ?_⟩ | refine ⟨_, _, rfl, sf_must (by one_item), ?_⟩ | refine ⟨_, _, rfl, sf_default (by one_item), ?_⟩ | refine ⟨_, _, rfl, sm_name (by one_item), ?_⟩ | refine ⟨_, _, rfl, sm_choice (by one_item), ?_⟩ | refine ⟨_, _, rfl, sm_gone (by one_item), ?_⟩ | refine ⟨_, _, rfl, sm_fields (by one_item), ?_⟩ | fail)
local macro_rules | `(tactic| tb_rel) => `(tactic| first
  | ((with_reducible refine (?_ : wE _ (.Subscript _ (.Constant (.str _) _ _) _) _ _ _)); refine zdat (by first | assumption | omega) ?_)
  | ((with_reducible refine (?_ : wS _ (.Assign [.Subscript _ (.Constant (.str _) _ _) _] _ _) _ _ _)); refine sdput (by first | assumption | omega) ?_)
  | ((with_reducible refine (?_ : wIx _ (.ref _) (.int _) _ _)); refine ixT (SqT.of (by one_item)) (by nest_fact) ?_)
  | ((with_reducible refine (?_ : ∃ a v, _ = V.ref a ∧ DGet _ a _ (some v) ∧ _)); leaf_len)
  | fail)
/-! ### what the law makes of its spec -/
def LD.dep : LD → Nat
  | .list k => k.dep + 1
  | _ => 0
theorem LD.dep_kd (nms : List Str) : ∀ k : LD, (k.kd nms).dep = k.dep
  | .truth => rfl
  | .count => rfl
  | .whole => rfl
  | .upto _ => rfl
  | .text _ => rfl
  | .form _ => rfl
  | .list k => congrArg (· + 1) (LD.dep_kd nms k)
def LD.In (n : Nat) : LD → Prop
  | .form i => i < n
  | .list k => k.In n
  | _ => True
theorem good_in {k : LD} {a n : Nat} (h : k.Good a) (hn : a ≤ n) : k.In n := by
  cases k with
  | form i => exact Nat.lt_of_lt_of_le (show i < a from h) hn
  | list k =>
    have h : k.One a := h
    cases k with
    | form i => exact Nat.lt_of_lt_of_le (show i < a from h) hn
    | list _ => exact h.elim
    | _ => trivial
  | _ => trivial
theorem good_dep {k : LD} {a : Nat} (h : k.Good a) : k.dep ≤ 1 := by
  cases k with
  | list k =>
    have h : k.One a := h
    cases k with
    | list _ => exact h.elim
    | _ => exact Nat.le_refl _
  | _ => exact Nat.zero_le _
def names (sms : List SM) : List Str := sms.map (·.name)
theorem name_at {sms : List SM} {i : Nat} {sm : SM} (h : sms[i]? = some sm) : (names sms).getD i "" = sm.name := by
  unfold names
  rw [List.getD_eq_getElem?_getD, List.getElem?_map, h]
  rfl
def spKm (K : PySem.W.Frag) (k : LD) (nms : List Str) : Sp := fun vs H Q _ => ∃ (v : V) (s : Addr) (us : List V) (sms : List SM), vs = [v, .ref s] ∧ LKI H v k ∧ H s = some (.lst us) ∧ SMs H us sms ∧ k.In sms.length ∧ nms = names sms ∧ ∀ a H', H a = none → KI K (nw H H') (.ref a) (k.kd nms) → Ex H H' → Q (.ref a) H'
theorem ok_kind_made (T : Txt K mg) (nms : List Str) : ∀ k : LD, Gf P w K mg base (3 + k.dep) "_law_kind_made" [] (spKm K k nms) := by
  intro k
  induction k with
  | list k ih =>
    refine gf_mk T.f__law_kind_made T.m__law_kind_made (fun _ _ _ _ _ _ us hl => match us, hl with | [_, _], _ => rfl) fun fd F => fn_mk (k := 3 + k.dep) F sc__law_kind_made (fun vs H Q E h => ?_) fun cd A outer s0 H vs Q E hr tk po h => ?_
    · obtain ⟨v, s, us, sms, rfl, _⟩ := h; rfl
    · obtain ⟨v, s, us, sms, rfl, hk, hs, hS, hin, rfl, q⟩ := h
      cases hk with
      | list hx hi =>
        top_name
        refine zmk (nf_List T) hr (by omega) tk rfl ?_
        top_name
        refine zcall ih hr (Nat.le_refl _) takesF rfl ?_
        top_name
        refine ⟨_, s, us, sms, rfl, hi, hs, hS, hin, rfl, fun b H1 hb0 hb e1 => ?_⟩
        top_name
        intro a dx ha hd hne
        exact ini_to (Q := Q) ha hd fun H2 e2 hx2 => q a H2 (Evl.fresh_back e1 ha) (.list (nw_at (Evl.fresh_back e1 ha) hx2) (hb.ex (nw_mono e2))) (e1.trans e2)
  | form i =>
    refine gf_mk T.f__law_kind_made T.m__law_kind_made (fun _ _ _ _ _ _ us hl => match us, hl with | [_, _], _ => rfl) fun fd F => fn_mk (k := 2) F sc__law_kind_made (fun vs H Q E h => ?_) fun cd A outer s0 H vs Q E hr tk po h => ?_
    · obtain ⟨v, s, us, sms, rfl, _⟩ := h; rfl
    · obtain ⟨v, s, us, sms, rfl, hk, hs, hS, hin, rfl, q⟩ := h
      have hu1 := Nat.lt_of_le_of_lt (Nat.add_le_add_left (show 1 ≤ 64 by decide) _) hr.units
      cases hk with
      | form hx =>
        top_name
        have hin : i < sms.length := hin
        have hlen := hS.len
        have hxi : us[i]? = some us[i] := List.getElem?_eq_getElem (by omega)
        obtain ⟨d, sm, hd0, hsm, hdi⟩ := hS.get hxi
        obtain ⟨g, l, fs, h1, _⟩ := hdi
        refine zmk (nf_Nested T) hr (by decide) tk rfl ?_
        top_name
        refine ixL (SqL.of hs) (atI_nat (by rw [hxi, hd0])) ?_
        top_name
        intro a dx ha hd hne
        refine ini_to (Q := Q) ha hd fun H2 e2 hx2 => q a H2 ha ?_ e2
        show KI K _ _ (.form ((names sms).getD i ""))
        rw [name_at hsm]
        exact .form (nw_at ha hx2)
  | upto n =>
    refine gf_mk T.f__law_kind_made T.m__law_kind_made (fun _ _ _ _ _ _ us hl => match us, hl with | [_, _], _ => rfl) fun fd F => fn_mk (k := 2) F sc__law_kind_made (fun vs H Q E h => ?_) fun cd A outer s0 H vs Q E hr tk po h => ?_
    · obtain ⟨v, s, us, sms, rfl, _⟩ := h; rfl
    · obtain ⟨v, s, us, sms, rfl, hk, hs, hS, hin, rfl, q⟩ := h
      have hu1 := Nat.lt_of_le_of_lt (Nat.add_le_add_left (show 1 ≤ 64 by decide) _) hr.units
      cases hk with
      | upto hx =>
        top_name
        refine zmk (nf_Upto T) hr (by decide) tk rfl ?_
        top_name
        intro a dx ha hd hne
        exact ini_to (Q := Q) ha hd fun H2 e2 hx2 => q a H2 ha (.upto (nw_at ha hx2)) e2
  | text n =>
    refine gf_mk T.f__law_kind_made T.m__law_kind_made (fun _ _ _ _ _ _ us hl => match us, hl with | [_, _], _ => rfl) fun fd F => fn_mk (k := 2) F sc__law_kind_made (fun vs H Q E h => ?_) fun cd A outer s0 H vs Q E hr tk po h => ?_
    · obtain ⟨v, s, us, sms, rfl, _⟩ := h; rfl
    · obtain ⟨v, s, us, sms, rfl, hk, hs, hS, hin, rfl, q⟩ := h
      have hu1 := Nat.lt_of_le_of_lt (Nat.add_le_add_left (show 1 ≤ 64 by decide) _) hr.units
      cases hk with
      | text hx =>
        top_name
        · rename_i h100
          refine zmk0 (nf_Text0 T) hr (by decide) tk rfl ?_
          intro a dx ha hd hne
          exact ini_to (Q := Q) ha hd fun H2 e2 hx2 => q a H2 ha (by rw [h100]; exact .text (nw_at ha hx2)) e2
        · refine zmk (nf_Text T) hr (by decide) tk rfl ?_
          top_name
          intro a dx ha hd hne
          exact ini_to (Q := Q) ha hd fun H2 e2 hx2 => q a H2 ha (.text (nw_at ha hx2)) e2
  | truth =>
    refine gf_mk T.f__law_kind_made T.m__law_kind_made (fun _ _ _ _ _ _ us hl => match us, hl with | [_, _], _ => rfl) fun fd F => fn_mk (k := 2) F sc__law_kind_made (fun vs H Q E h => ?_) fun cd A outer s0 H vs Q E hr tk po h => ?_
    · obtain ⟨v, s, us, sms, rfl, _⟩ := h; rfl
    · obtain ⟨v, s, us, sms, rfl, hk, hs, hS, hin, rfl, q⟩ := h
      have hu1 := Nat.lt_of_le_of_lt (Nat.add_le_add_left (show 1 ≤ 64 by decide) _) hr.units
      cases hk with
      | truth hx =>
        top_name
        exact zmkP T.mk_Truth T.c_Truth.hm T.m_Truth rfl fun a dx H2 ha e2 hx2 => q a H2 ha (.truth (nw_at ha hx2)) e2
  | count =>
    refine gf_mk T.f__law_kind_made T.m__law_kind_made (fun _ _ _ _ _ _ us hl => match us, hl with | [_, _], _ => rfl) fun fd F => fn_mk (k := 2) F sc__law_kind_made (fun vs H Q E h => ?_) fun cd A outer s0 H vs Q E hr tk po h => ?_
    · obtain ⟨v, s, us, sms, rfl, _⟩ := h; rfl
    · obtain ⟨v, s, us, sms, rfl, hk, hs, hS, hin, rfl, q⟩ := h
      have hu1 := Nat.lt_of_le_of_lt (Nat.add_le_add_left (show 1 ≤ 64 by decide) _) hr.units
      cases hk with
      | count hx =>
        top_name
        exact zmkP T.mk_Count T.c_Count.hm T.m_Count rfl fun a dx H2 ha e2 hx2 => q a H2 ha (.count (nw_at ha hx2)) e2
  | whole =>
    refine gf_mk T.f__law_kind_made T.m__law_kind_made (fun _ _ _ _ _ _ us hl => match us, hl with | [_, _], _ => rfl) fun fd F => fn_mk (k := 2) F sc__law_kind_made (fun vs H Q E h => ?_) fun cd A outer s0 H vs Q E hr tk po h => ?_
    · obtain ⟨v, s, us, sms, rfl, _⟩ := h; rfl
    · obtain ⟨v, s, us, sms, rfl, hk, hs, hS, hin, rfl, q⟩ := h
      have hu1 := Nat.lt_of_le_of_lt (Nat.add_le_add_left (show 1 ≤ 64 by decide) _) hr.units
      cases hk with
      | whole hx =>
        top_name
        exact zmkP T.mk_Whole T.c_Whole.hm T.m_Whole rfl fun a dx H2 ha e2 hx2 => q a H2 ha (.whole (nw_at ha hx2)) e2
end

set_option maxRecDepth 100000
set_option maxHeartbeats 4000000
set_option pp.maxSteps 400
section
open PySem PySem.Spec PyProof.Rows L2 Z
open Evl (Ex)
variable {P : Program} {w : World} {K : PySem.W.Frag} {mg : Str → Option Value} {base : Heap}
local macro_rules | `(tactic| nest_fact) => `(tactic| first | exact tup0 | exact tup1 | exact rfl)
local macro_rules | `(tactic| leaf_len) => `(tactic| first | refine ⟨_, _, rfl, sf_number (by one_item), ?_⟩ | refine ⟨_, _, rfl, sf_name (by one_item), ?_⟩ | refine ⟨_, _, rfl, sf_kind (by one_item), ?_⟩ | refine ⟨_, _, rfl, sf_must (by one_item), ?_⟩ | refine ⟨_, _, rfl, sf_default (by one_item), ?_⟩ | refine ⟨_, _, rfl, sm_name (by one_item), ?_⟩ | refine ⟨_, _, rfl, sm_choice (by one_item), ?_⟩ | refine ⟨_, _, rfl, sm_gone (by one_item), ?_⟩ | refine ⟨_, _, rfl, sm_fields (by one_item), ?_⟩ | fail)
local macro_rules | `(tactic| tb_rel) => `(tactic| first
  | ((with_reducible refine (?_ : wE _ (.Subscript _ (.Constant (.str _) _ _) _) _ _ _)); refine zdat (by first | assumption | omega) ?_)
  | ((with_reducible refine (?_ : wS _ (.Assign [.Subscript _ (.Constant (.str _) _ _) _] _ _) _ _ _)); refine sdput (by first | assumption | omega) ?_)
  | ((with_reducible refine (?_ : wIx _ (.ref _) (.int _) _ _)); refine ixT (SqT.of (by one_item)) (by nest_fact) ?_)
  | ((with_reducible refine (?_ : ∃ a v, _ = V.ref a ∧ DGet _ a _ (some v) ∧ _)); leaf_len)
  | fail)
/-! ### fields, forms the law makes -/
def SF.fd (nms : List Str) (sf : SF) : FD := ⟨sf.mark, sf.name, sf.kind.kd nms, sf.must, sf.dflt⟩
def SM.fm (nms : List Str) (sm : SM) : FM := ⟨sm.name, sm.choice, sm.fields.map (SF.fd nms), sm.gone⟩
/-- what stands in a spec's field -/
structure SfW (n : Nat) (sf : SF) : Prop where
  in_ : sf.kind.In n
  dep : sf.kind.dep ≤ 1
  bl : sf.kind.isPlain = false → sf.dflt = sf.kind.bl
  bm : sf.must = true → sf.dflt = sf.kind.bl
  su : sf.kind.isPlain = true → DV.suits (sf.kind.kd []) sf.dflt
theorem suits_kd {k : LD} (nms : List Str) (hp : k.isPlain = true) : k.kd nms = k.kd [] := by
  cases k <;> first | rfl | cases hp
theorem plain_ok {k : LD} (h : k.Plain) (nms : List Str) : (k.kd nms).Ok := by
  have hM : MOST = 115792089237316195423570985008687907853269984665640564039457584007913129639935 := rfl
  cases k with
  | upto n => have h : 1 ≤ n ∧ n ≤ 18446744073709551616 := h; exact ⟨h.1, by omega⟩
  | text n => exact h
  | truth => trivial
  | count => trivial
  | whole => trivial
  | form _ => exact h.elim
  | list _ => exact h.elim
theorem ok_w {ahead n : Nat} {ws : List Int} {c : Bool} {sf : SF} (h : SfOk ahead ws c sf) (hn : ahead ≤ n) : SfW n sf := by
  have hdf := h.df
  refine ⟨good_in h.ki hn, good_dep h.ki, fun hp => ?_, fun hm => ?_, fun hp => ?_⟩
  · rwa [if_pos (.inr (.inr hp))] at hdf
  · rwa [if_pos (.inl hm)] at hdf
  · by_cases hh : sf.must = true ∨ c = true ∨ sf.kind.isPlain = false
    · rw [if_pos hh] at hdf
      rw [hdf]
      exact bl_suits (plain_ok (good_plain h.ki hp) []) (by rw [LD.isPlain_kd]; exact hp)
    · rwa [if_neg hh] at hdf
def dvB : DV → DV → Bool
  | .bl a, .bl b => decide (a = b)
  | .int a, .int b => decide (a = b)
  | .str a, .str b => decide (a = b)
  | .none, .none => true
  | .list, .list => true
  | _, _ => false
theorem dv_eq {X : Cx} {H : Hp} {Q : VK} {j : Nat} {x y : V} {k : LD} {d : DV} (hr : Room j X.A) (hx : DvAt H x d) (hy : DvAt H y k.bl) (hb : k.isPlain = false → d = k.bl) (hs : k.isPlain = true → DV.suits (k.kd []) d) (q : ∀ b : Bool, (b = true → d = k.bl) → (d = k.bl → b = true) → Q (.bl b) H) : wO X (compareOp .Eq) x y H Q := by
  cases k with
  | form i =>
    have := hb rfl
    subst this
    cases hx
    cases hy
    exact oeq rfl (q true (fun _ => rfl) fun _ => rfl)
  | list k =>
    have := hb rfl
    subst this
    cases hx with
    | list hx =>
      cases hy with
      | list hy => exact oeqNil hr (SqL.of hx) (SqL.of hy) (q true (fun _ => rfl) fun _ => rfl)
  | truth =>
    have hs := hs rfl
    cases d <;> first | exact hs.elim | skip
    cases hx
    cases hy
    exact oeq rfl (q _ (fun z => congrArg DV.bl (V.bl.inj (of_decide_eq_true z))) fun z => decide_eq_true (congrArg V.bl (DV.bl.inj z)))
  | count =>
    have hs := hs rfl
    cases d <;> first | exact hs.elim | skip
    cases hx
    cases hy
    exact oeq rfl (q _ (fun z => congrArg DV.int (V.int.inj (of_decide_eq_true z))) fun z => decide_eq_true (congrArg V.int (DV.int.inj z)))
  | whole =>
    have hs := hs rfl
    cases d <;> first | exact hs.elim | skip
    cases hx
    cases hy
    exact oeq rfl (q _ (fun z => congrArg DV.int (V.int.inj (of_decide_eq_true z))) fun z => decide_eq_true (congrArg V.int (DV.int.inj z)))
  | upto n =>
    have hs := hs rfl
    cases d <;> first | exact hs.elim | skip
    cases hx
    cases hy
    exact oeq rfl (q _ (fun z => congrArg DV.int (V.int.inj (of_decide_eq_true z))) fun z => decide_eq_true (congrArg V.int (DV.int.inj z)))
  | text n =>
    have hs := hs rfl
    cases d <;> first | exact hs.elim | skip
    cases hx
    cases hy
    exact oeq rfl (q _ (fun z => congrArg DV.str (V.str.inj (of_decide_eq_true z))) fun z => decide_eq_true (congrArg V.str (DV.str.inj z)))
def FieldN (K : PySem.W.Frag) (H : Hp) (fd : FD) : VK := fun v H' => ∃ a, v = .ref a ∧ H a = none ∧ Ex H H' ∧ FO K (nw H H') a fd
def spFm2 (K : PySem.W.Frag) (nms : List Str) : Sp := fun vs H Q _ => ∃ (a s : Addr) (sf : SF) (us : List V) (sms : List SM), vs = [.ref a, .ref s] ∧ SFI H a sf ∧ SfW sms.length sf ∧ H s = some (.lst us) ∧ SMs H us sms ∧ nms = names sms ∧ ∀ v H', FieldN K H (sf.fd nms) v H' → Q v H'
def LD.isL : LD → Bool
  | .list _ => true
  | _ => false
theorem word_list (k : LD) : decide (V.str k.word = .str "list") = k.isL := by
  cases k <;> rfl
theorem ok_field_made (T : Txt K mg) (nms : List Str) : Gf P w K mg base 5 "_law_field_made" [] (spFm2 K nms) := by
  refine gf_mk T.f__law_field_made T.m__law_field_made (fun _ _ _ _ _ _ us hl => match us, hl with | [_, _], _ => rfl) fun fd F => fn_mk F sc__law_field_made (fun vs H Q E h => ?_) fun cd A outer s0 H vs Q E hr tk po h => ?_
  · obtain ⟨a, s, sf, us, sms, rfl, _⟩ := h; rfl
  · obtain ⟨a, s, sf, us, sms, rfl, hsf, wf, hs, hS, rfl, q⟩ := h
    have nd := sc__law_field_made.nd
    have hu1 := Nat.lt_of_le_of_lt (Nat.add_le_add_left (show 1 ≤ 64 by decide) _) hr.units
    obtain ⟨mark, nm, k, mu, d⟩ := sf
    obtain ⟨kv, dv, hx, hk, hd⟩ := id hsf
    have hk : LKI H kv k := hk
    have hd : DvAt H dv d := hd
    have hx : H a = some (.dK (sfD mark nm kv mu dv)) := hx
    have hin : k.In sms.length := wf.in_
    have hdp : k.dep ≤ 1 := wf.dep
    have hbl : k.isPlain = false → d = k.bl := wf.bl
    have hbm : mu = true → d = k.bl := wf.bm
    have hsu : k.isPlain = true → DV.suits (k.kd []) d := wf.su
    have q : ∀ v H', FieldN K H ⟨mark, nm, k.kd (names sms), mu, d⟩ v H' → Q v H' := q
    refine bcut (fun σ' H' => Ex H H' ∧ ∃ b, H b = none ∧ KI K (nw H H') (.ref b) (k.kd (names sms)) ∧ σ' = [some (.ref a), some (.ref s), some (.ref b), none, none]) ?_ ?_
    · top_name
      refine zcall (ok_kind_made T (names sms) k) hr (by omega) takesF rfl ?_
      top_name
      exact ⟨kv, s, us, sms, rfl, hk, hs, hS, hin, rfl, fun b H1 hb hkb e1 => ⟨e1, b, hb, hkb, rfl⟩⟩
    rintro _ H1 ⟨e1, b, hb0, hkb, rfl⟩
    have hx1 := e1 _ _ hx
    have efb : (k.kd (names sms)).bl = k.bl := LD.bl_kd _ _
    -- a field made of a kind that is new, and what is left out
    have mk : ∀ {H4 H5 : Hp} {c dx : Addr} {dv' : V} (d0 : DV), Ex H1 H4 → Ex H4 H5 → H4 c = none → eff (k.kd (names sms)) d0 = d → nw H4 H5 c = some (insF K dx mark nm (.ref b) mu dv') → DvAt (nw H4 H5) dv' (eff (k.kd (names sms)) d0) → FieldN K H ⟨mark, nm, k.kd (names sms), mu, d⟩ (.ref c) H5 := fun {H4 H5 c dx dv'} d0 e4 e5 hc hef hf hdd =>
      ⟨c, rfl, Evl.fresh_back (e1.trans e4) hc, (e1.trans e4).trans e5, dx, _, dv', nw_more (e1.trans e4) _ _ hf, hkb.ex (nw_mono (e4.trans e5)), by rw [← hef]; exact hdd.ex (nw_more (e1.trans e4))⟩
    cases hmu : mu with
    | true =>
      rw [hmu] at hx1
      top_name
      refine vcut (FieldN K H ⟨mark, nm, k.kd (names sms), mu, d⟩) ?_ (by rw [hmu] at q ⊢; exact q)
      refine zmk (nf_Field1 T) hr (by decide) tk rfl ?_
      top_name
      intro c dx hc hdx hne
      refine field_to (Q := FieldN K H ⟨mark, nm, k.kd (names sms), mu, d⟩) hc hdx hne (hkb.ex nw_sub) .none fun H5 dx' dv' e5 hf hdd => ?_
      refine mk .none (Ex.refl _) e5 hc ?_ (by rw [hmu]; exact hf) hdd
      show (k.kd (names sms)).bl = d
      rw [efb, hbm hmu]
    | false =>
      rw [hmu] at hx1
      refine bcons (sif (tcut false ?_ ?_))
      · top_name
        exact ⟨rfl, rfl⟩
      refine ifF (bnil ?_)
      refine bcons (sif (wT.imp (Q := fun k' H' => Ex H1 H' ∧ (k' = true → d = k.bl)) ?_ fun k' H4 hk' => ?_))
      · top_name
        refine zcall (ok_blank T) hr (by decide) takesF rfl ?_
        top_name
        refine ⟨kv, k, rfl, hk.ex e1, fun v' H4 e4 hdv => ?_⟩
        have hx4 := e4 _ _ hx1
        refine dv_eq hr (hd.ex (e1.trans e4)) (hdv.ex nw_sub) hbl hsu fun bb b1 b2 => ?_
        refine ⟨_, rfl, ?_⟩
        refine ifb (fun hb => ?_) fun hb => ?_
        · top_name
          exact ⟨e4, fun _ => b1 hb⟩
        · exact ⟨e4, fun z => by cases z⟩
      obtain ⟨e4, hk'⟩ := hk'
      have hx4 := e4 _ _ hx1
      cases k' with
      | true =>
        have hdk := hk' rfl
        refine ifT ?_
        top_name
        refine vcut (FieldN K H ⟨mark, nm, k.kd (names sms), mu, d⟩) ?_ (by rw [hmu] at q ⊢; exact q)
        refine zmk (nf_Field2 T) hr (by decide) tk rfl ?_
        top_name
        intro c dx hc hdx hne
        refine field_to (Q := FieldN K H ⟨mark, nm, k.kd (names sms), mu, d⟩) hc hdx hne (hkb.ex (nw_sub.trans e4)) .none fun H5 dx' dv' e5 hf hdd => ?_
        refine mk .none e4 e5 hc ?_ (by rw [hmu]; exact hf) hdd
        show (k.kd (names sms)).bl = d
        rw [efb, hdk]
      | false =>
        refine ifF (bnil ?_)
        refine bcut (fun σ' H' => Ex H4 H' ∧ ∃ bv, DvAt (nw H4 H') bv k.bl ∧ σ' = [some (.ref a), some (.ref s), some (.ref b), some bv, none]) ?_ ?_
        · top_name
          refine zcall (ok_blank T) hr (by decide) takesF rfl ?_
          top_name
          exact ⟨kv, k, rfl, hk.ex (e1.trans e4), fun v' H5 e5 hdv => ⟨e5, v', hdv, rfl⟩⟩
        rintro _ H5 ⟨e5, bv, hbv, rfl⟩
        have hx5 := e5 _ _ hx4
        have e15 := e4.trans e5
        have hk5 := hk.ex (e1.trans e15)
        obtain ⟨kt, kus, rfl, hkt⟩ := hk5.tup
        have nolist : k.isL = false → wB (cx P w K mg base N__law_field_made "_law_field_made" (defScope s__law_field_made) (He.fAd K ("_law_field_made", none)) cd A outer s0 H E) ((defBody s__law_field_made).drop 4) { nx := fun _ H' => Q .non H', rt := Q } [some (.ref a), some (.ref s), some (.ref b), some bv, none] H5 := fun hnl => by
          refine bcons (sif (tcut true ?_ ?_))
          · top_name
            rw [word_list, hnl]
            exact ⟨rfl, rfl⟩
          refine ifT ?_
          top_name
          refine vcut (FieldN K H ⟨mark, nm, k.kd (names sms), mu, d⟩) ?_ (by rw [hmu] at q ⊢; exact q)
          refine zmk (nf_Field T) hr (by decide) tk rfl ?_
          top_name
          intro c dx hc hdx hne
          refine field_to (Q := FieldN K H ⟨mark, nm, k.kd (names sms), mu, d⟩) hc hdx hne (hkb.ex (nw_sub.trans e15)) (hd.ex (e1.trans e15)) fun H6 dx' dv' e6 hf hdd => ?_
          refine mk d e15 e6 hc ?_ (by rw [hmu]; exact hf) hdd
          cases hpl : k.isPlain with
          | true => exact eff_of (by rw [suits_kd _ hpl]; exact hsu hpl)
          | false =>
            rw [hbl hpl]
            cases k with
            | form i => rfl
            | list _ => cases hnl
            | _ => cases hpl
        cases k with
        | list k0 =>
          cases hbv with
          | @list lb hlb =>
            have hlb5 : H5 lb = some (.lst []) := nw_sub _ _ hlb
            have hlb4 : H4 lb = none := by
              cases z : H4 lb with
              | none => rfl
              | some o => unfold nw at hlb; rw [z] at hlb; cases hlb
            have hlb1 : H1 lb = none := Evl.fresh_back e4 hlb4
            have hlbH : H lb = none := Evl.fresh_back e1 hlb1
            have hdl : d = .list := hbl rfl
            refine bcons (sif (tcut false ?_ ?_))
            · top_name
              exact ⟨rfl, rfl⟩
            refine ifF (bnil ?_)
            refine bcut (fun σ' H' => Ex H5 H' ∧ ∃ c dx dv', H5 c = none ∧ nw H5 H' c = some (insF K dx mark nm (.ref b) false dv') ∧ DvAt (nw H5 H') dv' .list ∧ σ' = [some (.ref a), some (.ref s), some (.ref b), some (.ref lb), some (.ref c)]) ?_ ?_
            · top_name
              refine vcut (fun v H' => ∃ c, v = .ref c ∧ Ex H5 H' ∧ ∃ dx dv', H5 c = none ∧ nw H5 H' c = some (insF K dx mark nm (.ref b) false dv') ∧ DvAt (nw H5 H') dv' .list) ?_ ?_
              · refine zmk (nf_Field T) hr (by decide) tk rfl ?_
                top_name
                intro c dx hc hdx hne
                exact field_to (Q := fun v H' => ∃ c, v = .ref c ∧ Ex H5 H' ∧ ∃ dx dv', H5 c = none ∧ nw H5 H' c = some (insF K dx mark nm (.ref b) false dv') ∧ DvAt (nw H5 H') dv' .list) hc hdx hne (hkb.ex (nw_sub.trans e15)) (.list hlb5) fun H6 dx' dv' e6 hf hdd => ⟨c, rfl, e6, dx', dv', hc, hf, hdd⟩
              rintro _ H6 ⟨c, rfl, e6, dx', dv', hc, hf, hdd⟩
              exact ⟨e6, c, dx', dv', hc, hf, hdd, rfl⟩
            rintro _ H6 ⟨e6, c, dx', dv', hc, hf, hdd, rfl⟩
            have hlb6 := e6 _ _ hlb5
            top_name
            refine zapp ?_
            top_name
            refine ⟨lb, _, rfl, hlb6, ?_⟩
            top_name
            refine ⟨_, hlb6, by rw [sizeLine_eq]; decide, ?_⟩
            top_name
            have sub1 : Ex (nw H5 H6) (nw H (upd H6 lb (.lst ([] ++ [.int 1])))) := fun x o z => by
              have hxn : H5 x = none := by
                cases w : H5 x with
                | none => rfl
                | some o' => unfold nw at z; rw [w] at z; cases z
              have nx : x ≠ lb := fun y => by rw [y, hlb5] at hxn; cases hxn
              exact nw_at (Evl.fresh_back (e1.trans e15) hxn) ((upd_ne nx).trans (nw_sub _ _ z))
            have sub2 : Ex (nw H H1) (nw H (upd H6 lb (.lst ([] ++ [.int 1])))) := fun x o z => by
              have hxn : H x = none := by
                cases w : H x with
                | none => rfl
                | some o' => unfold nw at z; rw [w] at z; cases z
              have z1 := nw_sub _ _ z
              have nx : x ≠ lb := fun y => by rw [y, hlb1] at z1; cases z1
              exact nw_at hxn ((upd_ne nx).trans (e6 _ _ (e15 _ _ z1)))
            refine q _ _ ⟨c, rfl, Evl.fresh_back (e1.trans e15) hc, Ex.past ((e1.trans e15).trans e6) hlbH, dx', _, dv', ?_, hkb.ex sub2, ?_⟩
            · rw [hmu]; exact sub1 _ _ hf
            · rw [hdl]; exact hdd.ex sub1
        | truth => exact nolist rfl
        | count => exact nolist rfl
        | whole => exact nolist rfl
        | upto _ => exact nolist rfl
        | text _ => exact nolist rfl
        | form _ => exact nolist rfl
end

set_option maxRecDepth 100000
set_option maxHeartbeats 4000000
set_option pp.maxSteps 400
section
open PySem PySem.Spec PyProof.Rows L2 Z
open Evl (Ex)
variable {P : Program} {w : World} {K : PySem.W.Frag} {mg : Str → Option Value} {base : Heap}
local macro_rules | `(tactic| nest_fact) => `(tactic| first | exact tup0 | exact tup1 | exact rfl)
local macro_rules | `(tactic| leaf_len) => `(tactic| first | refine ⟨_, _, rfl, sf_number (by one_item), ?_⟩ | refine ⟨_, _, rfl, sf_name (by one_item), ?_⟩ | refine ⟨_, _, rfl, sf_kind (by one_item), ?_⟩ | refine ⟨_, _, rfl, sf_must (by one_item), ?_⟩ | refine ⟨_, _, rfl, sf_default (by one_item), ?_⟩ | refine ⟨_, _, rfl, sm_name (by one_item), ?_⟩ | refine ⟨_, _, rfl, sm_choice (by one_item), ?_⟩ | refine ⟨_, _, rfl, sm_gone (by one_item), ?_⟩ | refine ⟨_, _, rfl, sm_fields (by one_item), ?_⟩ | fail)
local macro_rules | `(tactic| tb_rel) => `(tactic| first
  | ((with_reducible refine (?_ : wE _ (.Subscript _ (.Constant (.str _) _ _) _) _ _ _)); refine zdat (by first | assumption | omega) ?_)
  | ((with_reducible refine (?_ : wS _ (.Assign [.Subscript _ (.Constant (.str _) _ _) _] _ _) _ _ _)); refine sdput (by first | assumption | omega) ?_)
  | ((with_reducible refine (?_ : wIx _ (.ref _) (.int _) _ _)); refine ixT (SqT.of (by one_item)) (by nest_fact) ?_)
  | ((with_reducible refine (?_ : ∃ a v, _ = V.ref a ∧ DGet _ a _ (some v) ∧ _)); leaf_len)
  | fail)
local macro_rules | `(tactic| tb_rel) => `(tactic| first
  | ((with_reducible refine (?_ : wE _ (.Subscript _ (.Slice _ _ (some _) _) _) _ _ _)); refine zrev ?_)
  | fail)
/-! ### forms the law makes -/
theorem FOs.rev {H : Hp} {vs : List V} {fds : List FD} (h : FOs K H vs fds) : FOs K H vs.reverse fds.reverse := by
  obtain ⟨zs, rfl, rfl, h3⟩ := h
  exact ⟨zs.reverse, by rw [List.map_reverse], by rw [List.map_reverse], fun z hz => h3 z (List.mem_reverse.mp hz)⟩
theorem form_fin {H H5 : Hp} {TP l a dx : Addr} {ps : Array Value} {fm : FM} {us : List V} {fds : List FD} {gv : V} {ns : List Int} {Q : VK} {E : XK} (eH : Ex H H5) (hP : H TP = some (.tbl ps)) (ha : H5 a = none) (hd : H5 dx = none) (hne : dx ≠ a) (hl : H5 l = some (.lst us) ∨ H5 l = some (.tup us)) (hz : us.length ≤ 1000)
    (hF : FOs K (nw H H5) us fds) (hp : fds.Perm fm.fields) (hT : LamX.TabS H5 TP lamQ) (hg : GoneAt H5 gv ns) (hn : ns.length < 64) (hgp : ns.Perm fm.gone) (srt : Srt fm) (mnd : (fm.fields.map (·.mark)).Nodup)
    (q : ∀ b H', H b = none → Ex (L2.del H TP) (L2.del H' TP) → LamX.TabS H' TP lamQ → RO K (nw H (L2.del H' TP)) b fm → Q (.ref b) H') :
    spFm K TP (He.ga K (fcls fm.choice)) [.ref a, .str fm.name, .ref l, gv] (upd (upd H5 dx (.own a)) a (.ins (He.ga K (fcls fm.choice)) dx [])) (fun v H2 => v = .non ∧ Q (.ref a) H2) E := by
  have hP5 := eH _ _ hP
  have tl : ∀ {xs : List V}, (H5 l = some (.lst xs) ∨ H5 l = some (.tup xs)) → (L2.del H5 TP l = some (.lst xs) ∨ L2.del H5 TP l = some (.tup xs)) := fun h => h.imp (fun z => tbl_del hP5 z fun _ y => by cases y) fun z => tbl_del hP5 z fun _ y => by cases y
  have hg' : GoneAt (L2.del H5 TP) gv ns := by
    rcases hg with h | ⟨g, h1, h2⟩
    · exact .inl h
    · exact .inr ⟨g, h1, h2.imp (fun z => tbl_del hP5 z fun _ y => by cases y) fun z => tbl_del hP5 z fun _ y => by cases y⟩
  refine form_to (Q := Q) ha hd hne (tl hl) hz (nw_del hP) hF hT hg' hn fun H' gds ms e t ro pm pw pm' pw' => ?_
  have e1 := perm_marks (pm.trans hp) pw srt.1 mnd
  have e2 := perm_ints (pm'.trans hgp) pw' srt.2
  subst e1 e2
  have eD : Ex (L2.del H TP) (L2.del H5 TP) := del_mono fun b o _ z => eH b o z
  refine q a H' (Evl.fresh_back eH ha) (eD.trans e) t (ro.to (fun x o z => ?_) fun x o h1 h2 => nw_at (Evl.fresh_back eH h1) h2)
  have z1 := nw_del hP _ _ z
  have hx : H x = none := by
    cases y : H x with
    | none => rfl
    | some o' => unfold nw at z; rw [y] at z; cases z
  exact nw_at hx (e _ _ z1)
/-- what stands in a spec's form -/
structure SmW (n : Nat) (sm : SM) : Prop where
  fd : ∀ sf ∈ sm.fields, SfW n sf
  nf : sm.fields.length ≤ 10
  ng : sm.gone.length ≤ 10
  so : sm.fields.Pairwise fun x y => x.mark ≤ y.mark
  sg : sm.gone.Pairwise (· ≤ ·)
  mnd : (sm.fields.map (·.mark)).Nodup
def spFo2 (K : PySem.W.Frag) (TP : Addr) (nms : List Str) : Sp := fun vs H Q _ => ∃ (a s : Addr) (bit : Int) (sm : SM) (us : List V) (sms : List SM), vs = [.ref a, .ref s, .int bit] ∧ SMI H a sm ∧ SmW sms.length sm ∧ H s = some (.lst us) ∧ SMs H us sms ∧ nms = names sms ∧ LamX.TabS H TP lamQ ∧
  ∀ b H', H b = none → Ex (L2.del H TP) (L2.del H' TP) → LamX.TabS H' TP lamQ → RO K (nw H (L2.del H' TP)) b (sm.fm nms) → Q (.ref b) H'
theorem ok_form_made (T : Txt K mg) (TB : LamX.TabB base mg (He.codeOf K ("by_numbers", none)) (He.tabOf K (He.codeOf K ("by_numbers", none)))) (nms : List Str) : Gf P w K mg base 7 "_law_form_made" [] (spFo2 K (He.tabOf K (He.codeOf K ("by_numbers", none))) nms) := by
  refine gf_mk T.f__law_form_made T.m__law_form_made (fun _ _ _ _ _ _ us hl => match us, hl with | [_, _, _], _ => rfl) fun fd F => fn_mk F sc__law_form_made (fun vs H Q E h => ?_) fun cd A outer s0 H vs Q E hr tk po h => ?_
  · obtain ⟨a, s, bit, sm, us, sms, rfl, _⟩ := h; rfl
  · obtain ⟨a, s, bit, sm, us, sms, rfl, hsm, wf, hs, hS, rfl, hT, q⟩ := h
    have Fc := fun c => nf_Form (P := P) (w := w) T TB c
    have Fc1 := fun c => nf_Form1 (P := P) (w := w) T TB c
    generalize hTP : He.tabOf K (He.codeOf K ("by_numbers", none)) = TP at *
    have nd := sc__law_form_made.nd
    have hu1 := Nat.lt_of_le_of_lt (Nat.add_le_add_left (show 1 ≤ 64 by decide) _) hr.units
    have n1 := T.n_list
    have n2 := T.n_tuple
    have n3 := T.n_len
    obtain ⟨ps0, hP0⟩ := tab_at hT
    obtain ⟨g, l, fs, hx, hg, hl, hF⟩ := id hsm
    have hlen := hF.len
    have hnf := wf.nf
    have hng := wf.ng
    have mnd : ((sm.fm (names sms)).fields.map (·.mark)).Nodup := by
      have : (sm.fm (names sms)).fields.map (·.mark) = sm.fields.map (·.mark) := by show (sm.fields.map _).map _ = _; rw [List.map_map]; rfl
      rw [this]; exact wf.mnd
    have srt : Srt (sm.fm (names sms)) := ⟨by show (sm.fields.map _).Pairwise _; rw [List.pairwise_map]; exact wf.so, wf.sg⟩
    refine bcut (fun σ' H' => Ex H H' ∧ ∃ L ws, H' L = some (.lst ws) ∧ FOs K (nw H H') ws (sm.fm (names sms)).fields ∧ σ' = [some (.ref a), some (.ref s), some (.int bit), some (.ref L), none, none]) ?_ ?_
    · refine slc (i := 3) (y := "_law_fields") rfl nd rfl rfl [("_law_field_here", 5)] (blkOk_by (N := N__law_form_made) (sc := defScope s__law_form_made) (by decide +kernel)) piL (sw_true rfl rfl rfl (by decide +kernel)) (tnL (xs := fs) (fun j ws H' => FOs K (nw H H') ws ((sm.fields.take j).map (SF.fd (names sms)))) (fun _ _ _ _ g e => g.ex (nw_mono e)) (fun _ => FOs.nil) ?_)
      top_name
      refine ⟨SqL.of hl, fun j x H1 L ws hx1 e1 hL hw g1 => ?_, fun L H1 ws hL e1 hw g1 => ?_⟩
      · obtain ⟨fa, sf, rfl, hj, hsf⟩ := hF.get hx1
        have hjl := (List.getElem?_eq_some_iff.mp hj).1
        top_name
        refine zcall (ok_field_made T (names sms)) hr (by decide) takesF rfl ?_
        top_name
        refine ⟨fa, s, sf, us, sms, rfl, hsf.ex e1, wf.fd sf (List.mem_of_getElem? hj), e1 _ _ hs, hS.ex e1, rfl, fun v H2 hv => ?_⟩
        obtain ⟨c, rfl, hc, e2, hfo⟩ := hv
        have gl := g1.len
        rw [List.length_map, List.length_take] at gl
        refine ⟨by rw [sizeLine_eq]; omega, e2, ?_⟩
        show FOs K _ _ ((sm.fields.take (j + 1)).map _)
        rw [take_map_succ hj]
        refine (g1.ex (nw_mono (del_mono fun b o _ z => e2 b o z))).one (hfo.ex fun x o z => ?_)
        have hxn : H1 x = none := by
          cases y : H1 x with
          | none => rfl
          | some o' => unfold nw at z; rw [y] at z; cases z
        exact nw_at (Evl.fresh_back e1 hxn) (del_at (nw_sub _ _ z) fun y => by rw [y, hw] at hxn; cases hxn)
      · rw [hlen, List.take_length] at g1
        exact ⟨e1, L, ws, hw, g1, rfl⟩
    rintro _ H1 ⟨e1, L, ws, hL, hFO, rfl⟩
    refine bcut (fun σ' H' => Ex H H' ∧ ∃ G, H' L = some (.lst ws) ∧ FOs K (nw H H') ws (sm.fm (names sms)).fields ∧ H' G = some (.lst (sm.gone.map V.int)) ∧ σ' = [some (.ref a), some (.ref s), some (.int bit), some (.ref L), some (.ref G), none]) ?_ ?_
    · have hx1 := e1 _ _ hx
      have hg1 := e1 _ _ hg
      top_name
      rename_i G H2 hG e2 hx2
      exact ⟨e1.trans e2, G, e2 _ _ hL, hFO.ex (nw_mono e2), hx2, rfl⟩
    rintro _ H2 ⟨e2, G, hL2, hFO2, hG2, rfl⟩
    have hwl := hFO2.len
    have hfl : (sm.fm (names sms)).fields.length = sm.fields.length := List.length_map ..
    refine bcut (fun σ' H' => Ex H H' ∧ ∃ (L G : Addr) (ws : List V) (fds : List FD) (ns : List Int), (H' L = some (.lst ws) ∨ H' L = some (.tup ws)) ∧ FOs K (nw H H') ws fds ∧ fds.Perm (sm.fm (names sms)).fields ∧ (H' G = some (.lst (ns.map V.int)) ∨ H' G = some (.tup (ns.map V.int))) ∧ ns.Perm sm.gone ∧ σ' = [some (.ref a), some (.ref s), some (.int bit), some (.ref L), some (.ref G), none]) ?_ ?_
    · top_name
      · refine ⟨L, ws, rfl, SqL.of hL2, fun p H3 hp e3 hx3 => ?_⟩
        top_name
        rename_i q1 H4 hq1 e4 hx4
        have hG4 := e4 _ _ (e3 _ _ hG2)
        refine ⟨G, _, rfl, SqL.of hG4, fun p2 H5 hp2 e5 hx5 => ?_⟩
        top_name
        rename_i q2 H6 hq2 e6 hx6
        have ee := ((e3.trans e4).trans e5).trans e6
        refine ⟨e2.trans ee, q1, q2, ws.reverse, _, sm.gone.reverse, .inr (e6 _ _ (e5 _ _ hx4)), (hFO2.ex (nw_mono ee)).rev, List.reverse_perm _, .inr (by rw [hx6, List.map_reverse]), List.reverse_perm _, rfl⟩
      · exact ⟨e2, L, G, ws, _, sm.gone, .inl hL2, hFO2, .refl _, .inl hG2, .refl _, rfl⟩
    rintro _ H3 ⟨e3, L3, G3, ws3, fds, ns, hL3, hF3, hp3, hG3, hgp, rfl⟩
    have hx3 := e3 _ _ hx
    have hT3 := hT.ext e3
    have hl3 := hF3.len
    have hp3l := hp3.length_eq
    have hgl := hgp.length_eq
    have hnsl : (ns.map V.int).length = ns.length := List.length_map ..
    have fin := fun {b dx : Addr} {gv : V} {ns' : List Int} (hb : H3 b = none) (hd : H3 dx = none) (hne : dx ≠ b) (hg : GoneAt H3 gv ns') (hn : ns'.length < 64) (hgp : ns'.Perm (sm.fm (names sms)).gone) =>
      form_fin (K := K) (Q := Q) (E := fun cls d H' => E cls d H') e3 hP0 hb hd hne hL3 (by omega) hF3 hp3 hT3 hg hn hgp srt mnd q
    refine bcons (sif (tcut ns.isEmpty ?_ ?_))
    · rcases hG3 with hG3 | hG3
      · top_name
        refine ⟨?_, rfl⟩
        rw [hnsl]
        cases ns with
        | nil => rfl
        | cons n ns => exact decide_eq_false (by rw [List.length_cons]; omega)
      · top_name
        refine ⟨?_, rfl⟩
        rw [hnsl]
        cases ns with
        | nil => rfl
        | cons n ns => exact decide_eq_false (by rw [List.length_cons]; omega)
    cases hns : ns.isEmpty with
    | true =>
      have hns0 : ns = [] := List.isEmpty_iff.mp hns
      subst hns0
      refine ifT ?_
      cases hc : sm.choice with
      | true =>
        have hcf : fcls (sm.fm (names sms)).choice = "Choice" := by show fcls sm.choice = _; rw [hc]; rfl
        rw [hc] at hx3
        rw [hcf] at fin
        top_name
        refine zmk (Fc1 true) hr (by decide) takesF rfl ?_
        top_name
        intro b dx hb hdx hne
        exact fin hb hdx hne (.inl ⟨rfl, rfl⟩) (by decide) hgp
      | false =>
        have hcf : fcls (sm.fm (names sms)).choice = "Record" := by show fcls sm.choice = _; rw [hc]; rfl
        rw [hc] at hx3
        rw [hcf] at fin
        top_name
        refine zmk (Fc1 false) hr (by decide) takesF rfl ?_
        top_name
        intro b dx hb hdx hne
        exact fin hb hdx hne (.inl ⟨rfl, rfl⟩) (by decide) hgp
    | false =>
      refine ifF (bnil ?_)
      cases hc : sm.choice with
      | true =>
        have hcf : fcls (sm.fm (names sms)).choice = "Choice" := by show fcls sm.choice = _; rw [hc]; rfl
        rw [hc] at hx3
        rw [hcf] at fin
        top_name
        refine zmk (Fc true) hr (by decide) takesF rfl ?_
        top_name
        intro b dx hb hdx hne
        exact fin hb hdx hne (.inr ⟨G3, rfl, hG3⟩) (by omega) hgp
      | false =>
        have hcf : fcls (sm.fm (names sms)).choice = "Record" := by show fcls sm.choice = _; rw [hc]; rfl
        rw [hc] at hx3
        rw [hcf] at fin
        top_name
        refine zmk (Fc false) hr (by decide) takesF rfl ?_
        top_name
        intro b dx hb hdx hne
        exact fin hb hdx hne (.inr ⟨G3, rfl, hG3⟩) (by omega) hgp
end

set_option maxRecDepth 100000
set_option maxHeartbeats 4000000
set_option pp.maxSteps 400
section
open PySem PySem.Spec PyProof.Rows L2 Z
open Evl (Ex)
variable {P : Program} {w : World} {K : PySem.W.Frag} {mg : Str → Option Value} {base : Heap}
local macro_rules | `(tactic| nest_fact) => `(tactic| first | exact tup0 | exact tup1 | exact rfl)
local macro_rules | `(tactic| leaf_len) => `(tactic| first | refine ⟨_, _, rfl, sf_number (by one_item), ?_⟩ | refine ⟨_, _, rfl, sf_name (by one_item), ?_⟩ | refine ⟨_, _, rfl, sf_kind (by one_item), ?_⟩ | refine ⟨_, _, rfl, sf_must (by one_item), ?_⟩ | refine ⟨_, _, rfl, sf_default (by one_item), ?_⟩ | refine ⟨_, _, rfl, sm_name (by one_item), ?_⟩ | refine ⟨_, _, rfl, sm_choice (by one_item), ?_⟩ | refine ⟨_, _, rfl, sm_gone (by one_item), ?_⟩ | refine ⟨_, _, rfl, sm_fields (by one_item), ?_⟩ | fail)
local macro_rules | `(tactic| tb_rel) => `(tactic| first
  | ((with_reducible refine (?_ : wE _ (.Subscript _ (.Constant (.str _) _ _) _) _ _ _)); refine zdat (by first | assumption | omega) ?_)
  | ((with_reducible refine (?_ : wS _ (.Assign [.Subscript _ (.Constant (.str _) _ _) _] _ _) _ _ _)); refine sdput (by first | assumption | omega) ?_)
  | ((with_reducible refine (?_ : wIx _ (.ref _) (.int _) _ _)); refine ixT (SqT.of (by one_item)) (by nest_fact) ?_)
  | ((with_reducible refine (?_ : ∃ a v, _ = V.ref a ∧ DGet _ a _ (some v) ∧ _)); leaf_len)
  | fail)
local macro_rules | `(tactic| tb_rel) => `(tactic| first
  | ((with_reducible refine (?_ : wE _ (.Call (.Attribute _ "append" _) _ _ _) _ _ _)); refine zapp ?_)
  | ((with_reducible refine (?_ : wE _ (.Call (.Attribute _ "join" _) _ _ _) _ _ _)); refine zjoin ?_)
  | ((with_reducible refine (?_ : wE _ (.Call (.Name "str" _) _ _ _) _ _ _)); refine zbty (by assumption) bt_str (by rfl) ?_)
  | fail)
/-! ### words and lines as the law tells them -/
theorem s_assoc (x y z : Str) : x ++ y ++ z = x ++ (y ++ z) := TL.ext_tl (by
  show ((x ++ y ++ z : Str)).cps.toList = ((x ++ (y ++ z) : Str)).cps.toList
  simp only [app_tl, List.append_assoc])
theorem join_one (x : Str) : Txt.join " " [x] = x := by rw [TL.join_eq]; rfl
theorem join_cons (x : Str) {ys : List Str} (h : ys ≠ []) : Txt.join " " (x :: ys) = x ++ " " ++ Txt.join " " ys := by
  cases ys with
  | nil => exact absurd rfl h
  | cons y r => rw [TL.join_eq, TL.join_eq]; rfl
theorem join_app : ∀ (xs : List Str) {ys : List Str}, xs ≠ [] → ys ≠ [] → Txt.join " " (xs ++ ys) = Txt.join " " xs ++ " " ++ Txt.join " " ys
  | [], _, h, _ => absurd rfl h
  | [x], ys, _, h => by rw [List.singleton_append, join_cons x h, join_one]
  | x :: y :: r, ys, _, h => by
    rw [List.cons_append, join_cons x (by simp), join_app (y :: r) (List.cons_ne_nil _ _) h, join_cons x (List.cons_ne_nil _ _)]
    simp only [s_assoc]
theorem words_ne (k : KD) : k.words ≠ [] := by
  obtain ⟨r, h⟩ := word_first k
  rw [h]; exact List.cons_ne_nil _ _
theorem join_small {ws : List Str} (h1 : ws.length ≤ 20) (h2 : ∀ w ∈ ws, w.length ≤ 100) : (Txt.join " " ws).length ≤ 100000 := by
  have hs := sum_le h2
  have hj := PySem.StrLaws.join_length_le " " ws
  rw [← TL.join_eq] at hj
  have : (" " : Str).length = 1 := rfl
  rw [this] at hj
  omega
theorem slice1 {x : V} {xs : List V} : ¬ (HT.sIx (x :: xs).length 0 (some 1) = 0 ∧ HT.sIx (x :: xs).length (x :: xs).length none = (x :: xs).length) := fun ⟨h, _⟩ => by
  rw [sIx_at _ _ (by decide) (by rw [List.length_cons]; omega)] at h
  cases h
def spWd (K : PySem.W.Frag) (k : LD) (nms : List Str) : Sp := fun vs H Q _ => ∃ (v : V) (s : Addr) (us : List V) (sms : List SM), vs = [v, .ref s] ∧ LKI H v k ∧ H s = some (.lst us) ∧ SMs H us sms ∧ k.In sms.length ∧ nms = names sms ∧ (k.kd nms).Ok ∧ k.dep ≤ 1 ∧ ∀ H', Ex H H' → Q (.str (Txt.join " " (k.kd nms).words)) H'
theorem ok_lwords (T : Txt K mg) (nms : List Str) : ∀ k : LD, Gf P w K mg base (2 + k.dep) "_law_words" [] (spWd K k nms) := by
  intro k
  induction k with
  | list k ih =>
    refine gf_mk T.f__law_words T.m__law_words (fun _ _ _ _ _ _ us hl => match us, hl with | [_, _], _ => rfl) fun fd F => fn_mk (k := 2 + k.dep) F sc__law_words (fun vs H Q E h => ?_) fun cd A outer s0 H vs Q E hr tk po h => ?_
    · obtain ⟨v, s, us, sms, rfl, _⟩ := h; rfl
    · obtain ⟨v, s, us, sms, rfl, hk, hs, hS, hin, rfl, hok, hdp, q⟩ := h
      have n1 := T.n_str
      have hdp : k.dep + 1 ≤ 1 := hdp
      have hok : (k.kd (names sms)).Ok := hok
      cases hk with
      | list hx hi =>
        top_name
        refine zcall ih hr (Nat.le_refl _) takesF rfl ?_
        top_name
        refine ⟨_, s, us, sms, rfl, hi, hs, hS, hin, rfl, hok, by omega, fun H1 e1 => ?_⟩
        have hl := join_small (ws := (k.kd (names sms)).words) (by have := words_len (k.kd (names sms)); rw [LD.dep_kd] at this; omega) (words_small hok)
        refine oadds (by rw [sizeLine_eq]; show 5 + _ ≤ _; omega) ?_
        have := q H1 e1
        rw [show ((LD.list k).kd (names sms)).words = ("list" : Str) :: (k.kd (names sms)).words from rfl, join_cons _ (words_ne _)] at this
        exact this
  | form i =>
    refine gf_mk T.f__law_words T.m__law_words (fun _ _ _ _ _ _ us hl => match us, hl with | [_, _], _ => rfl) fun fd F => fn_mk (k := 1) F sc__law_words (fun vs H Q E h => ?_) fun cd A outer s0 H vs Q E hr tk po h => ?_
    · obtain ⟨v, s, us, sms, rfl, _⟩ := h; rfl
    · obtain ⟨v, s, us, sms, rfl, hk, hs, hS, hin, rfl, hok, hdp, q⟩ := h
      have hu1 := Nat.lt_of_le_of_lt (Nat.add_le_add_left (show 1 ≤ 64 by decide) _) hr.units
      have n1 := T.n_str
      have hin : i < sms.length := hin
      have hok : ((names sms).getD i "").length ≤ 100 := hok
      have hlen := hS.len
      have hxi : us[i]? = some us[i] := List.getElem?_eq_getElem (by omega)
      obtain ⟨d, sm, hd0, hsm, hdi⟩ := hS.get hxi
      obtain ⟨g, l, fs, h1, _⟩ := hdi
      have hnm := name_at hsm
      cases hk with
      | form hx =>
        top_name
        refine ixL (SqL.of hs) (atI_nat (by rw [hxi, hd0])) ?_
        top_name
        refine oadds (by rw [sizeLine_eq]; rw [hnm] at hok; show 5 + _ ≤ _; omega) ?_
        have := q H (Evl.Ex.refl _)
        rw [show ((LD.form i).kd (names sms)).words = [("form" : Str), (names sms).getD i ""] from rfl, join_two, hnm] at this
        exact this
  | text n =>
    refine gf_mk T.f__law_words T.m__law_words (fun _ _ _ _ _ _ us hl => match us, hl with | [_, _], _ => rfl) fun fd F => fn_mk (k := 1) F sc__law_words (fun vs H Q E h => ?_) fun cd A outer s0 H vs Q E hr tk po h => ?_
    · obtain ⟨v, s, us, sms, rfl, _⟩ := h; rfl
    · obtain ⟨v, s, us, sms, rfl, hk, hs, hS, hin, rfl, hok, hdp, q⟩ := h
      have n1 := T.n_str
      have nd := sc__law_words.nd
      have hok : 1 ≤ n ∧ n ≤ 100 := hok
      have q : ∀ H', Ex H H' → Q (.str (Txt.join " " (KD.text n).words)) H' := q
      cases hk with
      | text hx =>
        top_name
        · rename_i h100
          have := q H (Evl.Ex.refl _)
          rw [show (KD.text n).words = [("text" : Str)] from if_pos h100, join_one] at this
          exact this
        · rename_i h100
          have hsm : ∀ m ∈ [n], m.natAbs < 2 ^ 256 := fun m hm => by rw [List.mem_singleton.mp hm]; omega
          have hx : H _ = some (.tup (.str "text" :: ([n] : List Int).map V.int)) := hx
          refine ⟨⟨_, rfl⟩, ?_⟩
          top_name
          rename_i pl G1 hpl g1 hxl
          have hx1 := g1 _ _ hx
          refine zlc rfl nd [("_law_part", 2)] (blkOk_by (N := N__law_words) (sc := defScope s__law_words) (by decide +kernel)) piT (tmT (xs := ([n] : List Int).map V.int) (fun j => (([n] : List Int).take j).map fun n => V.str (toS n)) rfl ?_)
          top_name
          refine slT (SqT.of hx1) slice1 fun p2 G2 hp2 g2 hx2 => ?_
          rw [cutV1] at hx2
          refine ⟨p2, rfl, SqT.of hx2, fun j x G3 hxj g3 => ?_, fun M G3 hM g3 hxM => ?_⟩
          · rw [List.getElem?_map] at hxj
            cases hz : ([n] : List Int)[j]? with
            | none => rw [hz] at hxj; cases hxj
            | some m =>
              rw [hz] at hxj
              obtain rfl : V.int m = x := Option.some.inj hxj
              have hm := hsm m (List.mem_of_getElem? hz)
              have hjl := (List.getElem?_eq_some_iff.mp hz).1
              have hjl1 : j < 1 := Nat.lt_of_lt_of_le hjl (by simp)
              top_name
              refine kstrI (log_small hm) ?_
              exact ⟨take_map_succ hz, by show (List.map _ _).length < _; rw [List.length_map, List.length_take, sizeLine_eq]; omega, Evl.Ex.refl _⟩
          · rw [List.length_map, List.take_length] at hxM
            refine ocatE (g3 _ _ (g2 _ _ hxl)) hxM (by rw [sizeLine_eq]; show 1 + _ ≤ _; rw [List.length_map]; show 1 + _ ≤ 16777216; simp) fun R G4 hR g4 hxR => ?_
            have := q _ (((g1.trans g2).trans g3).trans g4)
            rw [show (KD.text n).words = ("text" : Str) :: ([n] : List Int).map toS from if_neg h100] at this
            refine ⟨" ", R, ("text" : Str) :: ([n] : List Int).map toS, rfl, rfl, .inl (SqL.of (by rw [hxR]; rfl)), ?_, this⟩
            have hall : ∀ y ∈ ("text" : Str) :: ([n] : List Int).map toS, y.length ≤ 100 := fun y hy => by
              rcases List.mem_cons.mp hy with rfl | hy
              · decide
              · obtain ⟨m, hm, rfl⟩ := List.mem_map.mp hy
                have := num_len (hsm m hm)
                show (toString m : Str).length ≤ 100
                omega
            have hsum := sum_le hall
            rw [List.length_cons, List.length_map] at hsum ⊢
            have h1 : ([n] : List Int).length ≤ 1 := by simp
            show _ + (_ + 1) * 1 ≤ _
            omega
  | upto n =>
    refine gf_mk T.f__law_words T.m__law_words (fun _ _ _ _ _ _ us hl => match us, hl with | [_, _], _ => rfl) fun fd F => fn_mk (k := 1) F sc__law_words (fun vs H Q E h => ?_) fun cd A outer s0 H vs Q E hr tk po h => ?_
    · obtain ⟨v, s, us, sms, rfl, _⟩ := h; rfl
    · obtain ⟨v, s, us, sms, rfl, hk, hs, hS, hin, rfl, hok, hdp, q⟩ := h
      have n1 := T.n_str
      have nd := sc__law_words.nd
      have q : ∀ H', Ex H H' → Q (.str (Txt.join " " (("upto" : Str) :: ([n] : List Int).map toS))) H' := q
      have hok : 1 ≤ n ∧ n ≤ MOST := hok
      have hsm : ∀ m ∈ [n], m.natAbs < 2 ^ 256 := fun m hm => by rw [List.mem_singleton.mp hm]; exact most_small ⟨by omega, hok.2⟩
      cases hk with
      | upto hx =>
        have hx : H _ = some (.tup (.str "upto" :: ([n] : List Int).map V.int)) := hx
        top_name
        refine ⟨⟨_, rfl⟩, ?_⟩
        top_name
        rename_i pl G1 hpl g1 hxl
        have hx1 := g1 _ _ hx
        refine zlc rfl nd [("_law_part", 2)] (blkOk_by (N := N__law_words) (sc := defScope s__law_words) (by decide +kernel)) piT (tmT (xs := ([n] : List Int).map V.int) (fun j => (([n] : List Int).take j).map fun n => V.str (toS n)) rfl ?_)
        top_name
        refine slT (SqT.of hx1) slice1 fun p2 G2 hp2 g2 hx2 => ?_
        rw [cutV1] at hx2
        refine ⟨p2, rfl, SqT.of hx2, fun j x G3 hxj g3 => ?_, fun M G3 hM g3 hxM => ?_⟩
        · rw [List.getElem?_map] at hxj
          cases hz : ([n] : List Int)[j]? with
          | none => rw [hz] at hxj; cases hxj
          | some m =>
            rw [hz] at hxj
            obtain rfl : V.int m = x := Option.some.inj hxj
            have hm := hsm m (List.mem_of_getElem? hz)
            have hjl := (List.getElem?_eq_some_iff.mp hz).1
            have hjl1 : j < 1 := Nat.lt_of_lt_of_le hjl (by simp)
            top_name
            refine kstrI (log_small hm) ?_
            exact ⟨take_map_succ hz, by show (List.map _ _).length < _; rw [List.length_map, List.length_take, sizeLine_eq]; omega, Evl.Ex.refl _⟩
        · rw [List.length_map, List.take_length] at hxM
          refine ocatE (g3 _ _ (g2 _ _ hxl)) hxM (by rw [sizeLine_eq]; show 1 + _ ≤ _; rw [List.length_map]; show 1 + _ ≤ 16777216; simp) fun R G4 hR g4 hxR => ?_
          have := q _ (((g1.trans g2).trans g3).trans g4)
          skip
          refine ⟨" ", R, ("upto" : Str) :: ([n] : List Int).map toS, rfl, rfl, .inl (SqL.of (by rw [hxR]; rfl)), ?_, this⟩
          have hall : ∀ y ∈ ("upto" : Str) :: ([n] : List Int).map toS, y.length ≤ 100 := fun y hy => by
            rcases List.mem_cons.mp hy with rfl | hy
            · decide
            · obtain ⟨m, hm, rfl⟩ := List.mem_map.mp hy
              have := num_len (hsm m hm)
              show (toString m : Str).length ≤ 100
              omega
          have hsum := sum_le hall
          rw [List.length_cons, List.length_map] at hsum ⊢
          have h1 : ([n] : List Int).length ≤ 1 := by simp
          show _ + (_ + 1) * 1 ≤ _
          omega
  | truth =>
    refine gf_mk T.f__law_words T.m__law_words (fun _ _ _ _ _ _ us hl => match us, hl with | [_, _], _ => rfl) fun fd F => fn_mk (k := 1) F sc__law_words (fun vs H Q E h => ?_) fun cd A outer s0 H vs Q E hr tk po h => ?_
    · obtain ⟨v, s, us, sms, rfl, _⟩ := h; rfl
    · obtain ⟨v, s, us, sms, rfl, hk, hs, hS, hin, rfl, hok, hdp, q⟩ := h
      have n1 := T.n_str
      have nd := sc__law_words.nd
      have q : ∀ H', Ex H H' → Q (.str (Txt.join " " (("truth" : Str) :: ([] : List Int).map toS))) H' := q
      have hsm : ∀ m ∈ ([] : List Int), m.natAbs < 2 ^ 256 := fun m hm => nomatch hm
      cases hk with
      | truth hx =>
        have hx : H _ = some (.tup (.str "truth" :: ([] : List Int).map V.int)) := hx
        top_name
        refine ⟨⟨_, rfl⟩, ?_⟩
        top_name
        rename_i pl G1 hpl g1 hxl
        have hx1 := g1 _ _ hx
        refine zlc rfl nd [("_law_part", 2)] (blkOk_by (N := N__law_words) (sc := defScope s__law_words) (by decide +kernel)) piT (tmT (xs := ([] : List Int).map V.int) (fun j => (([] : List Int).take j).map fun n => V.str (toS n)) rfl ?_)
        top_name
        refine slT (SqT.of hx1) slice1 fun p2 G2 hp2 g2 hx2 => ?_
        rw [cutV1] at hx2
        refine ⟨p2, rfl, SqT.of hx2, fun j x G3 hxj g3 => ?_, fun M G3 hM g3 hxM => ?_⟩
        · rw [List.getElem?_map] at hxj
          cases hz : ([] : List Int)[j]? with
          | none => rw [hz] at hxj; cases hxj
          | some m =>
            rw [hz] at hxj
            obtain rfl : V.int m = x := Option.some.inj hxj
            have hm := hsm m (List.mem_of_getElem? hz)
            have hjl := (List.getElem?_eq_some_iff.mp hz).1
            have hjl1 : j < 1 := Nat.lt_of_lt_of_le hjl (by simp)
            top_name
            refine kstrI (log_small hm) ?_
            exact ⟨take_map_succ hz, by show (List.map _ _).length < _; rw [List.length_map, List.length_take, sizeLine_eq]; omega, Evl.Ex.refl _⟩
        · rw [List.length_map, List.take_length] at hxM
          refine ocatE (g3 _ _ (g2 _ _ hxl)) hxM (by rw [sizeLine_eq]; show 1 + _ ≤ _; rw [List.length_map]; show 1 + _ ≤ 16777216; simp) fun R G4 hR g4 hxR => ?_
          have := q _ (((g1.trans g2).trans g3).trans g4)
          skip
          refine ⟨" ", R, ("truth" : Str) :: ([] : List Int).map toS, rfl, rfl, .inl (SqL.of (by rw [hxR]; rfl)), ?_, this⟩
          have hall : ∀ y ∈ ("truth" : Str) :: ([] : List Int).map toS, y.length ≤ 100 := fun y hy => by
            rcases List.mem_cons.mp hy with rfl | hy
            · decide
            · obtain ⟨m, hm, rfl⟩ := List.mem_map.mp hy
              have := num_len (hsm m hm)
              show (toString m : Str).length ≤ 100
              omega
          have hsum := sum_le hall
          rw [List.length_cons, List.length_map] at hsum ⊢
          have h1 : ([] : List Int).length ≤ 1 := by simp
          show _ + (_ + 1) * 1 ≤ _
          omega
  | count =>
    refine gf_mk T.f__law_words T.m__law_words (fun _ _ _ _ _ _ us hl => match us, hl with | [_, _], _ => rfl) fun fd F => fn_mk (k := 1) F sc__law_words (fun vs H Q E h => ?_) fun cd A outer s0 H vs Q E hr tk po h => ?_
    · obtain ⟨v, s, us, sms, rfl, _⟩ := h; rfl
    · obtain ⟨v, s, us, sms, rfl, hk, hs, hS, hin, rfl, hok, hdp, q⟩ := h
      have n1 := T.n_str
      have nd := sc__law_words.nd
      have q : ∀ H', Ex H H' → Q (.str (Txt.join " " (("count" : Str) :: ([] : List Int).map toS))) H' := q
      have hsm : ∀ m ∈ ([] : List Int), m.natAbs < 2 ^ 256 := fun m hm => nomatch hm
      cases hk with
      | count hx =>
        have hx : H _ = some (.tup (.str "count" :: ([] : List Int).map V.int)) := hx
        top_name
        refine ⟨⟨_, rfl⟩, ?_⟩
        top_name
        rename_i pl G1 hpl g1 hxl
        have hx1 := g1 _ _ hx
        refine zlc rfl nd [("_law_part", 2)] (blkOk_by (N := N__law_words) (sc := defScope s__law_words) (by decide +kernel)) piT (tmT (xs := ([] : List Int).map V.int) (fun j => (([] : List Int).take j).map fun n => V.str (toS n)) rfl ?_)
        top_name
        refine slT (SqT.of hx1) slice1 fun p2 G2 hp2 g2 hx2 => ?_
        rw [cutV1] at hx2
        refine ⟨p2, rfl, SqT.of hx2, fun j x G3 hxj g3 => ?_, fun M G3 hM g3 hxM => ?_⟩
        · rw [List.getElem?_map] at hxj
          cases hz : ([] : List Int)[j]? with
          | none => rw [hz] at hxj; cases hxj
          | some m =>
            rw [hz] at hxj
            obtain rfl : V.int m = x := Option.some.inj hxj
            have hm := hsm m (List.mem_of_getElem? hz)
            have hjl := (List.getElem?_eq_some_iff.mp hz).1
            have hjl1 : j < 1 := Nat.lt_of_lt_of_le hjl (by simp)
            top_name
            refine kstrI (log_small hm) ?_
            exact ⟨take_map_succ hz, by show (List.map _ _).length < _; rw [List.length_map, List.length_take, sizeLine_eq]; omega, Evl.Ex.refl _⟩
        · rw [List.length_map, List.take_length] at hxM
          refine ocatE (g3 _ _ (g2 _ _ hxl)) hxM (by rw [sizeLine_eq]; show 1 + _ ≤ _; rw [List.length_map]; show 1 + _ ≤ 16777216; simp) fun R G4 hR g4 hxR => ?_
          have := q _ (((g1.trans g2).trans g3).trans g4)
          skip
          refine ⟨" ", R, ("count" : Str) :: ([] : List Int).map toS, rfl, rfl, .inl (SqL.of (by rw [hxR]; rfl)), ?_, this⟩
          have hall : ∀ y ∈ ("count" : Str) :: ([] : List Int).map toS, y.length ≤ 100 := fun y hy => by
            rcases List.mem_cons.mp hy with rfl | hy
            · decide
            · obtain ⟨m, hm, rfl⟩ := List.mem_map.mp hy
              have := num_len (hsm m hm)
              show (toString m : Str).length ≤ 100
              omega
          have hsum := sum_le hall
          rw [List.length_cons, List.length_map] at hsum ⊢
          have h1 : ([] : List Int).length ≤ 1 := by simp
          show _ + (_ + 1) * 1 ≤ _
          omega
  | whole =>
    refine gf_mk T.f__law_words T.m__law_words (fun _ _ _ _ _ _ us hl => match us, hl with | [_, _], _ => rfl) fun fd F => fn_mk (k := 1) F sc__law_words (fun vs H Q E h => ?_) fun cd A outer s0 H vs Q E hr tk po h => ?_
    · obtain ⟨v, s, us, sms, rfl, _⟩ := h; rfl
    · obtain ⟨v, s, us, sms, rfl, hk, hs, hS, hin, rfl, hok, hdp, q⟩ := h
      have n1 := T.n_str
      have nd := sc__law_words.nd
      have q : ∀ H', Ex H H' → Q (.str (Txt.join " " (("whole" : Str) :: ([] : List Int).map toS))) H' := q
      have hsm : ∀ m ∈ ([] : List Int), m.natAbs < 2 ^ 256 := fun m hm => nomatch hm
      cases hk with
      | whole hx =>
        have hx : H _ = some (.tup (.str "whole" :: ([] : List Int).map V.int)) := hx
        top_name
        refine ⟨⟨_, rfl⟩, ?_⟩
        top_name
        rename_i pl G1 hpl g1 hxl
        have hx1 := g1 _ _ hx
        refine zlc rfl nd [("_law_part", 2)] (blkOk_by (N := N__law_words) (sc := defScope s__law_words) (by decide +kernel)) piT (tmT (xs := ([] : List Int).map V.int) (fun j => (([] : List Int).take j).map fun n => V.str (toS n)) rfl ?_)
        top_name
        refine slT (SqT.of hx1) slice1 fun p2 G2 hp2 g2 hx2 => ?_
        rw [cutV1] at hx2
        refine ⟨p2, rfl, SqT.of hx2, fun j x G3 hxj g3 => ?_, fun M G3 hM g3 hxM => ?_⟩
        · rw [List.getElem?_map] at hxj
          cases hz : ([] : List Int)[j]? with
          | none => rw [hz] at hxj; cases hxj
          | some m =>
            rw [hz] at hxj
            obtain rfl : V.int m = x := Option.some.inj hxj
            have hm := hsm m (List.mem_of_getElem? hz)
            have hjl := (List.getElem?_eq_some_iff.mp hz).1
            have hjl1 : j < 1 := Nat.lt_of_lt_of_le hjl (by simp)
            top_name
            refine kstrI (log_small hm) ?_
            exact ⟨take_map_succ hz, by show (List.map _ _).length < _; rw [List.length_map, List.length_take, sizeLine_eq]; omega, Evl.Ex.refl _⟩
        · rw [List.length_map, List.take_length] at hxM
          refine ocatE (g3 _ _ (g2 _ _ hxl)) hxM (by rw [sizeLine_eq]; show 1 + _ ≤ _; rw [List.length_map]; show 1 + _ ≤ 16777216; simp) fun R G4 hR g4 hxR => ?_
          have := q _ (((g1.trans g2).trans g3).trans g4)
          skip
          refine ⟨" ", R, ("whole" : Str) :: ([] : List Int).map toS, rfl, rfl, .inl (SqL.of (by rw [hxR]; rfl)), ?_, this⟩
          have hall : ∀ y ∈ ("whole" : Str) :: ([] : List Int).map toS, y.length ≤ 100 := fun y hy => by
            rcases List.mem_cons.mp hy with rfl | hy
            · decide
            · obtain ⟨m, hm, rfl⟩ := List.mem_map.mp hy
              have := num_len (hsm m hm)
              show (toString m : Str).length ≤ 100
              omega
          have hsum := sum_le hall
          rw [List.length_cons, List.length_map] at hsum ⊢
          have h1 : ([] : List Int).length ≤ 1 := by simp
          show _ + (_ + 1) * 1 ≤ _
          omega
end

set_option maxRecDepth 100000
set_option maxHeartbeats 4000000
set_option pp.maxSteps 400
section
open PySem PySem.Spec PyProof.Rows L2 Z
open Evl (Ex)
/-! ### what is drawn may be a book -/
theorem wOf_zip : ∀ {ns : List Str} {ws : List Int} {j : Nat} {s : Str}, ns.Nodup → ns.length = ws.length → ns[j]? = some s → wOf (ns.zip ws) s = ws.getD j 0
  | [], _, _, _, _, _, h => by simp at h
  | n :: ns, [], _, _, _, hl, _ => by cases hl
  | n :: ns, w :: ws, 0, s, _, _, h => by
    obtain rfl : n = s := by simpa using h
    unfold wOf
    rw [List.zip_cons_cons, List.find?_cons_of_pos (p := fun p : Str × Int => decide (p.1 = n)) (by exact decide_eq_true rfl)]
    rfl
  | n :: ns, w :: ws, j + 1, s, hd, hl, h => by
    have hd := List.pairwise_cons.mp hd
    have hm : s ∈ ns := List.mem_of_getElem? (by simpa using h)
    have hne : n ≠ s := hd.1 s hm
    have ih := wOf_zip (j := j) (s := s) hd.2 (by simpa using hl) (by simpa using h)
    unfold wOf at ih ⊢
    rw [List.zip_cons_cons, List.find?_cons_of_neg (p := fun p : Str × Int => decide (p.1 = s)) (by simpa using hne)]
    rw [ih]
    rfl
theorem kd_wt {ns : List Str} {ws : List Int} {nms : List Str} (hd : ns.Nodup) (hl : ns.length = ws.length) (hn : ∀ j, j < ns.length → ns[j]? = some (nms.getD j "")) {k : LD} {a : Nat} (h : k.Good a) (ha : a ≤ ns.length) : (k.kd nms).wt (ns.zip ws) = k.wt ws := by
  cases k with
  | form j =>
    have h : j < a := h
    exact wOf_zip hd hl (hn j (by omega))
  | truth => rfl
  | count => rfl
  | whole => rfl
  | upto _ => rfl
  | text _ => rfl
  | list _ => rfl
theorem fm_wt {ns : List Str} {ws : List Int} {nms : List Str} {sm : SM} {a : Nat} {wts : List Int} (hd : ns.Nodup) (hl : ns.length = ws.length) (hn : ∀ j, j < ns.length → ns[j]? = some (nms.getD j "")) (h : SmOk a wts sm) (ha : a ≤ ns.length) : (sm.fm nms).wt (ns.zip ws) = sm.wt ws := by
  have hk : ∀ sf ∈ sm.fields, ((SF.fd nms) sf).kind.wt (ns.zip ws) = sf.kind.wt ws := fun sf hsf => kd_wt hd hl hn (h.fd sf hsf).1.ki ha
  unfold FM.wt SM.wt
  show (if sm.choice = true then 1 + minI ((sm.fields.map (SF.fd nms)).map _) else 1 + (((sm.fields.map (SF.fd nms)).filter _).map _).sum) = _
  split
  · rw [List.map_map]
    congr 2
    exact List.map_congr_left hk
  · rw [List.filter_map, List.map_map]
    congr 2
    exact List.map_congr_left fun sf hsf => hk sf (List.mem_filter.mp hsf).1
theorem wtsOf_app (fms : List FM) (fm : FM) : wtsOf (fms ++ [fm]) = wtsOf fms ++ [(fm.name, fm.wt (wtsOf fms))] := by
  unfold wtsOf
  rw [List.foldl_append]
  rfl
theorem nms_take {sms : List SM} {i j : Nat} (h : j < ((sms.take i).map (·.name)).length) : ((sms.take i).map (·.name))[j]? = some ((names sms).getD j "") := by
  rw [List.length_map, List.length_take] at h
  rw [List.getElem?_map, List.getElem?_take_of_lt (by omega)]
  have : sms[j]? = some sms[j] := List.getElem?_eq_getElem (by omega)
  rw [this, name_at this]
  rfl
theorem wts_spec {sms : List SM} (h : SpecOk sms) : ∀ i, i ≤ sms.length → wtsOf ((sms.take i).map (SM.fm (names sms))) = ((sms.take i).map (·.name)).zip (wtsL (sms.take i))
  | 0, _ => rfl
  | i + 1, hi => by
    have ih := wts_spec h i (by omega)
    have hx : sms[i]? = some sms[i] := List.getElem?_eq_getElem (by omega)
    have hl : ((sms.take i).map (·.name)).length = (wtsL (sms.take i)).length := by rw [List.length_map, wtsL_len]
    have hd : ((sms.take i).map (·.name)).Nodup := by
      rw [List.map_take]; exact List.Sublist.nodup (List.take_sublist _ _) h.nms.nd
    have hw := fm_wt (nms := names sms) hd hl (fun j hj => nms_take hj) (h.each i _ hx) (by rw [List.length_map, List.length_take]; omega)
    rw [List.take_add_one, hx]
    show wtsOf ((sms.take i ++ [sms[i]]).map _) = ((sms.take i ++ [sms[i]]).map _).zip (wtsL (sms.take i ++ [sms[i]]))
    rw [List.map_append, List.map_append, wtsL_app]
    show wtsOf (_ ++ [SM.fm (names sms) sms[i]]) = (_ ++ [sms[i].name]).zip _
    rw [wtsOf_app, List.zip_append hl, ih, hw]
    rfl
theorem minI_le {ns : List Int} {x : Int} (h : x ∈ ns) : minI ns ≤ x := by
  unfold minI
  cases e : ns.min? with
  | none => rw [List.min?_eq_none_iff] at e; rw [e] at h; cases h
  | some m => exact (List.min?_eq_some_iff.mp e).2 x h
theorem sum_le8 : ∀ {ns : List Int}, (∀ n ∈ ns, n ≤ 8) → ns.sum ≤ 8 * (ns.length : Int)
  | [], _ => by simp
  | n :: ns, h => by
    have h1 := h n List.mem_cons_self
    have h2 := sum_le8 (ns := ns) fun m hm => h m (List.mem_cons_of_mem _ hm)
    rw [List.sum_cons, List.length_cons]
    omega
theorem wt_bound {i : Nat} {ws : List Int} {sm : SM} (h : SmOk i ws sm) (hb : ∀ j, j < i → ws.getD j 0 ≤ 80 + (i : Int)) : sm.wt ws ≤ 81 + (i : Int) := by
  unfold SM.wt
  split
  · rename_i hc
    have hp := h.ch hc
    obtain ⟨sf, hsf⟩ : ∃ sf, sf ∈ sm.fields := ⟨_, List.getElem_mem hp⟩
    have := minI_le (List.mem_map.mpr ⟨sf, hsf, rfl⟩ : sf.kind.wt ws ∈ sm.fields.map (·.kind.wt ws))
    have hk := (h.fd sf hsf).1.ki
    have : sf.kind.wt ws ≤ 80 + (i : Int) := by
      cases e : sf.kind with
      | form j => rw [e] at hk; exact hb j hk
      | truth => show (1 : Int) ≤ _; omega
      | count => show (1 : Int) ≤ _; omega
      | whole => show (1 : Int) ≤ _; omega
      | upto _ => show (1 : Int) ≤ _; omega
      | text _ => show (1 : Int) ≤ _; omega
      | list _ => show (1 : Int) ≤ _; omega
    omega
  · have hl : ((sm.fields.filter (·.must)).map (·.kind.wt ws)).length ≤ 10 := by
      rw [List.length_map]
      exact Nat.le_trans (List.length_filter_le _ _) h.nf
    have := sum_le8 (ns := (sm.fields.filter (·.must)).map (·.kind.wt ws)) fun n hn => by
      obtain ⟨sf, hsf, rfl⟩ := List.mem_map.mp hn
      obtain ⟨h1, h2⟩ := List.mem_filter.mp hsf
      have hw := (h.fd sf h1).1.wt h2
      cases e : sf.kind with
      | form j => exact hw j e
      | _ => exact (by decide : (1 : Int) ≤ 8)
    omega
theorem wts_bound {sms : List SM} (h : SpecOk sms) : ∀ i, i ≤ sms.length → ∀ j, j < i → (wtsL (sms.take i)).getD j 0 ≤ 80 + (i : Int)
  | 0, _, j, hj => absurd hj (by omega)
  | i + 1, hi, j, hj => by
    have ih := wts_bound h i (by omega)
    have hx : sms[i]? = some sms[i] := List.getElem?_eq_getElem (by omega)
    rw [List.take_add_one, hx]
    show (wtsL (sms.take i ++ [sms[i]])).getD j 0 ≤ _
    rw [wtsL_app]
    have hl : (wtsL (sms.take i)).length = i := by rw [wtsL_len, List.length_take]; omega
    by_cases hji : j < i
    · have := ih j hji
      rw [List.getD_eq_getElem?_getD, List.getElem?_append_left (by omega), ← List.getD_eq_getElem?_getD]
      omega
    · have : j = i := by omega
      subst this
      rw [List.getD_eq_getElem?_getD, List.getElem?_append_right (by omega), hl, Nat.sub_self]
      show sms[j].wt (wtsL (sms.take j)) ≤ _
      have := wt_bound (h.each j _ hx) ih
      omega
theorem one_in {k : LD} {a : Nat} {nms ns : List Str} (h : k.One a) (hn : ∀ j, j < a → nms.getD j "" ∈ ns) : (k.kd nms).in_ ns := by
  have hM : MOST = 115792089237316195423570985008687907853269984665640564039457584007913129639935 := rfl
  cases k with
  | form j => exact hn j h
  | upto n => have h : 1 ≤ n ∧ n ≤ 18446744073709551616 := h; exact ⟨h.1, by omega⟩
  | text n => exact h
  | list _ => exact h.elim
  | _ => trivial
theorem good_in_ {k : LD} {a : Nat} {nms ns : List Str} (h : k.Good a) (hn : ∀ j, j < a → nms.getD j "" ∈ ns) : (k.kd nms).in_ ns := by
  cases k with
  | list k =>
    have h : k.One a := h
    have := one_in h hn
    cases k with
    | list _ => exact h.elim
    | _ => exact this
  | form j => exact one_in (k := .form j) h hn
  | upto n => exact one_in (k := .upto n) h hn
  | text n => exact one_in (k := .text n) h hn
  | _ => trivial
theorem one_ok {k : LD} {a : Nat} {nms : List Str} (h : k.One a) (hn : ∀ j, j < a → (nms.getD j "").length ≤ 100) : (k.kd nms).Ok := by
  cases k with
  | form j => exact hn j h
  | list _ => exact h.elim
  | upto n => exact plain_ok (k := .upto n) h nms
  | text n => exact h
  | _ => trivial
theorem good_ok {k : LD} {a : Nat} {nms : List Str} (h : k.Good a) (hn : ∀ j, j < a → (nms.getD j "").length ≤ 100) : (k.kd nms).Ok := by
  cases k with
  | list k => exact one_ok (k := k) h hn
  | form j => exact one_ok (k := .form j) h hn
  | upto n => exact one_ok (k := .upto n) h hn
  | text n => exact one_ok (k := .text n) h hn
  | _ => trivial
theorem spec_name {sms : List SM} (h : SpecOk sms) {j : Nat} (hj : j < sms.length) : nameB ((names sms).getD j "") = true ∧ ((names sms).getD j "").length ≤ 11 := by
  have hx : sms[j]? = some sms[j] := List.getElem?_eq_getElem hj
  rw [name_at hx]
  exact h.nms.nm _ (List.mem_map.mpr ⟨_, List.getElem_mem hj, rfl⟩)
theorem fm_ok {sms : List SM} (h : SpecOk sms) {i : Nat} {sm : SM} (hi : sms[i]? = some sm) : FmOk (wtsOf ((sms.take i).map (SM.fm (names sms)))) (sm.fm (names sms)) := by
  have hil := (List.getElem?_eq_some_iff.mp hi).1
  have ok := h.each i sm hi
  have hnm := h.nms.nm sm.name (List.mem_map.mpr ⟨sm, List.mem_of_getElem? hi, rfl⟩)
  have hmarks : (sm.fm (names sms)).fields.map (·.mark) = sm.fields.map (·.mark) := by show (sm.fields.map _).map _ = _; rw [List.map_map]; rfl
  have hnames : (sm.fm (names sms)).fields.map (·.name) = sm.fields.map (·.name) := by show (sm.fields.map _).map _ = _; rw [List.map_map]; rfl
  have hfl : (sm.fm (names sms)).fields.length = sm.fields.length := List.length_map ..
  have hws : (wtsOf ((sms.take i).map (SM.fm (names sms)))).map (·.1) = (sms.take i).map (·.name) := by
    rw [wts_names, List.map_map]; rfl
  have hn : ∀ j, j < i → (names sms).getD j "" ∈ (sms.take i).map (·.name) := fun j hj => List.mem_of_getElem? (nms_take (i := i) (by rw [List.length_map, List.length_take]; omega))
  have hn2 : ∀ j, j < i → ((names sms).getD j "").length ≤ 100 := fun j hj => by have := (spec_name h (j := j) (by omega)).2; omega
  refine ⟨hnm.1, ?_, by rw [hfl]; exact ok.nf, ok.ng, fun z => by rw [hfl]; exact ok.ch z, fun fd hfd => ?_, by rw [hnames]; exact ok.fnd, by rw [hmarks]; exact ok.mks, by rw [hmarks]; exact ok.mnd, fun fd hfd => ?_, fun fd hfd => ?_, ?_⟩
  · rw [hws]
    show sm.name ∉ _
    intro hm
    rw [List.map_take] at hm
    exact not_mem_take h.nms.nd (by rw [List.getElem?_map, hi]; rfl) hm
  · obtain ⟨sf, hsf, rfl⟩ := List.mem_map.mp hfd
    exact (ok.fd sf hsf).2.1
  · obtain ⟨sf, hsf, rfl⟩ := List.mem_map.mp hfd
    have hg := (ok.fd sf hsf).1.ki
    rw [hws]
    exact ⟨good_in_ hg hn, good_ok hg hn2, by show (sf.kind.kd _).dep ≤ 1; rw [LD.dep_kd]; exact good_dep hg⟩
  · obtain ⟨sf, hsf, rfl⟩ := List.mem_map.mp hfd
    have hs := (ok.fd sf hsf).1
    refine ⟨hs.mu, ?_⟩
    show if sf.must = true ∨ sm.choice = true ∨ (sf.kind.kd _).plain = false then sf.dflt = (sf.kind.kd _).bl else DV.suits (sf.kind.kd _) sf.dflt
    have hdf := hs.df
    rw [LD.isPlain_kd, LD.bl_kd]
    split
    · rename_i hh; rwa [if_pos hh] at hdf
    · rename_i hh
      rw [if_neg hh] at hdf
      have hp : sf.kind.isPlain = true := by
        cases z : sf.kind.isPlain with
        | true => rfl
        | false => exact absurd (.inr (.inr z)) hh
      rw [suits_kd _ hp]
      exact hdf
  · have hd : ((sms.take i).map (·.name)).Nodup := by
      rw [List.map_take]; exact List.Sublist.nodup (List.take_sublist _ _) h.nms.nd
    rw [wts_spec h i (by omega), fm_wt hd (by rw [List.length_map, wtsL_len]) (fun j hj => nms_take hj) ok (by rw [List.length_map, List.length_take]; omega)]
    have := wt_bound ok (wts_bound h i (by omega))
    have := h.hi
    omega
theorem spec_book {sms : List SM} (h : SpecOk sms) : BookOk (sms.map (SM.fm (names sms))) where
  lo := by rw [List.length_map]; exact h.lo
  hi := by rw [List.length_map]; have := h.hi; omega
  each := fun i fm hi => by
    rw [List.getElem?_map] at hi
    cases hx : sms[i]? with
    | none => rw [hx] at hi; cases hi
    | some sm =>
      rw [hx] at hi
      obtain rfl : sm.fm (names sms) = fm := Option.some.inj hi
      rw [← List.map_take]
      exact fm_ok h hx
  last := fun fm hl => by
    rw [List.getLast?_map] at hl
    cases hx : sms.getLast? with
    | none => rw [hx] at hl; cases hl
    | some sm =>
      rw [hx] at hl
      obtain rfl : sm.fm (names sms) = fm := Option.some.inj hl
      exact h.last sm hx
theorem spec_w {sms : List SM} (h : SpecOk sms) : ∀ sm ∈ sms, SmW sms.length sm := fun sm hm => by
  obtain ⟨i, hi, rfl⟩ := List.mem_iff_getElem.mp hm
  have ok := h.each i _ (List.getElem?_eq_getElem hi)
  exact ⟨fun sf hsf => ok_w (ok.fd sf hsf).1 (by omega), ok.nf, ok.ng, ok.so, ok.sg, (List.pairwise_append.mp ok.mnd).1⟩
theorem spec_srt {sms : List SM} (h : SpecOk sms) : ∀ fm ∈ sms.map (SM.fm (names sms)), Srt fm := fun fm hm => by
  obtain ⟨sm, hsm, rfl⟩ := List.mem_map.mp hm
  have := spec_w h sm hsm
  exact ⟨by show (sm.fields.map _).Pairwise _; rw [List.pairwise_map]; exact this.so, this.sg⟩
end

set_option maxRecDepth 100000
set_option maxHeartbeats 4000000
set_option pp.maxSteps 400
section
open PySem PySem.Spec PyProof.Rows L2 Z
open Evl (Ex)
variable {P : Program} {w : World} {K : PySem.W.Frag} {mg : Str → Option Value} {base : Heap}
local macro_rules | `(tactic| nest_fact) => `(tactic| first | exact tup0 | exact tup1 | exact rfl)
local macro_rules | `(tactic| leaf_len) => `(tactic| first | refine ⟨_, _, rfl, sf_number (by one_item), ?_⟩ | refine ⟨_, _, rfl, sf_name (by one_item), ?_⟩ | refine ⟨_, _, rfl, sf_kind (by one_item), ?_⟩ | refine ⟨_, _, rfl, sf_must (by one_item), ?_⟩ | refine ⟨_, _, rfl, sf_default (by one_item), ?_⟩ | refine ⟨_, _, rfl, sm_name (by one_item), ?_⟩ | refine ⟨_, _, rfl, sm_choice (by one_item), ?_⟩ | refine ⟨_, _, rfl, sm_gone (by one_item), ?_⟩ | refine ⟨_, _, rfl, sm_fields (by one_item), ?_⟩ | fail)
local macro_rules | `(tactic| tb_rel) => `(tactic| first
  | ((with_reducible refine (?_ : wE _ (.Subscript _ (.Constant (.str _) _ _) _) _ _ _)); refine zdat (by first | assumption | omega) ?_)
  | ((with_reducible refine (?_ : wS _ (.Assign [.Subscript _ (.Constant (.str _) _ _) _] _ _) _ _ _)); refine sdput (by first | assumption | omega) ?_)
  | ((with_reducible refine (?_ : wIx _ (.ref _) (.int _) _ _)); refine ixT (SqT.of (by one_item)) (by nest_fact) ?_)
  | ((with_reducible refine (?_ : ∃ a v, _ = V.ref a ∧ DGet _ a _ (some v) ∧ _)); leaf_len)
  | fail)
local macro_rules | `(tactic| tb_rel) => `(tactic| first
  | ((with_reducible refine (?_ : wE _ (.Call (.Attribute _ "append" _) _ _ _) _ _ _)); refine zapp ?_)
  | ((with_reducible refine (?_ : wE _ (.Call (.Attribute _ "join" _) _ _ _) _ _ _)); refine zjoin ?_)
  | ((with_reducible refine (?_ : wE _ (.Call (.Name "str" _) _ _ _) _ _ _)); refine zbty (by assumption) bt_str (by rfl) ?_)
  | fail)
/-! ### lines as the law tells them -/
theorem told_false {sf : SF} {nms : List Str} (h : sf.kind.isPlain = false ∨ sf.dflt = sf.kind.bl) : (sf.fd nms).told = false := by
  unfold FD.told
  show ((sf.kind.kd nms).plain && neD sf.dflt (sf.kind.kd nms).bl) = false
  rw [LD.isPlain_kd, LD.bl_kd]
  rcases h with h | h
  · rw [h]; rfl
  · rw [h, neD_self, Bool.and_false]
theorem told_true {sf : SF} {nms : List Str} (hp : sf.kind.isPlain = true) (hs : DV.suits (sf.kind.kd []) sf.dflt) (hn : sf.dflt ≠ sf.kind.bl) : (sf.fd nms).told = true := by
  unfold FD.told
  show ((sf.kind.kd nms).plain && neD sf.dflt (sf.kind.kd nms).bl) = true
  rw [LD.isPlain_kd, hp, Bool.true_and]
  cases h : neD sf.dflt (sf.kind.kd nms).bl with
  | true => rfl
  | false =>
    rw [suits_kd _ hp] at h
    exact absurd (ne_bl hs h) hn
theorem head_line (fd : FD) : Txt.join " " fd.head = toS fd.mark ++ " " ++ fd.name ++ " " ++ Txt.join " " fd.kind.words := by
  have : fd.head = toS fd.mark :: fd.name :: fd.kind.words := rfl
  rw [this, join_cons _ (List.cons_ne_nil _ _), join_cons _ (words_ne _)]
  simp only [s_assoc]
theorem head_ne (fd : FD) : fd.head ≠ [] := List.cons_ne_nil _ _
theorem line_must {fd : FD} (h : fd.must = true) : fd.line = Txt.join " " fd.head ++ " must" := by
  unfold FD.line FD.words FD.tail
  rw [if_pos h, join_app _ (head_ne fd) (List.cons_ne_nil _ _), join_one, s_assoc]
  rfl
theorem line_short {fd : FD} (h : fd.must = false) (ht : fd.told = false) : fd.line = Txt.join " " fd.head := by
  unfold FD.line FD.words FD.tail
  rw [if_neg (by rw [h]; exact Bool.false_ne_true), if_neg (by rw [ht]; exact Bool.false_ne_true), List.append_nil]
theorem line_told {fd : FD} (h : fd.must = false) (ht : fd.told = true) : fd.line = Txt.join " " fd.head ++ " = " ++ fd.dflt.word := by
  unfold FD.line FD.words FD.tail
  rw [if_neg (by rw [h]; exact Bool.false_ne_true), if_pos ht, join_app _ (head_ne fd) (List.cons_ne_nil _ _), join_two]
  have e : (" = " : Str) = " " ++ ("=" ++ " ") := by decide +kernel
  rw [e]
  simp only [s_assoc]
def spLn : List Str → Sp := fun nms vs H Q _ => ∃ (a s : Addr) (sf : SF) (us : List V) (sms : List SM), vs = [.ref a, .ref s] ∧ SFI H a sf ∧ SfW sms.length sf ∧ FdOk (sf.fd nms) ∧ H s = some (.lst us) ∧ SMs H us sms ∧ nms = names sms ∧ ∀ H', Ex H H' → Q (.str (sf.fd nms).line) H'
theorem ok_line (T : Txt K mg) (nms : List Str) : Gf P w K mg base 4 "_law_line" [] (spLn nms) := by
  refine gf_mk T.f__law_line T.m__law_line (fun _ _ _ _ _ _ us hl => match us, hl with | [_, _], _ => rfl) fun fd F => fn_mk F sc__law_line (fun vs H Q E h => ?_) fun cd A outer s0 H vs Q E hr tk po h => ?_
  · obtain ⟨a, s, sf, us, sms, rfl, _⟩ := h; rfl
  · obtain ⟨a, s, sf, us, sms, rfl, hsf, wf, ok, hs, hS, rfl, q⟩ := h
    have nd := sc__law_line.nd
    have n1 := T.n_str
    have hu1 := Nat.lt_of_le_of_lt (Nat.add_le_add_left (show 1 ≤ 64 by decide) _) hr.units
    have okm : 1 ≤ sf.mark ∧ sf.mark ≤ 200 := ok.mks
    have okn : nameB sf.name = true := ok.nm
    have okk : (sf.kind.kd (names sms)).Ok := ok.ki
    have hzl := name_len okn
    have hmn : sf.mark.natAbs < 2 ^ 256 := by omega
    have hml : (toS sf.mark).length ≤ 81 := num_len hmn
    have hhl := head_line (sf.fd (names sms))
    have hkl := join_small (ws := (sf.kind.kd (names sms)).words) (by have := words_len (sf.kind.kd (names sms)); rw [LD.dep_kd] at this; have := wf.dep; omega) (words_small okk)
    obtain ⟨kv, dv, hx, hk, hd⟩ := id hsf
    have hdp := wf.dep
    refine bcut (fun σ' H' => Ex H H' ∧ σ' = [some (.ref a), some (.ref s), some (.str (Txt.join " " (sf.kind.kd (names sms)).words)), none]) ?_ ?_
    · top_name
      refine zcall (ok_lwords T (names sms) sf.kind) hr (by omega) takesF rfl ?_
      top_name
      exact ⟨kv, s, us, sms, rfl, hk, hs, hS, wf.in_, rfl, okk, hdp, fun H1 e1 => ⟨e1, rfl⟩⟩
    rintro _ H1 ⟨e1, rfl⟩
    have hx1 := e1 _ _ hx
    generalize hkw : Txt.join " " (sf.kind.kd (names sms)).words = kw at hkl
    have hhl : Txt.join " " (sf.fd (names sms)).head = toS sf.mark ++ " " ++ sf.name ++ " " ++ kw := by rw [hhl, ← hkw]; rfl
    refine bcut (fun σ' H' => H1 = H' ∧ σ' = [some (.ref a), some (.ref s), some (.str kw), some (.str (Txt.join " " (sf.fd (names sms)).head))]) ?_ ?_
    · have l1 : (toS sf.mark ++ " ").length = (toS sf.mark).length + 1 := by rw [str_app]; rfl
      have l2 : (toS sf.mark ++ " " ++ sf.name).length = (toS sf.mark).length + 1 + sf.name.length := by rw [str_app, l1]
      have l3 : (toS sf.mark ++ " " ++ sf.name ++ " ").length = (toS sf.mark).length + 1 + sf.name.length + 1 := by rw [str_app, l2]; rfl
      top_name
      refine kstrI (log_small hmn) ?_
      top_name
      refine oadds (by rw [sizeLine_eq]; show (toS sf.mark).length + 1 ≤ _; omega) ?_
      top_name
      refine oadds (by rw [sizeLine_eq]; show (toS sf.mark ++ " ").length + _ ≤ _; omega) ?_
      top_name
      refine oadds (by rw [sizeLine_eq]; show (toS sf.mark ++ " " ++ sf.name).length + 1 ≤ _; omega) ?_
      top_name
      refine oadds (by rw [sizeLine_eq]; show (toS sf.mark ++ " " ++ sf.name ++ " ").length + _ ≤ _; omega) ?_
      refine ⟨rfl, ?_⟩
      rw [hhl]
      rfl
    rintro _ _ ⟨rfl, rfl⟩
    have hll : (Txt.join " " (sf.fd (names sms)).head).length ≤ 200000 := by
      rw [hhl, str_app, str_app, str_app, str_app]
      show _ + 1 + _ + 1 + _ ≤ _
      omega
    generalize hln : Txt.join " " (sf.fd (names sms)).head = ln at hll
    cases hmu : sf.must with
    | true =>
      rw [hmu] at hx1
      have := q H1 e1
      rw [line_must (fd := sf.fd (names sms)) hmu, hln] at this
      top_name
      refine oadds (by rw [sizeLine_eq]; show _ + 5 ≤ _; omega) ?_
      exact this
    | false =>
      rw [hmu] at hx1
      have hmu' : (sf.fd (names sms)).must = false := hmu
      refine bcons (sif (tcut false ?_ ?_))
      · top_name
        exact ⟨rfl, rfl⟩
      refine ifF (bnil ?_)
      obtain ⟨kt, kus, rfl, hkt⟩ := hk.tup
      have hkt1 := e1 _ _ hkt
      refine bcons (sif (wT.imp (Q := fun k' H' => Ex H1 H' ∧ (k' = true → (sf.fd (names sms)).told = false) ∧ (k' = false → (sf.fd (names sms)).told = true ∧ sf.kind.isPlain = true)) ?_ fun k' H2 hk' => ?_))
      · top_name
        rename_i tp H2 htp e2 hxt
        refine oinF (.inr (SqT.of hxt)) rfl rfl ?_
        rw [in_lf]
        refine ⟨_, rfl, ?_⟩
        have hx2 := e2 _ _ hx1
        refine ifb (fun hb => ?_) fun hb => ?_
        · have hp : sf.kind.isPlain = false := by simpa using hb
          exact ⟨e2, fun _ => told_false (.inl hp), fun z => (by cases z)⟩
        · have hp : sf.kind.isPlain = true := by simpa using hb
          top_name
          refine zcall (ok_blank T) hr (by decide) takesF rfl ?_
          top_name
          refine ⟨_, sf.kind, rfl, hk.ex (e1.trans e2), fun v' H3 e3 hdv => ?_⟩
          refine dv_eq hr (hd.ex ((e1.trans e2).trans e3)) (hdv.ex nw_sub) wf.bl wf.su fun bb b1 b2 => ?_
          refine ⟨_, rfl, e2.trans e3, fun z => told_false (.inr (b1 z)), fun z => ⟨told_true hp (wf.su hp) fun y => ?_, hp⟩⟩
          rw [b2 y] at z; cases z
      obtain ⟨e2, h1, h2⟩ := hk'
      have hx2 := e2 _ _ hx1
      have hkt2 := e2 _ _ hkt1
      cases k' with
      | true =>
        have := q H2 (e1.trans e2)
        rw [line_short hmu' (h1 rfl), hln] at this
        refine ifT ?_
        top_name
        exact this
      | false =>
        obtain ⟨ht, hp⟩ := h2 rfl
        have hsu := wf.su hp
        have hnb : sf.dflt ≠ sf.kind.bl := fun y => by rw [told_false (nms := names sms) (.inr y)] at ht; cases ht
        have := q H2 (e1.trans e2)
        rw [line_told hmu' ht, hln] at this
        have this : Q (.str (ln ++ " = " ++ sf.dflt.word)) H2 := this
        have hd2 := hd.ex (e1.trans e2)
        have hk2 := hk.ex (e1.trans e2)
        have l4 : (ln ++ " = ").length = ln.length + 3 := by rw [str_app]; rfl
        refine ifF (bnil ?_)
        have num : ∀ i : Int, sf.dflt = .int i → i.natAbs < 2 ^ 256 → decide (V.str sf.kind.word = .str "truth") = false → wB (cx P w K mg base N__law_line "_law_line" (defScope s__law_line) (He.fAd K ("_law_line", none)) cd A outer s0 H E) ((defBody s__law_line).drop 4) { nx := fun _ H' => Q .non H', rt := Q } [some (.ref a), some (.ref s), some (.str kw), some (.str ln)] H2 := fun i hi hs hw => by
          rw [hi] at hd2 this
          cases hd2
          refine bcons (sif (tcut false ?_ ?_))
          · top_name
            exact ⟨hw, rfl⟩
          refine ifF (bnil ?_)
          have hil := num_len hs
          top_name
          refine oadds (by rw [sizeLine_eq]; show _ + 3 ≤ _; omega) ?_
          top_name
          refine kstrI (log_small hs) ?_
          refine oadds (by rw [sizeLine_eq, l4]; show _ + 3 + (toS i).length ≤ _; show _ + 3 + (toString i : Str).length ≤ _; omega) ?_
          exact this
        cases hkk : sf.kind with
        | truth =>
          rw [hkk] at hsu hnb hkt2
          cases hdd : sf.dflt with
          | bl b =>
            rw [hdd] at this hnb
            cases b with
            | false => exact absurd rfl hnb
            | true =>
              have hkt2 : H2 kt = some (.tup (.str "truth" :: kus)) := hkt2
              top_name
              refine oadds (by rw [sizeLine_eq]; show _ + 6 ≤ _; omega) ?_
              have e6 : (" = yes" : Str) = " = " ++ "yes" := by decide +kernel
              rw [e6, ← s_assoc]
              exact this
          | _ => rw [hdd] at hsu; exact hsu.elim
        | count =>
          rw [hkk] at hsu
          cases hdd : sf.dflt with
          | int i => rw [hdd] at hsu; exact num i hdd (most_small hsu) (by rw [hkk]; rfl)
          | _ => rw [hdd] at hsu; exact hsu.elim
        | whole =>
          rw [hkk] at hsu
          cases hdd : sf.dflt with
          | int i => rw [hdd] at hsu; exact num i hdd (half_small hsu) (by rw [hkk]; rfl)
          | _ => rw [hdd] at hsu; exact hsu.elim
        | upto n =>
          rw [hkk] at hsu okk
          cases hdd : sf.dflt with
          | int i => rw [hdd] at hsu; exact num i hdd (suits_small (k := .upto n) okk hsu) (by rw [hkk]; rfl)
          | _ => rw [hdd] at hsu; exact hsu.elim
        | text n =>
          rw [hkk] at hsu okk hkt2
          cases hdd : sf.dflt with
          | str z =>
            rw [hdd] at hsu this hd2
            have hzs : z.length ≤ 100 := suits_small (k := .text n) okk hsu
            cases hd2
            have hkt2 : H2 kt = some (.tup (.str "text" :: kus)) := hkt2
            top_name
            refine oadds (by rw [sizeLine_eq]; show _ + 3 ≤ _; omega) ?_
            top_name
            refine kstrS ?_
            refine oadds (by rw [sizeLine_eq, l4]; omega) ?_
            exact this
          | _ => rw [hdd] at hsu; exact hsu.elim
        | form _ => rw [hkk] at hp; cases hp
        | list _ => rw [hkk] at hp; cases hp
end

set_option maxRecDepth 100000
set_option maxHeartbeats 4000000
set_option pp.maxSteps 400
section
open PySem PySem.Spec PyProof.Rows L2 Z
open Evl (Ex)
variable {P : Program} {w : World} {K : PySem.W.Frag} {mg : Str → Option Value} {base : Heap}
local macro_rules | `(tactic| nest_fact) => `(tactic| first | exact tup0 | exact tup1 | exact rfl)
local macro_rules | `(tactic| leaf_len) => `(tactic| first | refine ⟨_, _, rfl, sf_number (by one_item), ?_⟩ | refine ⟨_, _, rfl, sf_name (by one_item), ?_⟩ | refine ⟨_, _, rfl, sf_kind (by one_item), ?_⟩ | refine ⟨_, _, rfl, sf_must (by one_item), ?_⟩ | refine ⟨_, _, rfl, sf_default (by one_item), ?_⟩ | refine ⟨_, _, rfl, sm_name (by one_item), ?_⟩ | refine ⟨_, _, rfl, sm_choice (by one_item), ?_⟩ | refine ⟨_, _, rfl, sm_gone (by one_item), ?_⟩ | refine ⟨_, _, rfl, sm_fields (by one_item), ?_⟩ | fail)
local macro_rules | `(tactic| tb_rel) => `(tactic| first
  | ((with_reducible refine (?_ : wE _ (.Subscript _ (.Constant (.str _) _ _) _) _ _ _)); refine zdat (by first | assumption | omega) ?_)
  | ((with_reducible refine (?_ : wS _ (.Assign [.Subscript _ (.Constant (.str _) _ _) _] _ _) _ _ _)); refine sdput (by first | assumption | omega) ?_)
  | ((with_reducible refine (?_ : wIx _ (.ref _) (.int _) _ _)); refine ixT (SqT.of (by one_item)) (by nest_fact) ?_)
  | ((with_reducible refine (?_ : ∃ a v, _ = V.ref a ∧ DGet _ a _ (some v) ∧ _)); leaf_len)
  | fail)
local macro_rules | `(tactic| tb_rel) => `(tactic| first
  | ((with_reducible refine (?_ : wE _ (.Call (.Attribute _ "append" _) _ _ _) _ _ _)); refine zapp ?_)
  | ((with_reducible refine (?_ : wE _ (.Call (.Attribute _ "join" _) _ _ _) _ _ _)); refine zjoin ?_)
  | ((with_reducible refine (?_ : wE _ (.Call (.Name "str" _) _ _ _) _ _ _)); refine zbty (by assumption) bt_str (by rfl) ?_)
  | fail)
/-! ### all lines as the law tells them -/
def spLl : Sp := fun vs H Q _ => ∃ (s : Addr) (us : List V) (sms : List SM), vs = [.ref s] ∧ H s = some (.lst us) ∧ SMs H us sms ∧ SpecOk sms ∧ ∀ L H', H L = none → Ex H H' → H' L = some (.lst ((bookLines (sms.map (SM.fm (names sms)))).map V.str)) → Q (.ref L) H'
theorem ok_llines (T : Txt K mg) : Gf P w K mg base 5 "_law_lines" [] spLl := by
  refine gf_mk T.f__law_lines T.m__law_lines (fun _ _ _ _ _ _ us hl => match us, hl with | [_], _ => rfl) fun fd F => fn_mk F sc__law_lines (fun vs H Q E h => ?_) fun cd A outer s0 H vs Q E hr tk po h => ?_
  · obtain ⟨s, us, sms, rfl, _⟩ := h; rfl
  · obtain ⟨s, us, sms, rfl, hs, hS, spec, q⟩ := h
    have nd := sc__law_lines.nd
    have n1 := T.n_str
    have n4 := T.n_int
    have hu1 := Nat.lt_of_le_of_lt (Nat.add_le_add_left (show 1 ≤ 64 by decide) _) hr.units
    have bk := spec_book spec
    have hlen := hS.len
    have hhi := spec.hi
    generalize hfms : sms.map (SM.fm (names sms)) = fms at bk q
    have hfl : fms.length = sms.length := by rw [← hfms, List.length_map]
    have hll : ∀ i, (bookLines (fms.take i)).length ≤ 96 := fun i => by
      have := lines_len (fms := fms.take i) fun fm h => by
        obtain ⟨j, hj, rfl⟩ := List.mem_iff_getElem.mp (List.mem_of_mem_take h)
        exact (bk.each j _ (List.getElem?_eq_getElem hj)).nf
      rw [List.length_take] at this
      omega
    refine bcut (fun σ' H' => Ex H H' ∧ ∃ L, H L = none ∧ H' L = some (.lst []) ∧ σ' = [some (.ref s), some (.ref L), none, none, none]) ?_ ?_
    · top_name
      rename_i L H1 hL e1 hx1
      exact ⟨e1, L, hL, hx1, rfl⟩
    rintro _ H1 ⟨e1, L, hL0, hL1, rfl⟩
    refine bcut (fun σ' H' => Ex H H' ∧ ∃ L, H L = none ∧ H' L = some (.lst ((bookLines fms).map V.str)) ∧ ∃ r2 r3 r4, σ' = [some (.ref s), some (.ref L), r2, r3, r4]) ?_ ?_
    · refine lforL (xs := us) po rfl (fun i σ' H' => Ex H H' ∧ ∃ L, H L = none ∧ H' L = some (.lst ((bookLines (fms.take i)).map V.str)) ∧ ∃ r2 r3 r4, σ' = [some (.ref s), some (.ref L), r2, r3, r4]) ?_
      top_name
      refine ⟨SqL.of (e1 _ _ hs), ⟨e1, L, hL0, hL1, none, none, none, rfl⟩, fun i σ' H' _ v => SqL.of (v.1 _ _ hs), fun i x σ' H2 hxi hv => ?_, fun σ' H' hv => ?_⟩
      · obtain ⟨e2, L, hL0, hL2, r2, r3, r4, rfl⟩ := hv
        obtain ⟨a, sm, rfl, hj, hsm⟩ := hS.get hxi
        have hjf : fms[i]? = some (sm.fm (names sms)) := by rw [← hfms, List.getElem?_map, hj]; rfl
        have hil := (List.getElem?_eq_some_iff.mp hj).1
        have okf := bk.each i _ hjf
        have ok := spec.each i sm hj
        have h96 := hll i
        have hnm : nameB sm.name = true := okf.nm
        have hnl := name_len hnm
        have hnf := ok.nf
        have hng := ok.ng
        obtain ⟨g, l, fs, hx, hg, hl, hF⟩ := id hsm
        have hflen := hF.len
        have hx2 := e2 _ _ hx
        tb_rel
        refine bcut (fun σ' H' => Ex H H' ∧ H' L = some (.lst ((bookLines (fms.take i) ++ [(sm.fm (names sms)).line]).map V.str)) ∧ σ' = [some (.ref s), some (.ref L), some (.ref a), r3, r4]) ?_ ?_
        · top_name
          refine ⟨L, _, rfl, hL2, ?_⟩
          top_name
          rename_i p H3 hp e3 hx3
          have hx3' := e3 _ _ hx2
          top_name
          refine kintB ?_
          have fin : ∀ z : Str, z ++ sm.name = (sm.fm (names sms)).line → z.length ≤ 10 → wE (cx P w K mg base N__law_lines "_law_lines" (defScope s__law_lines) (He.fAd K ("_law_lines", none)) cd A outer s0 H E) (.Subscript (.Name "_law_form" ⟨0, 0, 0, 0⟩) (.Constant (.str "name") 0 ⟨0, 0, 0, 0⟩) ⟨0, 0, 0, 0⟩) [some (.ref s), some (.ref L), some (.ref a), r3, r4] H3 (fun y H4 => wO (cx P w K mg base N__law_lines "_law_lines" (defScope s__law_lines) (He.fAd K ("_law_lines", none)) cd A outer s0 H E) (binaryOp .Add) (.str z) y H4 fun v H5 => v = .str (sm.fm (names sms)).line ∧ H5 = H3) := fun z hz hzl => by
            top_name
            refine oadds (by rw [sizeLine_eq]; omega) ?_
            rw [hz]
            exact ⟨rfl, rfl⟩
          have done : ∃ xs, H3 L = some (.lst xs) ∧ xs.length < sizeLine ∧ Ex H (upd H3 L (.lst (xs ++ [.str (sm.fm (names sms)).line]))) ∧ upd H3 L (.lst (xs ++ [.str (sm.fm (names sms)).line])) L = some (.lst ((bookLines (fms.take i) ++ [(sm.fm (names sms)).line]).map V.str)) ∧ [some (V.ref s), some (.ref L), some (.ref a), r3, r4] = [some (V.ref s), some (.ref L), some (.ref a), r3, r4] := by
            refine ⟨_, e3 _ _ hL2, by rw [List.length_map, sizeLine_eq]; omega, Ex.past (e2.trans e3) hL0, ?_, rfl⟩
            rw [upd_same, List.map_append]
            rfl
          cases hc : sm.choice with
          | true =>
            refine ixL (SqL.of hx3) rfl ?_
            top_name
            refine oadds (by rw [sizeLine_eq]; show 7 + _ ≤ _; omega) ?_
            have e : ("choice " : Str) ++ sm.name = (sm.fm (names sms)).line := by
              show _ = fword sm.choice ++ " " ++ sm.name
              rw [hc]
              rfl
            rw [e]
            exact done
          | false =>
            refine ixL (SqL.of hx3) rfl ?_
            top_name
            refine oadds (by rw [sizeLine_eq]; show 7 + _ ≤ _; omega) ?_
            have e : ("record " : Str) ++ sm.name = (sm.fm (names sms)).line := by
              show _ = fword sm.choice ++ " " ++ sm.name
              rw [hc]
              rfl
            rw [e]
            exact done
        rintro _ H3 ⟨e3, hL3, rfl⟩
        have hx3 := e3 _ _ hx
        have hl3 := e3 _ _ hl
        refine bcut (fun σ' H' => Ex H H' ∧ ∃ L, H L = none ∧ H' L = some (.lst ((bookLines (fms.take i) ++ [(sm.fm (names sms)).line] ++ (sm.fm (names sms)).fields.map FD.line).map V.str)) ∧ σ' = [some (.ref s), some (.ref L), some (.ref a), r3, r4]) ?_ ?_
        · top_name
          refine zlc rfl nd [("_law_field_here", 3)] (blkOk_by (N := N__law_lines) (sc := defScope s__law_lines) (by decide +kernel)) piL (tmL (xs := fs) (fun j => ((sm.fields.take j).map fun sf => (sf.fd (names sms)).line).map V.str) rfl ?_)
          top_name
          refine ⟨SqL.of hl3, fun j x H4 hx4 e4 => ?_, fun M H4 hM e4 hxM => ?_⟩
          · obtain ⟨fa, sf, rfl, hjf2, hsf⟩ := hF.get hx4
            have hjl := (List.getElem?_eq_some_iff.mp hjf2).1
            top_name
            refine zcall (ok_line T (names sms)) hr (by decide) takesF rfl ?_
            top_name
            refine ⟨fa, s, sf, us, sms, rfl, hsf.ex (e3.trans e4), ok_w (ok.fd sf (List.mem_of_getElem? hjf2)).1 (by omega), okf.fd (List.mem_map.mpr ⟨sf, List.mem_of_getElem? hjf2, rfl⟩), e4 _ _ (e3 _ _ hs), hS.ex (e3.trans e4), rfl, fun H5 e5 => ?_⟩
            exact ⟨mapS_succ (f := fun sf : SF => (sf.fd (names sms)).line) hjf2, by show (List.map _ _).length < _; rw [List.length_map, List.length_map, List.length_take, sizeLine_eq]; omega, e5⟩
          · rw [hflen, List.take_length] at hxM
            top_name
            refine ocatE (e4 _ _ hL3) hxM (by rw [List.length_map, List.length_map, List.length_map, List.length_append, sizeLine_eq]; show _ + 1 + _ ≤ _; omega) fun N2 H5 hN2 e5 hx5 => ?_
            refine ⟨(e3.trans e4).trans e5, N2, Evl.fresh_back (e3.trans e4) hN2, ?_, rfl⟩
            rw [hx5, ← List.map_append]
            show some (HO.lst (List.map _ (_ ++ _))) = some (HO.lst (List.map _ (_ ++ (sm.fields.map _).map _)))
            rw [List.map_map]
            rfl
        rintro _ H4 ⟨e4, L4, hL04, hL4, rfl⟩
        have hx4 := e4 _ _ hx
        have hg4 := e4 _ _ hg
        have fin : ∀ {H' : Hp} {σ' : Z.St}, Ex H H' → H' L4 = some (.lst ((bookLines (fms.take i) ++ [(sm.fm (names sms)).line] ++ (sm.fm (names sms)).fields.map FD.line ++ goneLines sm.gone).map V.str)) → σ' = [some (V.ref s), some (.ref L4), some (.ref a), r3, r4] → Ex H H' ∧ ∃ L, H L = none ∧ H' L = some (.lst ((bookLines (fms.take (i + 1))).map V.str)) ∧ ∃ r2 r3 r4, σ' = [some (V.ref s), some (.ref L), r2, r3, r4] := fun e h z => by
          refine ⟨e, L4, hL04, ?_, _, _, _, z⟩
          rw [h, lines_succ hjf]
          unfold FM.lines
          simp only [List.append_assoc, List.cons_append, List.nil_append]
          rfl
        refine bcons (sif (tcutE (!sm.gone.isEmpty) ?_ fun H5 e5 => ?_))
        · top_name
          rename_i p H5 hp e5 hx5
          refine oneNil hr (SqL.of (e5 _ _ hg4)) (SqL.of hx5) ?_
          exact ⟨_, rfl, by cases sm.gone <;> rfl, e5⟩
        cases hgo : sm.gone with
        | nil =>
          refine ifF (bnil (bnil ?_))
          refine fin (e4.trans e5) ?_ rfl
          rw [e5 _ _ hL4, hgo]
          show _ = some (HO.lst (List.map V.str (_ ++ [])))
          rw [List.append_nil]
        | cons n0 ns0 =>
          have hgl : (sm.gone.map V.int).length = sm.gone.length := List.length_map ..
          have hx5 := e5 _ _ hx4
          have hL5 := e5 _ _ hL4
          have hg5 := e5 _ _ hg4
          refine ifT ?_
          top_name
          refine ⟨L4, _, rfl, hL5, ?_⟩
          top_name
          refine ⟨⟨_, rfl⟩, ?_⟩
          refine zlc rfl nd [("_law_number_here", 4)] (blkOk_by (N := N__law_lines) (sc := defScope s__law_lines) (by decide +kernel)) piL (tmL (xs := sm.gone.map V.int) (fun j => ((sm.gone.take j).map toS).map V.str) rfl ?_)
          top_name
          refine ⟨SqL.of hg5, fun j x H7 hx7 e7 => ?_, fun M H7 hM e7 hxM => ?_⟩
          · rw [List.getElem?_map] at hx7
            cases hz : sm.gone[j]? with
            | none => rw [hz] at hx7; cases hx7
            | some n =>
              rw [hz] at hx7
              obtain rfl : V.int n = x := Option.some.inj hx7
              have hnr := ok.mks n (List.mem_append_right _ (List.mem_of_getElem? hz))
              have hjl := (List.getElem?_eq_some_iff.mp hz).1
              top_name
              refine kstrI (log_small (by omega)) ?_
              exact ⟨mapS_succ (f := toS) hz, by show (List.map _ _).length < _; rw [List.length_map, List.length_map, List.length_take, sizeLine_eq]; omega, Evl.Ex.refl _⟩
          · rw [hgl, List.take_length] at hxM
            have hne : sm.gone.map toS ≠ [] := by rw [hgo]; exact List.cons_ne_nil _ _
            have hall : ∀ y ∈ sm.gone.map toS, y.length ≤ 100 := fun y hy => by
              obtain ⟨n, hn, rfl⟩ := List.mem_map.mp hy
              have hnr := ok.mks n (List.mem_append_right _ hn)
              have := num_len (n := n) (by omega)
              show (toString n : Str).length ≤ 100
              omega
            have hsum := sum_le hall
            rw [List.length_map] at hsum
            have hjl := join_small (ws := sm.gone.map toS) (by rw [List.length_map]; omega) hall
            refine ⟨" ", M, sm.gone.map toS, rfl, rfl, .inl (SqL.of hxM), ?_, ?_⟩
            · rw [List.length_map]
              show _ + _ * 1 ≤ _
              omega
            refine oadds (by rw [sizeLine_eq]; show 5 + _ ≤ _; omega) ?_
            refine ⟨_, e7 _ _ hL5, by rw [List.length_map, List.length_append, List.length_append, List.length_map, sizeLine_eq]; show _ + 1 + (sm.fields.map _).length < _; rw [List.length_map]; omega, ?_⟩
            (repeat refine bnil ?_)
            refine fin (Ex.past ((e4.trans e5).trans e7) hL04) ?_ rfl
            rw [upd_same, List.map_append (l₂ := goneLines sm.gone), goneLines_cons (by rw [hgo]; exact List.cons_ne_nil _ _)]
            have e : ("gone " : Str) ++ Txt.join " " (sm.gone.map toS) = goneLine sm.gone := by
              show _ = Txt.join " " (("gone" : Str) :: sm.gone.map toS)
              rw [join_cons _ hne]
              rfl
            rw [e]
            rfl
      · obtain ⟨e2, L, hL0, hL2, rs⟩ := hv
        refine ⟨e2, L, hL0, ?_, rs⟩
        rw [hL2, hlen, ← hfl, List.take_length]
    rintro _ H2 ⟨e2, L, hL0, hL2, r2, r3, r4, rfl⟩
    top_name
    exact q L H2 hL0 e2 hL2
end

set_option maxRecDepth 100000
set_option maxHeartbeats 4000000
set_option pp.maxSteps 400
section
open PySem PySem.Spec PyProof.Rows L2 Z
open Evl (Ex)
variable {P : Program} {w : World} {K : PySem.W.Frag} {mg : Str → Option Value} {base : Heap}
local macro_rules | `(tactic| nest_fact) => `(tactic| first | exact tup0 | exact tup1 | exact rfl)
local macro_rules | `(tactic| leaf_len) => `(tactic| first | refine ⟨_, _, rfl, sf_number (by one_item), ?_⟩ | refine ⟨_, _, rfl, sf_name (by one_item), ?_⟩ | refine ⟨_, _, rfl, sf_kind (by one_item), ?_⟩ | refine ⟨_, _, rfl, sf_must (by one_item), ?_⟩ | refine ⟨_, _, rfl, sf_default (by one_item), ?_⟩ | refine ⟨_, _, rfl, sm_name (by one_item), ?_⟩ | refine ⟨_, _, rfl, sm_choice (by one_item), ?_⟩ | refine ⟨_, _, rfl, sm_gone (by one_item), ?_⟩ | refine ⟨_, _, rfl, sm_fields (by one_item), ?_⟩ | fail)
local macro_rules | `(tactic| tb_rel) => `(tactic| first
  | ((with_reducible refine (?_ : wE _ (.Subscript _ (.Constant (.str _) _ _) _) _ _ _)); refine zdat (by first | assumption | omega) ?_)
  | ((with_reducible refine (?_ : wS _ (.Assign [.Subscript _ (.Constant (.str _) _ _) _] _ _) _ _ _)); refine sdput (by first | assumption | omega) ?_)
  | ((with_reducible refine (?_ : wIx _ (.ref _) (.int _) _ _)); refine ixT (SqT.of (by one_item)) (by nest_fact) ?_)
  | ((with_reducible refine (?_ : ∃ a v, _ = V.ref a ∧ DGet _ a _ (some v) ∧ _)); leaf_len)
  | fail)
local macro_rules | `(tactic| tb_rel) => `(tactic| first
  | ((with_reducible refine (?_ : wE _ (.Call (.Attribute _ "append" _) _ _ _) _ _ _)); refine zapp ?_)
  | ((with_reducible refine (?_ : wE _ (.Call (.Attribute _ "join" _) _ _ _) _ _ _)); refine zjoin ?_)
  | ((with_reducible refine (?_ : wE _ (.Call (.Name "str" _) _ _ _) _ _ _)); refine zbty (by assumption) bt_str (by rfl) ?_)
  | fail)
/-! ### a field, a form: the same -/
def dvP : DV → PyData
  | .bl b => .bool b
  | .int i => .int i
  | .str s => .str s
  | .none => .none
  | .list => .list []
theorem DvAt.dp {H : Hp} {v : V} {d : DV} (h : DvAt H v d) : Dp K H v (dvP d) := by
  cases h with
  | bl b => exact .bl b
  | int i => exact .int i
  | str s => exact .str s
  | none => exact .non
  | list h => exact .lst (SqL.of h) .nil
theorem eqv_told (n : Int) (s : Str) (m : Bool) (d : DV) : PyData.eqvAll [.int n, .str s, .bool m, dvP d] [.int n, .str s, .bool m, dvP d] = true := by
  cases d <;> simp [PyData.eqvAll, PyData.eqv, dvP]
theorem depth_told (n : Int) (s : Str) (m : Bool) (d : DV) : PyData.depthAll [.int n, .str s, .bool m, dvP d] ≤ 60 := by
  cases d <;> simp [PyData.depthAll, PyData.depth, dvP]
def spSf (K : PySem.W.Frag) (nms : List Str) : Sp := fun vs H Q _ => ∃ (b a s : Addr) (sf : SF) (us : List V) (sms : List SM), vs = [.ref b, .ref a, .ref s] ∧ FO K H b (sf.fd nms) ∧ SFI H a sf ∧ SfW sms.length sf ∧ FdOk (sf.fd nms) ∧ H s = some (.lst us) ∧ SMs H us sms ∧ nms = names sms ∧ ∀ H', Ex H H' → Q (.bl true) H'
theorem ok_same_field (T : Txt K mg) (nms : List Str) : Gf P w K mg base 4 "_law_same_field" [] (spSf K nms) := by
  refine gf_mk T.f__law_same_field T.m__law_same_field (fun _ _ _ _ _ _ us hl => match us, hl with | [_, _, _], _ => rfl) fun fd F => fn_mk F sc__law_same_field (fun vs H Q E h => ?_) fun cd A outer s0 H vs Q E hr tk po h => ?_
  · obtain ⟨b, a, s, sf, us, sms, rfl, _⟩ := h; rfl
  · obtain ⟨b, a, s, sf, us, sms, rfl, hfo, hsf, wf, ok, hs, hS, rfl, q⟩ := h
    have nd := sc__law_same_field.nd
    have hu1 := Nat.lt_of_le_of_lt (Nat.add_le_add_left (show 1 ≤ 64 by decide) _) hr.units
    have n1 := T.n_isinstance
    have n2 := T.n_bool
    have d1 := T.c_Field.cl
    have d2 := T.a_Field_number
    have d3 := T.a_Field_name
    have d4 := T.a_Field_kind
    have d5 := T.a_Field_must
    have d6 := T.a_Field_default
    obtain ⟨mark, nm, k, mu, d⟩ := sf
    obtain ⟨fdx, fkv, fdv, h1, h2, h3⟩ := id hfo
    obtain ⟨kv, dv, hx, hk, hd⟩ := id hsf
    have h1 : H b = some (.ins (He.ga K "Field") fdx [("number", .int mark), ("name", .str nm), ("kind", fkv), ("must", .bl mu), ("default", fdv)]) := h1
    have h2 : KI K H fkv (k.kd (names sms)) := h2
    have h3 : DvAt H fdv d := h3
    have hx : H a = some (.dK (sfD mark nm kv mu dv)) := hx
    have hk : LKI H kv k := hk
    have hd : DvAt H dv d := hd
    have hdp : k.dep ≤ 1 := wf.dep
    have hin : k.In sms.length := wf.in_
    have okk : (k.kd (names sms)).Ok := ok.ki
    refine bcut (fun σ' H' => Ex H H' ∧ ∃ t, H' t = some (.lst [.int mark, .str nm, .bl mu, fdv]) ∧ σ' = [some (.ref b), some (.ref a), some (.ref s), some (.ref t)]) ?_ ?_
    · top_name
      rename_i t H1 ht e1 hx1
      exact ⟨e1, t, hx1, rfl⟩
    rintro _ H1 ⟨e1, t, ht, rfl⟩
    have h11 := e1 _ _ h1
    have hx1 := e1 _ _ hx
    refine bcons (sif (tcutE false ?_ fun H2 e2 => ?_))
    · top_name
      rename_i t2 H2 ht2 e2 hx2
      refine oneDL hr (ds := [.int mark, .str nm, .bool mu, dvP d]) (es := [.int mark, .str nm, .bool mu, dvP d]) (.lst (SqL.of (e2 _ _ ht)) (.cons (.int _) (.cons (.str _) (.cons (.bl _) (.cons (h3.ex (e1.trans e2)).dp .nil))))) (.lst (SqL.of hx2) (.cons (.int _) (.cons (.str _) (.cons (.bl _) (.cons (hd.ex (e1.trans e2)).dp .nil))))) (Nat.le_trans (Nat.min_le_left _ _) (depth_told mark nm mu d)) ?_
      rw [eqv_told]
      have h12 := e2 _ _ h11
      top_name
      exact ⟨rfl, e2⟩
    have e02 := e1.trans e2
    have h12 := e02 _ _ h1
    have hx2 := e02 _ _ hx
    have h32 := h3.ex e02
    have hd2 := hd.ex e02
    refine ifF (bnil (bcons (sif (tcut false ?_ ?_))))
    · cases h32 with
      | bl z => cases hd2; top_name; exact ⟨rfl, rfl⟩
      | int z => cases hd2; top_name; exact ⟨rfl, rfl⟩
      | str z => cases hd2; top_name; exact ⟨rfl, rfl⟩
      | none => cases hd2; top_name; exact ⟨rfl, rfl⟩
      | list z => cases hd2 with | list z2 => top_name; exact ⟨rfl, rfl⟩
    refine ifF (bnil ?_)
    obtain ⟨ka, kdx, kfs, rfl, hka, hkl⟩ := h2.ins
    have hwl := words_len (k.kd (names sms))
    rw [LD.dep_kd] at hwl
    top_name
    refine ⟨⟨_, rfl⟩, ?_⟩
    top_name
    refine zmeth0 hr tk ?_
    top_name
    refine ⟨ka, _, kdx, kfs, 2 + (k.kd (names sms)).dep, [], _, rfl, e02 _ _ hka, hkl "words" (by decide +kernel), mf_words T _ okk (by rw [LD.dep_kd]; omega), by rw [LD.dep_kd]; omega, ka, rfl, h2.ex e02, fun t3 H3 ht3 e3 hx3 => ?_⟩
    have hx3' := e3 _ _ hx2
    have hall := words_small okk
    have hsum := sum_le hall
    refine ⟨" ", t3, _, rfl, rfl, .inl (SqL.of hx3), by show _ + _ * 1 ≤ _; omega, ?_⟩
    top_name
    refine zcall (ok_lwords T (names sms) k) hr (by omega) takesF rfl ?_
    top_name
    refine ⟨kv, s, us, sms, rfl, hk.ex (e02.trans e3), e3 _ _ (e02 _ _ hs), hS.ex (e02.trans e3), hin, rfl, okk, hdp, fun H4 e4 => ?_⟩
    refine oeqsT rfl ?_
    exact q _ ((e02.trans e3).trans e4)
theorem find_mark {fds : List FD} {j : Nat} {fd : FD} (h : fds[j]? = some fd) (nd : (fds.map (·.mark)).Nodup) : (fds.find? fun x => decide (x.mark = fd.mark)) = some fd :=
  findM_take h (decide_eq_true rfl) fun x hx => decide_eq_false fun e => not_mem_take nd (by rw [List.getElem?_map, h]; rfl) (by rw [← List.map_take]; exact List.mem_map.mpr ⟨x, hx, e⟩)
theorem find_name {fds : List FD} {j : Nat} {fd : FD} (h : fds[j]? = some fd) (nd : (fds.map (·.name)).Nodup) : (fds.find? (foundS (some fd.name))) = some fd :=
  findM_take h (decide_eq_true rfl) fun x hx => decide_eq_false fun e => not_mem_take nd (by rw [List.getElem?_map, h]; rfl) (by rw [← List.map_take]; exact List.mem_map.mpr ⟨x, hx, e⟩)
theorem in_ints (k : Int) : ∀ ns : List Int, inV (.int k) (ns.map V.int) = decide (k ∈ ns) := fun ns => by
  induction ns with
  | nil => rfl
  | cons n ns ih =>
    have e : inV (.int k) ((n :: ns).map V.int) = (eqV (.int n) (.int k) || inV (.int k) (ns.map V.int)) := rfl
    rw [e, ih]
    have e2 : eqV (.int n) (.int k) = decide (n = k) := rfl
    rw [e2]
    by_cases h1 : n = k
    · subst h1; simp
    · have : ¬ k = n := fun z => h1 z.symm
      simp [h1, this]
def zz : Str := "zzzzzzzzzzzz"
theorem zz_no {s : Str} (h : s.length ≤ 11) : s ≠ zz := fun e => by
  rw [e] at h
  exact absurd h (by decide +kernel)
def spSm (K : PySem.W.Frag) (nms : List Str) : Sp := fun vs H Q _ => ∃ (b a s : Addr) (i : Nat) (wts : List Int) (sm : SM) (us : List V) (sms : List SM), vs = [.ref b, .ref a, .ref s] ∧ RO K H b (sm.fm nms) ∧ SMI H a sm ∧ SmOk i wts sm ∧ i ≤ sms.length ∧ (∀ fd ∈ (sm.fm nms).fields, FdOk fd) ∧ H s = some (.lst us) ∧ SMs H us sms ∧ nms = names sms ∧ ∀ H', Ex H H' → Q (.bl true) H'
theorem ok_same_form (T : Txt K mg) (nms : List Str) : Gf P w K mg base 5 "_law_same_form" [] (spSm K nms) := by
  refine gf_mk T.f__law_same_form T.m__law_same_form (fun _ _ _ _ _ _ us hl => match us, hl with | [_, _, _], _ => rfl) fun fd F => fn_mk F sc__law_same_form (fun vs H Q E h => ?_) fun cd A outer s0 H vs Q E hr tk po h => ?_
  · obtain ⟨b, a, s, i, wts, sm, us, sms, rfl, _⟩ := h; rfl
  · obtain ⟨b, a, s, i, wts, sm, us, sms, rfl, hro, hsm, ok, hisms, hfok, hs, hS, rfl, q⟩ := h
    have nd := sc__law_same_form.nd
    have hu1 := Nat.lt_of_le_of_lt (Nat.add_le_add_left (show 1 ≤ 64 by decide) _) hr.units
    have n1 := T.n_isinstance
    have n2 := T.n_list
    have n3 := T.n_len
    have n4 := T.n_zip
    have d1 := T.c_Field.cl
    have d2 := T.a_Field_number
    have d3 := T.a_Field_name
    obtain ⟨c1, a1, a2, a3⟩ := clsF T sm.choice
    obtain ⟨dx, l, g, ws, h1, h2, h3, h4⟩ := id hro
    obtain ⟨lg, ll, fs, hx, hg, hl, hF⟩ := id hsm
    have h1 : H b = some (.ins (He.ga K (fcls sm.choice)) dx [("name", .str sm.name), ("fields", .ref l), ("gone", .ref g)]) := h1
    have hwl : ws.length = sm.fields.length := by have := h3.len; rw [this]; exact List.length_map ..
    have hfl := hF.len
    have hnf := ok.nf
    have hflds : (sm.fm (names sms)).fields = sm.fields.map (SF.fd (names sms)) := rfl
    have hmn : ((sm.fm (names sms)).fields.map (·.mark)).Nodup := by
      have : (sm.fm (names sms)).fields.map (·.mark) = sm.fields.map (·.mark) := by show (sm.fields.map _).map _ = _; rw [List.map_map]; rfl
      rw [this]; exact (List.pairwise_append.mp ok.mnd).1
    have hnn : ((sm.fm (names sms)).fields.map (·.name)).Nodup := by
      have : (sm.fm (names sms)).fields.map (·.name) = sm.fields.map (·.name) := by show (sm.fields.map _).map _ = _; rw [List.map_map]; rfl
      rw [this]; exact ok.fnd
    refine bcons (sif (tcut false ?_ ?_))
    · top_name
      · rename_i hq; exact absurd rfl hq
      refine zmeth0 hr tk ?_
      top_name
      refine ⟨b, _, dx, _, 1, [], _, rfl, h1, rfl, mf_choice T sm.choice, by decide, b, rfl, ?_⟩
      top_name
      · rename_i hq; exact absurd rfl hq
      exact same_ne hr (SqL.of h4) (SqL.of hg) ⟨_, rfl, rfl, rfl⟩
    refine ifF (bnil (bcons (sif (tcut false ?_ ?_))))
    · top_name
      rw [decide_eq_true (by omega)]
      exact ⟨rfl, rfl⟩
    refine ifF (bnil ?_)
    refine bcut (fun σ' H' => Ex H H' ∧ ∃ r3 r4, σ' = [some (.ref b), some (.ref a), some (.ref s), r3, r4, none, none, none, none]) ?_ ?_
    · refine lforZip n4 po rfl rfl ?_
      top_name
      refine ⟨l, ll, ws, fs, rfl, ⟨SqL.of h2, SqL.of hl, by omega⟩, fun j σ' H' => Ex H H' ∧ ∃ r3 r4, σ' = [some (.ref b), some (.ref a), some (.ref s), r3, r4, none, none, none, none], ⟨Ex.refl _, none, none, rfl⟩, fun j σ' H' _ v => ⟨SqL.of (v.1 _ _ h2), SqL.of (v.1 _ _ hl)⟩, fun j x y σ' H1 TT H2 hxj hyj hv hTT e12 hT2 => ?_, fun σ' H' hv => hv⟩
      obtain ⟨e1, r3, r4, rfl⟩ := hv
      obtain ⟨fb, fd, rfl, hj, hfo⟩ := h3.get hxj
      obtain ⟨fa, sf, rfl, hj2, hsf⟩ := hF.get hyj
      have hfd : fd = sf.fd (names sms) := by
        rw [hflds, List.getElem?_map, hj2] at hj
        exact (Option.some.inj hj).symm
      subst hfd
      have e02 := e1.trans e12
      have h12 := e02 _ _ h1
      obtain ⟨skv, sdv, hfx, hfk, hfd⟩ := hsf.ex e02
      top_name
      refine zcall (ok_same_field T (names sms)) hr (by decide) takesF rfl ?_
      top_name
      refine ⟨fb, fa, s, sf, us, sms, rfl, hfo.ex e02, hsf.ex e02, ok_w (ok.fd sf (List.mem_of_getElem? hj2)).1 hisms, hfok _ (List.mem_of_getElem? hj), e02 _ _ hs, hS.ex e02, rfl, fun H3 e3 => ?_⟩
      have hfx3 := e3 _ _ hfx
      have h13 := e3 _ _ h12
      have hro3 := hro.ex (e02.trans e3)
      top_name
      refine zmeth hr takesF ?_
      top_name
      refine ⟨b, _, dx, _, 1, [], _, rfl, h13, rfl, mf_at T sm.choice, by decide, ?_⟩
      top_name
      refine ⟨b, sf.mark, _, rfl, hro3, ?_⟩
      have hfm := find_mark hj hmn
      have hfm : ((sm.fm (names sms)).fields.find? fun x => decide (x.mark = sf.mark)) = some (sf.fd (names sms)) := hfm
      unfold Found
      rw [hfm]
      intro b2 hfo2
      obtain ⟨gx, gkv, gdv, hg1, _, _⟩ := hfo2
      have hg1 : H3 b2 = some (.ins (He.ga K "Field") gx [("number", .int sf.mark), ("name", .str sf.name), ("kind", gkv), ("must", .bl sf.must), ("default", gdv)]) := hg1
      top_name
      · rename_i hq; exact absurd rfl hq
      refine zmeth hr takesF ?_
      top_name
      refine ⟨b, _, dx, _, 1, [], _, rfl, h13, rfl, mf_of T sm.choice, by decide, ?_⟩
      top_name
      have hsl := (ok.fd sf (List.mem_of_getElem? hj2)).2.2
      refine ⟨b, _, some sf.name, _, rfl, .str _ (by omega), hro3, ?_⟩
      have hfn := find_name hj hnn
      have hfn : ((sm.fm (names sms)).fields.find? (foundS (some sf.name))) = some (sf.fd (names sms)) := hfn
      unfold Found
      rw [hfn]
      intro b3 hfo3
      obtain ⟨gx3, gkv3, gdv3, hg3, _, _⟩ := hfo3
      have hg3 : H3 b3 = some (.ins (He.ga K "Field") gx3 [("number", .int sf.mark), ("name", .str sf.name), ("kind", gkv3), ("must", .bl sf.must), ("default", gdv3)]) := hg3
      top_name
      · rename_i hq; exact absurd rfl hq
      · exact ⟨e02.trans e3, _, _, rfl⟩
    rintro _ H1 ⟨e1, r3, r4, rfl⟩
    have hx1 := e1 _ _ hx
    have h11 := e1 _ _ h1
    have hl1 := e1 _ _ hl
    refine bcut (fun σ' H' => Ex H H' ∧ ∃ M, H' M = some (.lst ((sm.fields.map (·.mark)).map V.int)) ∧ σ' = [some (.ref b), some (.ref a), some (.ref s), r3, r4, some (.ref M), none, none, none]) ?_ ?_
    · top_name
      refine zlc rfl nd [("_law_field_here", 3)] (blkOk_by (N := N__law_same_form) (sc := defScope s__law_same_form) (by decide +kernel)) piL (tmL (xs := fs) (fun j => ((sm.fields.take j).map (·.mark)).map V.int) rfl ?_)
      top_name
      refine ⟨SqL.of hl1, fun j x H2 hx2 e2 => ?_, fun M H2 hM e2 hxM => ?_⟩
      · obtain ⟨fa, sf, rfl, hj, hsf⟩ := hF.get hx2
        have hjl := (List.getElem?_eq_some_iff.mp hj).1
        obtain ⟨skv, sdv, hfx, _, _⟩ := hsf.ex (e1.trans e2)
        top_name
        exact ⟨mapI_succ hj, by show (List.map _ _).length < _; rw [List.length_map, List.length_map, List.length_take, sizeLine_eq]; omega, Evl.Ex.refl _⟩
      · rw [hfl, List.take_length] at hxM
        exact ⟨e1.trans e2, M, hxM, rfl⟩
    rintro _ H2 ⟨e2, M, hM, rfl⟩
    refine bcut (fun σ' H' => Ex H H' ∧ ∃ (O : Addr) (os : List Int), H' O = some (.lst (os.map V.int)) ∧ (∀ k ∈ os, k ∉ sm.fields.map (·.mark)) ∧ os.length ≤ 5 ∧ σ' = [some (.ref b), some (.ref a), some (.ref s), r3, r4, some (.ref M), some (.ref O), none, none]) ?_ ?_
    · refine slc (i := 6) (y := "_law_others") rfl nd rfl rfl [("_law_k", 7)] (blkOk_by (N := N__law_same_form) (sc := defScope s__law_same_form) (by decide +kernel)) piT (sw_true rfl rfl rfl (by decide +kernel)) (tmT (xs := ([0, 1, 77, 200, 201] : List Int).map V.int) (fun j => (((([0, 1, 77, 200, 201] : List Int).take j).filter fun k => !decide (k ∈ sm.fields.map (·.mark))).map fun k => k).map V.int) rfl ?_)
      top_name
      rename_i tp H3 htp e3 hxt
      refine ⟨SqT.of hxt, fun j x H4 hx4 e4 => ?_, fun O H4 hO e4 hxO => ?_⟩
      · rw [List.getElem?_map] at hx4
        cases hz : ([0, 1, 77, 200, 201] : List Int)[j]? with
        | none => rw [hz] at hx4; cases hx4
        | some k =>
          rw [hz] at hx4
          obtain rfl : V.int k = x := Option.some.inj hx4
          have hjl : j < 5 := (List.getElem?_eq_some_iff.mp hz).1
          have hM4 := e4 _ _ (e3 _ _ hM)
          top_name
          refine oninF (.inl (SqL.of hM4)) rfl (flat_ints _) ?_
          rw [in_ints]
          refine ⟨_, rfl, ?_⟩
          refine ifb (fun hb => ?_) fun hb => ?_
          · top_name
            refine ⟨filtI_succ (f := fun k : Int => k) hz hb, ?_, Evl.Ex.refl _⟩
            have := List.length_filter_le (fun k => !decide (k ∈ sm.fields.map (·.mark))) (([0, 1, 77, 200, 201] : List Int).take j)
            rw [List.length_take] at this
            show (List.map _ (List.map _ (List.filter _ _))).length < _
            rw [List.length_map, List.length_map, sizeLine_eq]
            omega
          · exact ⟨filtI_no (f := fun k : Int => k) hz hb, Evl.Ex.refl _⟩
      · refine ⟨(e2.trans e3).trans e4, O, _, hxO, fun k hk => ?_, ?_, rfl⟩
        · obtain ⟨k', hk', rfl⟩ := List.mem_map.mp hk
          have := (List.mem_filter.mp hk').2
          simpa using this
        · rw [List.length_map]
          exact Nat.le_trans (List.length_filter_le _ _) (by rw [List.length_take]; exact Nat.min_le_right _ _)
    rintro _ H3 ⟨e3, O, os, hO, hno, hol, rfl⟩
    refine bcons (sif (tcutE false ?_ fun H4 e4 => ?_))
    · top_name
      refine zlc rfl nd [("_law_k", 7)] (blkOk_by (N := N__law_same_form) (sc := defScope s__law_same_form) (by decide +kernel)) piL (tmL (xs := os.map V.int) (fun j => []) rfl ?_)
      top_name
      refine ⟨SqL.of hO, fun j x H5 hx5 e5 => ?_, fun N2 H5 hN2 e5 hxN => ?_⟩
      · rw [List.getElem?_map] at hx5
        cases hz : os[j]? with
        | none => rw [hz] at hx5; cases hx5
        | some k =>
          rw [hz] at hx5
          obtain rfl : V.int k = x := Option.some.inj hx5
          have hkn := hno k (List.mem_of_getElem? hz)
          have h15 := e5 _ _ (e3 _ _ h1)
          top_name
          refine zmeth hr takesF ?_
          top_name
          refine ⟨b, _, dx, _, 1, [], _, rfl, h15, rfl, mf_at T sm.choice, by decide, ?_⟩
          top_name
          refine ⟨b, k, _, rfl, hro.ex (e3.trans e5), ?_⟩
          have hnf : ((sm.fm (names sms)).fields.find? fun x => decide (x.mark = k)) = none := findM_none fun x hx => decide_eq_false fun e => hkn (by
            rw [hflds] at hx
            obtain ⟨sf, hsf, rfl⟩ := List.mem_map.mp hx
            exact List.mem_map.mpr ⟨sf, hsf, e⟩)
          unfold Found
          rw [hnf]
          top_name
          exact ⟨rfl, Evl.Ex.refl _⟩
      · top_name
        rename_i p2 H6 hp2 e6 hx6
        refine oneNil hr (SqL.of (e6 _ _ hxN)) (SqL.of hx6) ?_
        exact ⟨_, rfl, rfl, e5.trans e6⟩
    refine ifF (bnil ?_)
    have e04 := e3.trans e4
    top_name
    refine zlc rfl nd [("_law_name", 8)] (blkOk_by (N := N__law_same_form) (sc := defScope s__law_same_form) (by decide +kernel)) piT (tmT (xs := [.str zz, .non, .int 5]) (fun j => []) rfl ?_)
    top_name
    rename_i tp H5 htp e5 hxt
    refine ⟨SqT.of hxt, fun j x H6 hx6 e6 => ?_, fun N2 H6 hN2 e6 hxN => ?_⟩
    · have h16 := e6 _ _ (e5 _ _ (e04 _ _ h1))
      have hro6 := hro.ex ((e04.trans e5).trans e6)
      have hm := List.mem_of_getElem? hx6
      have ho : ∃ o, TxtOr K H6 x o ∧ ∀ fd ∈ (sm.fm (names sms)).fields, foundS o fd = false := by
        simp only [List.mem_cons, List.not_mem_nil, or_false] at hm
        rcases hm with rfl | rfl | rfl
        · refine ⟨some zz, .str _ (by decide +kernel), fun fd hfd => ?_⟩
          rw [hflds] at hfd
          obtain ⟨sf, hsf, rfl⟩ := List.mem_map.mp hfd
          exact decide_eq_false (zz_no (ok.fd sf hsf).2.2)
        · exact ⟨none, .odd (.base .non) (kit_ty rfl), fun _ _ => rfl⟩
        · exact ⟨none, .odd (.base (.int _)) (kit_ty rfl), fun _ _ => rfl⟩
      obtain ⟨o, ho1, ho2⟩ := ho
      top_name
      refine zmeth hr takesF ?_
      top_name
      refine ⟨b, _, dx, _, 1, [], _, rfl, h16, rfl, mf_of T sm.choice, by decide, ?_⟩
      top_name
      refine ⟨b, x, o, _, rfl, ho1, hro6, ?_⟩
      unfold Found
      rw [findM_none ho2]
      top_name
      exact ⟨rfl, Evl.Ex.refl _⟩
    · top_name
      rename_i p2 H7 hp2 e7 hx7
      refine oeqNil hr (SqL.of (e7 _ _ hxN)) (SqL.of hx7) ?_
      exact q _ (((e04.trans e5).trans e6).trans e7)
end

set_option maxRecDepth 100000
set_option maxHeartbeats 4000000
set_option pp.maxSteps 400
section
open PySem PySem.Spec PyProof.Rows L2 Z
open Evl (Ex)
variable {P : Program} {w : World} {K : PySem.W.Frag} {mg : Str → Option Value} {base : Heap}
local macro_rules | `(tactic| nest_fact) => `(tactic| first | exact tup0 | exact tup1 | exact rfl)
local macro_rules | `(tactic| leaf_len) => `(tactic| first | refine ⟨_, _, rfl, sf_number (by one_item), ?_⟩ | refine ⟨_, _, rfl, sf_name (by one_item), ?_⟩ | refine ⟨_, _, rfl, sf_kind (by one_item), ?_⟩ | refine ⟨_, _, rfl, sf_must (by one_item), ?_⟩ | refine ⟨_, _, rfl, sf_default (by one_item), ?_⟩ | refine ⟨_, _, rfl, sm_name (by one_item), ?_⟩ | refine ⟨_, _, rfl, sm_choice (by one_item), ?_⟩ | refine ⟨_, _, rfl, sm_gone (by one_item), ?_⟩ | refine ⟨_, _, rfl, sm_fields (by one_item), ?_⟩ | fail)
local macro_rules | `(tactic| tb_rel) => `(tactic| first
  | ((with_reducible refine (?_ : wE _ (.Subscript _ (.Constant (.str _) _ _) _) _ _ _)); refine zdat (by first | assumption | omega) ?_)
  | ((with_reducible refine (?_ : wS _ (.Assign [.Subscript _ (.Constant (.str _) _ _) _] _ _) _ _ _)); refine sdput (by first | assumption | omega) ?_)
  | ((with_reducible refine (?_ : wIx _ (.ref _) (.int _) _ _)); refine ixT (SqT.of (by one_item)) (by nest_fact) ?_)
  | ((with_reducible refine (?_ : ∃ a v, _ = V.ref a ∧ DGet _ a _ (some v) ∧ _)); leaf_len)
  | fail)
local macro_rules | `(tactic| tb_rel) => `(tactic| first
  | ((with_reducible refine (?_ : wE _ (.Call (.Attribute _ "append" _) _ _ _) _ _ _)); refine zapp ?_)
  | ((with_reducible refine (?_ : wE _ (.Call (.Attribute _ "join" _) _ _ _) _ _ _)); refine zjoin ?_)
  | ((with_reducible refine (?_ : wE _ (.Call (.Name "str" _) _ _ _) _ _ _)); refine zbty (by assumption) bt_str (by rfl) ?_)
  | fail)
/-! ### a book: the same -/
theorem tmTe {X : Cx} {σ : Z.St} {H : Hp} {elt tg l : Expr} {ifs : List Expr} {scope : Scope} {Q : VK} {vs : List Nat}
    (h : wE X l σ H fun x H1 => ∃ (r : Addr) (xs : List V), x = .ref r ∧ (SqT X.K H1 r xs ∧ True) ∧ ∃ acc : Nat → List V, acc 0 = [] ∧ (∀ j x H', xs[j]? = some x → Ex H1 H' → turnA X scope tg ifs elt vs acc j x σ H') ∧ ∀ L H', H1 L = none → Ex H1 H' → H' L = some (.lst (acc xs.length)) → Q (.ref L) H') :
    tLc (iTup X.K (wE X l)) (bG X scope tg) (bTs X scope ifs) (bE X scope elt) vs σ H Q :=
  ⟨fun pins s I => thn (h.run pins s I) fun u s1 ⟨x, H1, I1, r, p, xs, ex, ⟨hq, _⟩, acc, h0, q2, q3⟩ => ⟨x, H1, I1, r, p, ex, ⟨xs, hq⟩, fun L hL =>
    lc_tup (fun j H' => Ex H1 H' ∧ H' L = some (.lst (acc j))) ⟨Ex.new hL, by rw [h0]; exact upd_same⟩ (fun i H' _ z => Evl.ex_t z.1 hq) (fun i x H' hx hP => turn_of hL hP.1 hP.2 (q2 i x H' hx hP.1)) fun H' z => q3 L H' hL z.1 z.2⟩⟩
theorem wtsL_get (sms : List SM) (i : Nat) (sm : SM) (h : sms[i]? = some sm) : ∀ n, i < n → (wtsL (sms.take n)).getD i 0 = sm.wt (wtsL (sms.take i))
  | 0, hn => absurd hn (by omega)
  | n + 1, hn => by
    have hil := (List.getElem?_eq_some_iff.mp h).1
    cases hx : sms[n]? with
    | none =>
      rw [List.take_add_one, hx]
      have hle : sms.length ≤ n := by
        rcases Nat.lt_or_ge n sms.length with z | z
        · rw [List.getElem?_eq_getElem z] at hx; cases hx
        · exact z
      show (wtsL (sms.take n ++ [])).getD i 0 = _
      rw [List.append_nil]
      exact wtsL_get sms i sm h n (by omega)
    | some sm' =>
      rw [List.take_add_one, hx]
      show (wtsL (sms.take n ++ [sm'])).getD i 0 = _
      rw [wtsL_app]
      have hnl := (List.getElem?_eq_some_iff.mp hx).1
      have hl : (wtsL (sms.take n)).length = n := by rw [wtsL_len, List.length_take]; omega
      by_cases hin : i < n
      · rw [List.getD_eq_getElem?_getD, List.getElem?_append_left (by omega), ← List.getD_eq_getElem?_getD]
        exact wtsL_get sms i sm h n hin
      · have : i = n := by omega
        subst this
        rw [hx] at h
        obtain rfl : sm' = sm := Option.some.inj h
        rw [List.getD_eq_getElem?_getD, List.getElem?_append_right (by omega), hl, Nat.sub_self]
        rfl
theorem wt_same {sms : List SM} (spec : SpecOk sms) {i : Nat} {sm : SM} (h : sms[i]? = some sm) : wOf (wtsOf (sms.map (SM.fm (names sms)))) sm.name = sm.wt (wtsL (sms.take i)) := by
  have e := wts_spec spec sms.length (Nat.le_refl _)
  rw [List.take_length] at e
  rw [e, wOf_zip spec.nms.nd (by rw [List.length_map, wtsL_len]) (by rw [List.getElem?_map, h]; rfl)]
  have := wtsL_get sms i sm h sms.length (List.getElem?_eq_some_iff.mp h).1
  rwa [List.take_length] at this
theorem findM_name {fms : List FM} {j : Nat} {fm : FM} (h : fms[j]? = some fm) (nd : (fms.map (·.name)).Nodup) : (fms.find? (foundM (some fm.name))) = some fm :=
  findM_take h (decide_eq_true rfl) fun x hx => decide_eq_false fun e => not_mem_take nd (by rw [List.getElem?_map, h]; rfl) (by rw [← List.map_take]; exact List.mem_map.mpr ⟨x, hx, e⟩)
def spSb (K : PySem.W.Frag) : Sp := fun vs H Q _ => ∃ (b s : Addr) (us : List V) (sms : List SM), vs = [.ref b, .ref s] ∧ BO K H b (sms.map (SM.fm (names sms))) ∧ H s = some (.lst us) ∧ SMs H us sms ∧ SpecOk sms ∧ ∀ H', Ex H H' → Q (.bl true) H'
theorem ok_same (T : Txt K mg) : Gf P w K mg base 6 "_law_same" [] (spSb K) := by
  refine gf_mk T.f__law_same T.m__law_same (fun _ _ _ _ _ _ us hl => match us, hl with | [_, _], _ => rfl) fun fd F => fn_mk F sc__law_same (fun vs H Q E h => ?_) fun cd A outer s0 H vs Q E hr tk po h => ?_
  · obtain ⟨b, s, us, sms, rfl, _⟩ := h; rfl
  · obtain ⟨b, s, us, sms, rfl, hbo, hs, hS, spec, q⟩ := h
    have nd := sc__law_same.nd
    have hu1 := Nat.lt_of_le_of_lt (Nat.add_le_add_left (show 1 ≤ 64 by decide) _) hr.units
    have n3 := T.n_len
    have n4 := T.n_zip
    have c1 := T.c_Book.cl
    have a1 := T.a_Book_forms
    have bk := spec_book spec
    have hw := spec_w spec
    obtain ⟨dx, l, d, ws, hx, hl, hR, hd⟩ := id hbo
    have hx : H b = some (.ins (He.ga K "Book") dx [("forms", .ref l), ("weights", .ref d)]) := hx
    have hwl : ws.length = sms.length := by rw [hR.len, List.length_map]
    have hul := hS.len
    have hlo := spec.lo
    have hhi := spec.hi
    have hnd : ((sms.map (SM.fm (names sms))).map (·.name)).Nodup := by
      have : (sms.map (SM.fm (names sms))).map (·.name) = sms.map (·.name) := by rw [List.map_map]; rfl
      rw [this]; exact spec.nms.nd
    obtain ⟨sl, hsl⟩ : ∃ sm, sms.getLast? = some sm := by
      cases z : sms.getLast? with
      | none => rw [List.getLast?_eq_none_iff] at z; rw [z] at hlo; exact absurd hlo (by decide)
      | some sm => exact ⟨sm, rfl⟩
    have hfl : (sms.map (SM.fm (names sms))).getLast? = some (sl.fm (names sms)) := by rw [List.getLast?_map, hsl]; rfl
    obtain ⟨la, hla, hlx⟩ : ∃ la, us.getLast? = some (.ref la) ∧ SMI H la sl := by
      obtain ⟨zs, rfl, rfl, h3⟩ := id hS
      rw [List.getLast?_map] at hsl ⊢
      cases z : zs.getLast? with
      | none => rw [z] at hsl; cases hsl
      | some y =>
        rw [z] at hsl
        have : y.2 = sl := Option.some.inj hsl
        exact ⟨y.1, rfl, by rw [← this]; exact h3 y (List.mem_of_getLast? z)⟩
    refine bcons (sif (tcut false ?_ ?_))
    · top_name
      · rename_i hq; exact absurd (by omega) hq
      refine zmeth0 hr tk ?_
      top_name
      refine ⟨b, _, dx, _, 1, [], _, rfl, hx, rfl, mf_head T, by decide, b, _, _, rfl, hbo, hfl, fun hb hro => ?_⟩
      obtain ⟨hdx, hl', hg', hws', k1, k2, k3, k4⟩ := hro
      obtain ⟨f1, b1, b2, b3⟩ := clsF T sl.choice
      have k1 : H hb = some (.ins (He.ga K (fcls sl.choice)) hdx [("name", .str sl.name), ("fields", .ref hl'), ("gone", .ref hg')]) := k1
      obtain ⟨lg, ll, lfs, m1, _⟩ := hlx
      top_name
      refine ixL (SqL.of hs) (atI_last hla) ?_
      top_name
      refine ⟨?_, rfl⟩
      rw [decide_eq_true rfl]
      rfl
    refine ifF (bnil ?_)
    refine bcut (fun σ' H' => Ex H H' ∧ ∃ W, H W = none ∧ H' W = some (.lst []) ∧ σ' = [some (.ref b), some (.ref s), some (.ref W), none, none, none]) ?_ ?_
    · top_name
      rename_i W H1 hW e1 hx1
      exact ⟨e1, W, hW, hx1, rfl⟩
    rintro _ H1 ⟨e1, W, hW0, hW1, rfl⟩
    have hx1 := e1 _ _ hx
    refine bcut (fun σ' H' => (Ex H H' ∧ H' W = some (.lst ((wtsL sms).map V.int))) ∧ ∃ r3 r4, σ' = [some (.ref b), some (.ref s), some (.ref W), r3, r4, none]) ?_ ?_
    · refine lforZip n4 po rfl rfl ?_
      top_name
      refine ⟨l, s, ws, us, rfl, ⟨SqL.of (e1 _ _ hl), SqL.of (e1 _ _ hs), by omega⟩, fun j σ' H' => (Ex H H' ∧ H' W = some (.lst ((wtsL (sms.take j)).map V.int))) ∧ ∃ r3 r4, σ' = [some (.ref b), some (.ref s), some (.ref W), r3, r4, none], ⟨⟨e1, hW1⟩, none, none, rfl⟩, fun j σ' H' _ v => ⟨SqL.of (v.1.1 _ _ hl), SqL.of (v.1.1 _ _ hs)⟩, fun j x y σ' H2 TT H3 hxj hyj hv hTT e23 hT3 => ?_, fun σ' H' hv => ?_⟩
      · obtain ⟨⟨e2, hW2⟩, r3, r4, rfl⟩ := hv
        obtain ⟨fb, fm, rfl, hj, hro⟩ := hR.get hxj
        obtain ⟨fa, sm, rfl, hj2, hsm⟩ := hS.get hyj
        have hfm : fm = sm.fm (names sms) := by
          rw [List.getElem?_map, hj2] at hj
          exact (Option.some.inj hj).symm
        subst hfm
        have hjl := (List.getElem?_eq_some_iff.mp hj2).1
        have ok := spec.each j sm hj2
        have hnf := ok.nf
        have e03 := e2.trans e23
        have hW3 := e23 _ _ hW2
        have hws2 := wtsL_len (sms.take j)
        rw [List.length_take] at hws2
        top_name
        refine ⟨W, _, rfl, hW3, ?_⟩
        top_name
        refine zcall (ok_lweight T) hr (by decide) takesF rfl ?_
        top_name
        refine ⟨fa, W, sm, wtsL (sms.take j), rfl, hsm.ex e03, hW3, by omega, fun sf h => good_there (ok.fd sf h).1.ki (by omega), ok.ch, fun H4 e4 => ?_⟩
        refine ⟨_, e4 _ _ hW3, by rw [List.length_map, sizeLine_eq]; omega, ?_⟩
        have e05 := Ex.past (o := .lst ((wtsL (sms.take j)).map V.int ++ [.int (sm.wt (wtsL (sms.take j)))])) (e03.trans e4) hW0
        have hW5 : upd H4 W (.lst ((wtsL (sms.take j)).map V.int ++ [.int (sm.wt (wtsL (sms.take j)))])) W = some (.lst ((wtsL (sms.take (j + 1))).map V.int)) := by
          rw [upd_same, List.take_add_one, hj2]
          show _ = some (HO.lst ((wtsL (sms.take j ++ [sm])).map V.int))
          rw [wtsL_app, List.map_append]
          rfl
        show wB _ _ _ _ (upd H4 W (.lst ((wtsL (sms.take j)).map V.int ++ [.int (sm.wt (wtsL (sms.take j)))])))
        generalize upd H4 W (.lst ((wtsL (sms.take j)).map V.int ++ [.int (sm.wt (wtsL (sms.take j)))])) = H5 at e05 hW5 ⊢
        top_name
        refine zcall (ok_same_form T (names sms)) hr (by decide) takesF rfl ?_
        top_name
        refine ⟨fb, fa, s, j, _, sm, us, sms, rfl, hro.ex e05, hsm.ex e05, ok, by omega, fun fd hfd => (bk.each j _ hj).fd hfd, e05 _ _ hs, hS.ex e05, rfl, fun H6 e6 => ?_⟩
        have e06 := e05.trans e6
        top_name
        refine zcall (ok_weight T) hr (by decide) takesF rfl ?_
        top_name
        refine ⟨b, fb, _, _, rfl, hbo.ex e06, hro.ex e06, List.mem_map.mpr ⟨_, List.mem_of_getElem? hj, rfl⟩, ?_⟩
        rw [show wOf (wtsOf (sms.map (SM.fm (names sms)))) (sm.fm (names sms)).name = sm.wt (wtsL (sms.take j)) from wt_same spec hj2]
        have hW6 := e6 _ _ hW5
        have hlast : ((wtsL (sms.take (j + 1))).map V.int).getLast? = some (.int (sm.wt (wtsL (sms.take j)))) := by
          rw [List.take_add_one, hj2]
          show ((wtsL (sms.take j ++ [sm])).map V.int).getLast? = _
          rw [wtsL_app, List.map_append, List.getLast?_append]
          rfl
        top_name
        refine ixL (SqL.of hW6) (atI_last hlast) ?_
        top_name
        · rename_i hq; exact absurd rfl hq
        have hx6 := e06 _ _ hx
        obtain ⟨sg, sll, sfs, hsx, _⟩ := hsm.ex e06
        refine zmeth hr takesF ?_
        top_name
        refine ⟨b, _, dx, _, 1, [], _, rfl, hx6, rfl, mf_form_of T, by decide, ?_⟩
        top_name
        have hsl := (spec.nms.nm sm.name (List.mem_map.mpr ⟨sm, List.mem_of_getElem? hj2, rfl⟩)).2
        refine ⟨b, _, some sm.name, _, rfl, .str _ (by omega), hbo.ex e06, ?_⟩
        have hfn := findM_name hj hnd
        have hfn : ((sms.map (SM.fm (names sms))).find? (foundM (some sm.name))) = some (sm.fm (names sms)) := hfn
        unfold FoundM
        rw [hfn]
        intro b3 hro3
        obtain ⟨gdx, gl, gg, gws, g1, _, _, _⟩ := hro3
        obtain ⟨f1, b1, b2, b3'⟩ := clsF T sm.choice
        have g1 : H6 b3 = some (.ins (He.ga K (fcls sm.choice)) gdx [("name", .str sm.name), ("fields", .ref gl), ("gone", .ref gg)]) := g1
        top_name
        · rename_i hq; exact absurd rfl hq
        · exact ⟨⟨e06, hW6⟩, _, _, rfl⟩
      · obtain ⟨⟨e2, hW2⟩, rs⟩ := hv
        rw [hwl, List.take_length] at hW2
        exact ⟨⟨e2, hW2⟩, rs⟩
    rintro _ H2 ⟨⟨e2, hW2⟩, r3, r4, rfl⟩
    top_name
    refine zlc rfl nd [("_law_thing", 5)] (blkOk_by (N := N__law_same) (sc := defScope s__law_same) (by decide +kernel)) piT (tmTe ?_)
    top_name
    rename_i pl H3 hpl e3 hxl pd H4 hpd e4 hxd tp H5 htp e5 hxt
    refine ⟨tp, _, rfl, ⟨SqT.of hxt, trivial⟩, fun j => [], rfl, fun j x H6 hx6 e6 => ?_, fun N2 H6 hN2 e6 hxN => ?_⟩
    · have e26 := ((e3.trans e4).trans e5).trans e6
      have h16 := e26 _ _ (e2 _ _ hx)
      have hbo6 := hbo.ex (e2.trans e26)
      have hxl6 := e6 _ _ (e5 _ _ (e4 _ _ hxl))
      have hxd6 := e6 _ _ (e5 _ _ hxd)
      have hm := List.mem_of_getElem? hx6
      have ho : ∃ o, TxtOr K H6 x o ∧ ∀ fm ∈ sms.map (SM.fm (names sms)), foundM o fm = false := by
        simp only [List.mem_cons, List.not_mem_nil, or_false] at hm
        rcases hm with rfl | rfl | rfl | rfl | rfl
        · refine ⟨some zz, .str _ (by decide +kernel), fun fm hfm => ?_⟩
          obtain ⟨sm, hsm, rfl⟩ := List.mem_map.mp hfm
          exact decide_eq_false (zz_no (spec.nms.nm sm.name (List.mem_map.mpr ⟨sm, hsm, rfl⟩)).2)
        · exact ⟨none, .odd (.base .non) (kit_ty rfl), fun _ _ => rfl⟩
        · exact ⟨none, .odd (.base (.int _)) (kit_ty rfl), fun _ _ => rfl⟩
        · exact ⟨none, .odd (.base (.lst hxl6)) (kit_ty rfl), fun _ _ => rfl⟩
        · exact ⟨none, .odd (.base (.dK hxd6)) (kit_ty rfl), fun _ _ => rfl⟩
      obtain ⟨o, ho1, ho2⟩ := ho
      top_name
      refine zmeth hr takesF ?_
      top_name
      refine ⟨b, _, dx, _, 1, [], _, rfl, h16, rfl, mf_form_of T, by decide, ?_⟩
      top_name
      refine ⟨b, x, o, _, rfl, ho1, hbo6, ?_⟩
      unfold FoundM
      rw [findM_none ho2]
      top_name
      exact ⟨rfl, Evl.Ex.refl _⟩
    · top_name
      rename_i p2 H7 hp2 e7 hx7
      refine oeqNil hr (SqL.of (e7 _ _ hxN)) (SqL.of hx7) ?_
      exact q _ (((((e2.trans e3).trans e4).trans e5).trans e6).trans e7)
end

set_option maxRecDepth 100000
set_option maxHeartbeats 4000000
set_option pp.maxSteps 400
section
open PySem PySem.Spec PyProof.Rows L2 Z
open Evl (Ex)
variable {P : Program} {w : World} {K : PySem.W.Frag} {mg : Str → Option Value} {base : Heap}
local macro_rules | `(tactic| nest_fact) => `(tactic| first | exact tup0 | exact tup1 | exact rfl)
local macro_rules | `(tactic| leaf_len) => `(tactic| first | refine ⟨_, _, rfl, sf_number (by one_item), ?_⟩ | refine ⟨_, _, rfl, sf_name (by one_item), ?_⟩ | refine ⟨_, _, rfl, sf_kind (by one_item), ?_⟩ | refine ⟨_, _, rfl, sf_must (by one_item), ?_⟩ | refine ⟨_, _, rfl, sf_default (by one_item), ?_⟩ | refine ⟨_, _, rfl, sm_name (by one_item), ?_⟩ | refine ⟨_, _, rfl, sm_choice (by one_item), ?_⟩ | refine ⟨_, _, rfl, sm_gone (by one_item), ?_⟩ | refine ⟨_, _, rfl, sm_fields (by one_item), ?_⟩ | fail)
local macro_rules | `(tactic| tb_rel) => `(tactic| first
  | ((with_reducible refine (?_ : wE _ (.Subscript _ (.Constant (.str _) _ _) _) _ _ _)); refine zdat (by first | assumption | omega) ?_)
  | ((with_reducible refine (?_ : wS _ (.Assign [.Subscript _ (.Constant (.str _) _ _) _] _ _) _ _ _)); refine sdput (by first | assumption | omega) ?_)
  | ((with_reducible refine (?_ : wIx _ (.ref _) (.int _) _ _)); refine ixT (SqT.of (by one_item)) (by nest_fact) ?_)
  | ((with_reducible refine (?_ : ∃ a v, _ = V.ref a ∧ DGet _ a _ (some v) ∧ _)); leaf_len)
  | fail)
local macro_rules | `(tactic| tb_rel) => `(tactic| first
  | ((with_reducible refine (?_ : wE _ (.Call (.Attribute _ "append" _) _ _ _) _ _ _)); refine zapp ?_)
  | ((with_reducible refine (?_ : wE _ (.Call (.Attribute _ "join" _) _ _ _) _ _ _)); refine zjoin ?_)
  | ((with_reducible refine (?_ : wE _ (.Call (.Name "str" _) _ _ _) _ _ _)); refine zbty (by assumption) bt_str (by rfl) ?_)
  | fail)
local macro_rules | `(tactic| tb_rel) => `(tactic| first
  | ((with_reducible refine (?_ : wE _ (.Call (.Attribute _ "clear" _) _ _ _) _ _ _)); refine zclr ?_)
  | fail)
/-! ### what doesn't stand at the table, at the lines -/
theorem del_o {H : Hp} {x y : Addr} {o o0 : HO} (h0 : H x = some o0) (h : H y = some o) (n : o ≠ o0) : L2.del H x y = some o :=
  del_at h fun z => by rw [z, h0] at h; exact n (Option.some.inj h).symm
theorem LKI.del {H : Hp} {TP : Addr} {ps : Array Value} (hT : H TP = some (.tbl ps)) : ∀ {v : V} {k : LD}, LKI H v k → LKI (L2.del H TP) v k
  | _, _, .truth h => .truth (tbl_del hT h fun _ z => by cases z)
  | _, _, .count h => .count (tbl_del hT h fun _ z => by cases z)
  | _, _, .whole h => .whole (tbl_del hT h fun _ z => by cases z)
  | _, _, .upto h => .upto (tbl_del hT h fun _ z => by cases z)
  | _, _, .text h => .text (tbl_del hT h fun _ z => by cases z)
  | _, _, .form h => .form (tbl_del hT h fun _ z => by cases z)
  | _, _, .list h i => .list (tbl_del hT h fun _ z => by cases z) (i.del hT)
theorem DvAt.del {H : Hp} {TP : Addr} {ps : Array Value} (hT : H TP = some (.tbl ps)) {v : V} {d : DV} (h : DvAt H v d) : DvAt (L2.del H TP) v d := by
  cases h with
  | bl => exact .bl _
  | int => exact .int _
  | str => exact .str _
  | none => exact .none
  | list h => exact .list (tbl_del hT h fun _ z => by cases z)
theorem SFI.del {H : Hp} {TP a : Addr} {ps : Array Value} {sf : SF} (hT : H TP = some (.tbl ps)) (h : SFI H a sf) : SFI (L2.del H TP) a sf := by
  obtain ⟨kv, dv, h1, h2, h3⟩ := h
  exact ⟨kv, dv, tbl_del hT h1 fun _ z => (by cases z), h2.del hT, h3.del hT⟩
theorem SMI.del {H : Hp} {TP a : Addr} {ps : Array Value} {sm : SM} (hT : H TP = some (.tbl ps)) (h : SMI H a sm) : SMI (L2.del H TP) a sm := by
  obtain ⟨g, l, us, h1, h2, h3, zs, e1, e2, h4⟩ := h
  exact ⟨g, l, us, tbl_del hT h1 fun _ z => (by cases z), tbl_del hT h2 fun _ z => (by cases z), tbl_del hT h3 fun _ z => (by cases z), zs, e1, e2, fun z hz => (h4 z hz).del hT⟩
theorem SMs.del {H : Hp} {TP : Addr} {ps : Array Value} {vs : List V} {sms : List SM} (hT : H TP = some (.tbl ps)) (h : SMs H vs sms) : SMs (L2.del H TP) vs sms := by
  obtain ⟨zs, e1, e2, h4⟩ := h
  exact ⟨zs, e1, e2, fun z hz => (h4 z hz).del hT⟩
section
variable {H : Hp} {x : Addr} {s0 : Str} {r0 : List V}
theorem KI.delL (h0 : H x = some (.lst (.str s0 :: r0))) : ∀ {v : V} {k : KD}, KI K H v k → KI K (L2.del H x) v k
  | _, _, .truth h => .truth (del_o h0 h fun z => by cases z)
  | _, _, .count h => .count (del_o h0 h fun z => by cases z)
  | _, _, .whole h => .whole (del_o h0 h fun z => by cases z)
  | _, _, .upto h => .upto (del_o h0 h fun z => by cases z)
  | _, _, .text h => .text (del_o h0 h fun z => by cases z)
  | _, _, .form h => .form (del_o h0 h fun z => by cases z)
  | _, _, .list h i => .list (del_o h0 h fun z => by cases z) (i.delL h0)
theorem FO.delL {a : Addr} {fd : FD} (h0 : H x = some (.lst (.str s0 :: r0))) (h : FO K H a fd) : FO K (L2.del H x) a fd := by
  obtain ⟨mark, nm, k, must, dflt⟩ := fd
  obtain ⟨dx, kv, dv, h1, h2, h3⟩ := h
  have h3 : DvAt H dv dflt := h3
  refine ⟨dx, kv, dv, del_o h0 h1 fun z => (by cases z), h2.delL h0, ?_⟩
  cases h3 with
  | bl => exact .bl _
  | int => exact .int _
  | str => exact .str _
  | none => exact .none
  | list h => exact .list (del_o h0 h fun z => by cases z)
theorem refs_no {α : Type} {f : α → Addr} {zs : List α} : HO.lst (zs.map fun z => V.ref (f z)) ≠ .lst (.str s0 :: r0) := fun e => by
  cases zs with
  | nil => cases e
  | cons z zs => cases e
theorem ints_no {ns : List Int} : HO.lst (ns.map V.int) ≠ .lst (.str s0 :: r0) := fun e => by
  cases ns with
  | nil => cases e
  | cons z zs => cases e
theorem RO.delL {a : Addr} {fm : FM} (h0 : H x = some (.lst (.str s0 :: r0))) (h : RO K H a fm) : RO K (L2.del H x) a fm := by
  obtain ⟨dx, l, g, ws, h1, h2, ⟨zs, rfl, e2, h3⟩, h4⟩ := h
  exact ⟨dx, l, g, _, del_o h0 h1 fun z => (by cases z), del_o h0 h2 refs_no, ⟨zs, rfl, e2, fun z hz => (h3 z hz).delL h0⟩, del_o h0 h4 ints_no⟩
theorem BO.delL {b : Addr} {fms : List FM} (h0 : H x = some (.lst (.str s0 :: r0))) (h : BO K H b fms) : BO K (L2.del H x) b fms := by
  obtain ⟨dx, l, d, us, h1, h2, ⟨zs, rfl, e2, h3⟩, h4⟩ := h
  exact ⟨dx, l, d, _, del_o h0 h1 fun z => (by unfold insB at z; cases z), del_o h0 h2 refs_no, ⟨zs, rfl, e2, fun z hz => (h3 z hz).delL h0⟩, del_o h0 h4 fun z => (by cases z)⟩
end
theorem ttL2 {X : Cx} {σ : Z.St} {H : Hp} {elt tg l : Expr} {scope : Scope} {Q : VK} {xs : List V} {vs : List Nat} (TP : Addr) (q : Str) (G : Nat → List V → Hp → Prop) (hG : ∀ j ws H H', G j ws H → Ex H H' → G j ws H') (h0 : ∀ H, G 0 [] H)
    (h : wE X l σ H fun x H1 => ∃ r, x = .ref r ∧ L2.del H1 TP r = some (.lst xs) ∧ LamX.TabS H1 TP q ∧ (∀ j x H' L ws, xs[j]? = some x → Ex (L2.del H1 TP) (L2.del H' TP) → LamX.TabS H' TP q → H1 L = none → H' L = some (.lst ws) → G j ws (L2.del (L2.del H' TP) L) → turnT X scope tg elt vs TP q G L ws j x σ H') ∧ ∀ L H' ws, H1 L = none → Ex (L2.del H1 TP) (L2.del H' TP) → LamX.TabS H' TP q → H' L = some (.lst ws) → L ≠ TP → G xs.length ws (L2.del (L2.del H' TP) L) → Q (.ref L) H') :
    tLc (iList X.K (wE X l)) (bG X scope tg) (bTs X scope []) (bE X scope elt) vs σ H Q := by
  refine ⟨fun pins s I => thn (h.run pins s I) fun u s1 ⟨x, H1, I1, r, p, ex, hq, hT, q2, q3⟩ => ⟨x, H1, I1, r, p, ex, ⟨xs, SqL.of (del_ex _ _ _ _ hq)⟩, fun L hL => ?_⟩⟩
  obtain ⟨ps0, hP0⟩ := tab_at hT
  have nLT : L ≠ TP := fun z => by rw [z, hP0] at hL; cases hL
  refine lc_list (fun j H' => Ex (L2.del H1 TP) (L2.del H' TP) ∧ LamX.TabS H' TP q ∧ ∃ ws, H' L = some (.lst ws) ∧ G j ws (L2.del (L2.del H' TP) L))
    ⟨del_mono fun b o _ z => Ex.new hL b o z, hT.ext (Ex.new hL), [], upd_same, h0 _⟩ (fun i H' _ z => SqL.of (del_ex _ _ _ _ (z.1 _ _ hq))) ?_ fun H' ⟨e, t, ws, hw, g⟩ => q3 L H' ws hL e t hw nLT g
  rintro i x H' hx ⟨e, t, ws, hw, g⟩
  refine bG.imp (q2 i x H' L ws hx e t hL hw g) fun σ2 H2 ⟨w, q⟩ => ⟨w, ⟨fun _ _ C cl fp => tsnil ?_⟩⟩
  rw [if_pos rfl]
  refine q.imp fun y H4 ⟨hs, e4, t4, g4⟩ => ?_
  have hw4 : H4 L = some (.lst ws) := del_ex _ _ _ _ (e4 _ _ (del_at hw nLT))
  refine ⟨ws, hw4, hs, fun b o z => ?_, tab_upd t4 hw4, ws ++ [y], upd_same, hG _ _ _ _ g4 fun b o z => ?_⟩
  · have z4 := e4 _ _ (e _ _ z)
    have n1 : b ≠ TP := fun y => by rw [y, del_same] at z; cases z
    rw [del_ne n1] at z z4 ⊢
    rw [upd_ne (fun y => by rw [y, hL] at z; cases z)]
    exact z4
  · have n1 : b ≠ L := fun y => by rw [y, del_same] at z; cases z
    rw [del_ne n1] at z ⊢
    have n2 : b ≠ TP := fun y => by rw [y, del_same] at z; cases z
    rw [del_ne n2] at z ⊢
    rw [upd_ne n1]
    exact z
theorem lines_head {fms : List FM} (h : 1 ≤ fms.length) : ∃ z r, (bookLines fms).map V.str = .str z :: r := by
  cases fms with
  | nil => exact absurd h (by decide)
  | cons fm fms => exact ⟨_, _, rfl⟩
/-! ### the law -/
def sp_law (K : PySem.W.Frag) (TP : Addr) : Sp := fun vs H Q _ => ∃ (a : Addr) (ns : List Int), vs = [.ref a] ∧ SqL K H a (ns.map V.int) ∧ LamX.TabS H TP lamQ ∧ ∀ H', Q (.bl true) H'
theorem fn_law (T : Txt K mg) (TB : LamX.TabB base mg (He.codeOf K ("by_numbers", none)) (He.tabOf K (He.codeOf K ("by_numbers", none)))) {fd : FuncData} (F : FunD K "law" "law" (defArgs s_law) (defBody s_law) (defScope s_law) [] [] (He.fAd K ("law", none)) fd) : FnOk P w K mg base (L2N.CX P w) 12 (He.fAd K ("law", none)) fd ["_law_script"] (sp_law K (He.tabOf K (He.codeOf K ("by_numbers", none)))) := by
  refine fn_mk F sc_law (fun vs H Q E h => ?_) fun cd A outer s0 H vs Q E hr tk po h => ?_
  · obtain ⟨a, ns, rfl, _⟩ := h; rfl
  · obtain ⟨a, ns, rfl, ha, hT, q⟩ := h
    have FM' := fun nms => ok_form_made (P := P) (w := w) T TB nms
    have BF := ok_book_of (P := P) (w := w) T TB
    generalize hTP : He.tabOf K (He.codeOf K ("by_numbers", none)) = TP at *
    have nd := sc_law.nd
    have n1 := T.n_isinstance
    have n2 := T.n_list
    refine bcut (fun σ' H' => Ex H H' ∧ ∃ s us sms, H' s = some (.lst us) ∧ SMs H' us sms ∧ SpecOk sms ∧ σ' = [some (.ref a), some (.ref s), none, none, none, none, none, none, none, none]) ?_ ?_
    · top_name
      refine zcall (ok_spec T) hr (by decide) takesF rfl ?_
      top_name
      exact ⟨a, ns, rfl, ha, fun s H1 us sms e1 hs0 hs hS spec => ⟨e1, s, us, sms, hs, hS.ex (del_ex _ _), spec, rfl⟩⟩
    rintro _ H1 ⟨e1, s, us, sms, hs, hS, spec, rfl⟩
    have hT1 := hT.ext e1
    obtain ⟨ps1, hP1⟩ := tab_at hT1
    have ha1 := Evl.ex_l e1 ha
    have bk := spec_book spec
    have hw := spec_w spec
    have srt := spec_srt spec
    have hhi := spec.hi
    have hlo := spec.lo
    have hul := hS.len
    refine bcut (fun σ' H' => H1 = H' ∧ ∃ bit : Int, σ' = [some (.ref a), some (.ref s), some (.int bit), none, none, none, none, none, none, none]) ?_ ?_
    · top_name
      refine zcall (ok_number T) hr (by decide) takesF rfl ?_
      top_name
      refine ⟨a, ns, 30, rfl, ha1, by decide, by decide, fun c c0 c1 => ?_⟩
      top_name
      exact ⟨rfl, _, rfl⟩
    rintro _ _ ⟨rfl, bit, rfl⟩
    have hsD : L2.del H1 TP s = some (.lst us) := tbl_del hP1 hs fun _ z => by cases z
    have hSD : SMs (L2.del H1 TP) us sms := hS.del hP1
    generalize hfms : sms.map (SM.fm (names sms)) = fms at bk srt
    have hfl : fms.length = sms.length := by rw [← hfms, List.length_map]
    refine bcut (fun σ' H' => Ex (L2.del H1 TP) (L2.del H' TP) ∧ LamX.TabS H' TP lamQ ∧ ∃ L ws, H1 L = none ∧ H' L = some (.lst ws) ∧ L ≠ TP ∧ ROs K (L2.del (L2.del H' TP) L) ws fms ∧ σ' = [some (.ref a), some (.ref s), some (.int bit), some (.ref L), none, none, none, none, none, none]) ?_ ?_
    · refine slc (i := 3) (y := "_law_handed") rfl nd rfl rfl [("_law_form", 9)] (blkOk_by (N := N_law) (sc := defScope s_law) (by decide +kernel)) piL (sw_true rfl rfl rfl (by decide +kernel)) (ttL2 (xs := us) TP lamQ (fun j ws H' => ROs K H' ws (fms.take j)) (fun j ws H' H'' g e => g.ex e) (fun _ => ROs.nil) ?_)
      top_name
      refine ⟨hsD, hT1, fun j x H3 L ws hx e3 hT3 hL hL3 g => ?_, fun L H3 ws hL e3 hT3 hL3 nLT g => ?_⟩
      · obtain ⟨fa, sm, rfl, hj, hsm⟩ := hSD.get hx
        have hjf : fms[j]? = some (sm.fm (names sms)) := by rw [← hfms, List.getElem?_map, hj]; rfl
        have hjl := (List.getElem?_eq_some_iff.mp hj).1
        have hS3 := (hSD.ex e3).ex (del_ex _ _)
        have hs3 := del_ex _ _ _ _ (e3 _ _ hsD)
        top_name
        refine ⟨rfl, ?_⟩
        top_name
        refine zcall (FM' (names sms)) hr (by decide) takesF rfl ?_
        top_name
        refine ⟨fa, s, bit, sm, us, sms, rfl, (hsm.ex e3).ex (del_ex _ _), hw sm (List.mem_of_getElem? hj), hs3, hS3, rfl, hT3, fun b H4 hb e4 hT4 ro => ?_⟩
        have gl := g.len
        rw [List.length_take] at gl
        refine ⟨by rw [sizeLine_eq]; omega, e4, hT4, ?_⟩
        show ROs K _ _ (fms.take (j + 1))
        rw [List.take_add_one, hjf]
        refine (g.ex fun x o z => ?_).one (ro.ex fun x o z => ?_)
        · have n1 : x ≠ L := fun y => by rw [y, del_same] at z; cases z
          rw [del_ne n1] at z ⊢
          exact e4 _ _ z
        · have hxn : H3 x = none := by
            cases y : H3 x with
            | none => rfl
            | some o' => unfold nw at z; rw [y] at z; cases z
          exact del_at (nw_sub _ _ z) fun y => by rw [y, hL3] at hxn; cases hxn
      · rw [hul, ← hfl, List.take_length] at g
        exact ⟨e3, hT3, L, ws, hL, hL3, nLT, g, rfl⟩
    rintro _ H3 ⟨e3, hT3, L, ws, hL1, hL3, nLT, hR3, rfl⟩
    obtain ⟨ps3, hP3⟩ := tab_at hT3
    have L1D : L2.del H1 TP L = none := by rw [del_ne nLT]; exact hL1
    refine bcut (fun σ' H' => Ex (L2.del H1 TP) (L2.del H' TP) ∧ LamX.TabS H' TP lamQ ∧ (∃ xs, H' L = some (.lst xs)) ∧ ∃ b, BO K (L2.del (L2.del H' TP) L) b fms ∧ σ' = [some (.ref a), some (.ref s), some (.int bit), some (.ref L), some (.ref b), none, none, none, none, none]) ?_ ?_
    · top_name
      refine vcut (fun v H' => ∃ b, v = .ref b ∧ Ex H3 H' ∧ BO K (L2.del (L2.del H' TP) L) b fms) ?_ ?_
      · refine zmk (nf_Book T) hr (by decide) takesF rfl ?_
        top_name
        intro b dx hb hd hne
        have eF : Ex (L2.del (L2.del H3 TP) L) H3 := (del_ex _ _).trans (del_ex _ _)
        refine book_to (Q := fun v H' => ∃ b, v = .ref b ∧ Ex H3 H' ∧ BO K (L2.del (L2.del H' TP) L) b fms) hb hd hL3 eF hR3 bk fun H4 bx l' d e4 hl' hd' k1 k2 k3 => ⟨b, rfl, e4, ?_⟩
        have new : ∀ {x : Addr} {o : HO}, H3 x = none → H4 x = some o → L2.del (L2.del H4 TP) L x = some o := fun h h' => del_at (del_at h' fun y => by rw [y, hP3] at h; cases h) fun y => by rw [y, hL3] at h; cases h
        exact ⟨bx, l', d, ws, new hb k1, new hl' k2, hR3.ex (del_mono fun x o _ z => del_mono (fun x o _ z => e4 x o z) x o z), new hd' k3⟩
      rintro _ H4 ⟨b, rfl, e4, hbo⟩
      exact ⟨e3.trans (del_mono fun x o _ z => e4 x o z), hT3.ext e4, ⟨_, e4 _ _ hL3⟩, b, hbo, rfl⟩
    rintro _ H4 ⟨e4, hT4, ⟨xs4, hL4⟩, b, hbo4, rfl⟩
    refine bcut (fun σ' H' => Ex (L2.del H1 TP) (L2.del H' TP) ∧ LamX.TabS H' TP lamQ ∧ BO K (L2.del H' TP) b fms ∧ σ' = [some (.ref a), some (.ref s), some (.int bit), some (.ref L), some (.ref b), none, none, none, none, none]) ?_ ?_
    · top_name
      refine ⟨L, _, rfl, hL4, ?_⟩
      have key : ∀ x o, x ≠ L → L2.del H4 TP x = some o → L2.del (upd H4 L (.lst [])) TP x = some o := fun x o n z => by
        have n2 : x ≠ TP := fun y => by rw [y, del_same] at z; cases z
        rw [del_ne n2] at z ⊢
        rw [upd_ne n]; exact z
      refine ⟨fun x o z => key x o (fun y => by rw [y, L1D] at z; cases z) (e4 _ _ z), tab_upd hT4 hL4, hbo4.ex fun x o z => ?_, rfl⟩
      have n1 : x ≠ L := fun y => by rw [y, del_same] at z; cases z
      rw [del_ne n1] at z
      exact key x o n1 z
    rintro _ H5 ⟨e5, hT5, hbo5, rfl⟩
    obtain ⟨ps5, hP5⟩ := tab_at hT5
    have hs5D := e5 _ _ hsD
    have hS5D := hSD.ex e5
    have hs5 := del_ex _ _ _ _ hs5D
    have hS5 := hS5D.ex (del_ex _ _)
    have hb5 := hbo5.ex (del_ex _ _)
    have deD : ∀ {H' H'' : Hp}, Ex H' H'' → Ex (L2.del H' TP) (L2.del H'' TP) := fun e => del_mono fun x o _ z => e x o z
    refine bcut (fun σ' H' => Ex H5 H' ∧ ∃ D, H' D = some (.lst ((bookLines fms).map V.str)) ∧ σ' = [some (.ref a), some (.ref s), some (.int bit), some (.ref L), some (.ref b), some (.ref D), none, none, none, none]) ?_ ?_
    · top_name
      refine zcall (ok_llines T) hr (by decide) takesF rfl ?_
      top_name
      exact ⟨s, us, sms, rfl, hs5, hS5, spec, fun D H6 hD e6 hx6 => ⟨e6, D, by rw [hx6, hfms], rfl⟩⟩
    rintro _ H6 ⟨e6, D, hD6, rfl⟩
    refine bcut (fun σ' H' => Ex H6 H' ∧ ∃ M, H6 M = none ∧ H' M = some (.lst ((bookLines fms).map V.str)) ∧ σ' = [some (.ref a), some (.ref s), some (.int bit), some (.ref L), some (.ref b), some (.ref D), some (.ref M), none, none, none]) ?_ ?_
    · top_name
      refine zcall (ok_blines T) hr (by decide) takesF rfl ?_
      top_name
      exact ⟨b, fms, rfl, hb5.ex e6, bk, fun M H7 hM e7 hx7 => ⟨e7, M, hM, hx7, rfl⟩⟩
    rintro _ H7 ⟨e7, M, hM0, hM7, rfl⟩
    have hD7 := e7 _ _ hD6
    have e57 := e6.trans e7
    refine bcons (sif (tcutE false ?_ fun H8 e8 => ?_))
    · top_name
      refine oneStrs hr (SqL.of hM7) (SqL.of hD7) ?_
      rw [decide_eq_true rfl]
      top_name
      refine zcall (ok_same T) hr (by decide) takesF rfl ?_
      top_name
      exact ⟨b, s, us, sms, rfl, by rw [hfms]; exact hb5.ex e57, e57 _ _ hs5, hS5.ex e57, spec, fun H8 e8 => ⟨_, rfl, rfl, e8⟩⟩
    refine ifF (bnil ?_)
    have e58 := e57.trans e8
    have hT8 := hT5.ext e58
    obtain ⟨ps8, hP8⟩ := tab_at hT8
    have hM8 := e8 _ _ hM7
    have hD8 := e8 _ _ hD7
    have nMT : M ≠ TP := fun z => by rw [z, hP8] at hM8; cases hM8
    have nDM : D ≠ M := fun z => by rw [z, hM0] at hD6; cases hD6
    refine bcut (fun σ' H' => Ex (L2.del H8 TP) (L2.del H' TP) ∧ LamX.TabS H' TP lamQ ∧ ∃ g, BO K (L2.del H' TP) g fms ∧ σ' = [some (.ref a), some (.ref s), some (.int bit), some (.ref L), some (.ref b), some (.ref D), some (.ref M), some (.ref g), none, none]) ?_ ?_
    · top_name
      refine zcall BF hr (by decide) takesF rfl ?_
      top_name
      exact ⟨M, fms, rfl, tbl_del hP8 hM8 fun _ z => (by cases z), bk, srt, hT8, fun g H9 hg e9 hT9 hbo => ⟨e9, hT9, g, hbo, rfl⟩⟩
    rintro _ H9 ⟨e9, hT9, g, hg9, rfl⟩
    obtain ⟨ps9, hP9⟩ := tab_at hT9
    have hM8D : L2.del H8 TP M = some (.lst ((bookLines fms).map V.str)) := tbl_del hP8 hM8 fun _ z => by cases z
    have hD8D : L2.del H8 TP D = some (.lst ((bookLines fms).map V.str)) := tbl_del hP8 hD8 fun _ z => by cases z
    have hM9D := e9 _ _ hM8D
    have hM9 := del_ex _ _ _ _ hM9D
    have hD9 := del_ex _ _ _ _ (e9 _ _ hD8D)
    refine bcons (sif (tcut false ?_ ?_))
    · top_name
      refine oneStrs hr (SqL.of hM9) (SqL.of hD9) ?_
      rw [decide_eq_true rfl]
      exact ⟨_, rfl, rfl, rfl⟩
    refine ifF (bnil ?_)
    obtain ⟨z0, r0, hz0⟩ := lines_head (fms := fms) (by omega)
    have e59D : Ex (L2.del H5 TP) (L2.del H9 TP) := (deD e58).trans e9
    have hM5 : H5 M = none := Evl.fresh_back e6 hM0
    have hM5D : L2.del H5 TP M = none := by rw [del_ne nMT]; exact hM5
    refine bcut (fun σ' H' => H' = upd H9 M (.lst []) ∧ σ' = [some (.ref a), some (.ref s), some (.int bit), some (.ref L), some (.ref b), some (.ref D), some (.ref M), some (.ref g), none, none]) ?_ ?_
    · top_name
      exact ⟨M, _, rfl, hM9, rfl, rfl⟩
    rintro _ _ ⟨rfl, rfl⟩
    have toU : ∀ x o, x ≠ M → L2.del H9 TP x = some o → upd H9 M (.lst []) x = some o := fun x o n z => by rw [upd_ne n]; exact del_ex _ _ _ _ z
    have hg10 : BO K (upd H9 M (.lst [])) g fms := (hg9.delL (by rw [hM9D, hz0])).ex fun x o z => by
      have n1 : x ≠ M := fun y => by rw [y, del_same] at z; cases z
      rw [del_ne n1] at z
      exact toU x o n1 z
    have e5U : Ex (L2.del H5 TP) (upd H9 M (.lst [])) := fun x o z => toU x o (fun y => by rw [y, hM5D] at z; cases z) (e59D _ _ z)
    have hb10 := hbo5.ex e5U
    have hs10 := e5U _ _ hs5D
    have hS10 := hS5D.ex e5U
    have hD10 : upd H9 M (.lst []) D = some (.lst ((bookLines fms).map V.str)) := (upd_ne nDM).trans hD9
    generalize upd H9 M (.lst []) = H10 at hg10 hb10 hs10 hS10 hD10
    refine bcons (sif (tcutE false ?_ fun H11 e11 => ?_))
    · top_name
      refine zcall (ok_same T) hr (by decide) takesF rfl ?_
      top_name
      refine ⟨g, s, us, sms, rfl, by rw [hfms]; exact hg10, hs10, hS10, spec, fun H11 e11 => ?_⟩
      top_name
      refine zcall (ok_blines T) hr (by decide) takesF rfl ?_
      top_name
      refine ⟨g, fms, rfl, hg10.ex e11, bk, fun M2 H12 hM2 e12 hx12 => ?_⟩
      top_name
      refine oneStrs hr (SqL.of hx12) (SqL.of (e12 _ _ (e11 _ _ hD10))) ?_
      rw [decide_eq_true rfl]
      exact ⟨_, rfl, rfl, e11.trans e12⟩
    refine ifF (bnil ?_)
    have hb11 := hb10.ex e11
    refine bcut (fun σ' H' => Ex H11 H' ∧ ∃ M3, H11 M3 = none ∧ (∃ xs, H' M3 = some (.lst xs) ∧ xs.length ≤ 100000) ∧ σ' = [some (.ref a), some (.ref s), some (.int bit), some (.ref L), some (.ref b), some (.ref D), some (.ref M), some (.ref g), some (.ref M3), none]) ?_ ?_
    · top_name
      refine zcall (ok_blines T) hr (by decide) takesF rfl ?_
      top_name
      refine ⟨b, fms, rfl, hb11, bk, fun M3 H12 hM3 e12 hx12 => ⟨e12, M3, hM3, ⟨_, hx12, ?_⟩, rfl⟩⟩
      have := lines_len (fms := fms) fun fm hfm => by
        obtain ⟨i, hi, rfl⟩ := List.mem_iff_getElem.mp hfm
        exact (bk.each i _ (List.getElem?_eq_getElem hi)).nf
      rw [List.length_map]
      omega
    rintro _ H12 ⟨e12, M3, hM30, ⟨xs3, hM3, hx3l⟩, rfl⟩
    refine bcut (fun σ' H' => Ex H11 H' ∧ σ' = [some (.ref a), some (.ref s), some (.int bit), some (.ref L), some (.ref b), some (.ref D), some (.ref M), some (.ref g), some (.ref M3), none]) ?_ ?_
    · top_name
      refine ⟨M3, _, rfl, hM3, ?_⟩
      top_name
      exact ⟨_, hM3, by rw [sizeLine_eq]; omega, Ex.past e12 hM30, rfl⟩
    rintro _ H13 ⟨e13, rfl⟩
    have hb13 := hb11.ex e13
    have hD13 := e13 _ _ (e11 _ _ hD10)
    top_name
    refine zcall (ok_blines T) hr (by decide) takesF rfl ?_
    top_name
    refine ⟨b, fms, rfl, hb13, bk, fun M4 H14 hM4 e14 hx14 => ?_⟩
    top_name
    refine oeqStrs hr (SqL.of hx14) (SqL.of (e14 _ _ hD13)) ?_
    rw [decide_eq_true rfl]
    top_name
    refine zcall (ok_same T) hr (by decide) takesF rfl ?_
    top_name
    exact ⟨b, s, us, sms, rfl, by rw [hfms]; exact hb13.ex e14, e14 _ _ (e13 _ _ (e11 _ _ hs10)), ((hS10.ex e11).ex e13).ex e14, spec, fun H15 e15 => q H15⟩
end

end K08
set_option maxRecDepth 100000
set_option maxHeartbeats 0
namespace K08
open PySem PySem.Spec PyProof.Rows L2 Z
/-! ### the end -/
theorem tab_new {H : Hp} {TP : Addr} {q : Str} (h : H TP = some (.tbl #[])) : LamX.TabS H TP q := ⟨#[], h, trivial, fun _ _ z => by cases z⟩
theorem facts {l : PySem.W.OpenLaw} {w : World} {K : PySem.W.Frag} {h : Heap} {mg : Str → Option Value} {f : Addr} (X : K.In h) (G : h.Ns mainGlobals mg) (hfa : mg ("law" : Str) = some (.ref f)) (c : He.SaysX fa fn [] tf exB w h K) :
    LamX.LawAtS l w K (L2N.CX l.prog w) 12 63 "_law_script" mg f h := by
  have T := txt_of X G c
  obtain ⟨fd, F⟩ := T.f_law
  have e := hfa.symm.trans T.m_law
  cases e
  have b := FunD.bindsA (ps := ["_law_script"]) F fun _ _ _ _ _ _ us hl => match us, hl with | [_], _ => rfl
  refine ⟨fd, [He.cT K ("by_numbers", none)], sp_law K (He.tabOf K (He.codeOf K ("by_numbers", none))), fun p hp => ?_, fun p hp => ?_, fun p hp => ?_, fun s v => b s [v] rfl, fun H a ns hl hz hT hS => ⟨a, ns, rfl, hS, tab_new (hT _ List.mem_cons_self), fun _ => rfl⟩, fun base _ _ hTB => fn_law T (hTB _ List.mem_cons_self) F⟩
  · rw [List.mem_singleton.mp hp]; exact c.empty _ List.mem_cons_self
  · rw [List.mem_singleton.mp hp]; exact c.out _ List.mem_cons_self
  · rw [List.mem_singleton.mp hp]; exact PySem.W.codeHd_of_K X (c.hd _ List.mem_cons_self)
end K08
theorem PySem.Challenge.cw_formkin_k08_books_written_holds : PySem.Challenge.rw_formkin_k08_books_written.Holds :=
  K08.fin_of fun w K h mg f X G hfa c => K08.facts (l := PySem.Challenge.rw_formkin_k08_books_written) X G hfa c
