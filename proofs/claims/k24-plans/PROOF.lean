import PyProof.Rows.All
import Wide.All
import OpenK.AllK
import Wide.FinOn
import HandS.ForMost
import HandS.Exc
import HandS.TryOnly
import HandS.ExcOwn
import HandS.WordsExc
import HandS.Wide
import HandS.IsInst
import HandS.EndBits
import HandS.Conv
import HandS.Style
import HandS.TupAny
import HandS.Evl
import HandS.Walk
import HandS.ExcIs
import HandS.ExcInit
import HandS.ExcField
import KE.KExcIs
import HandS.Text
import PySem.Challenge.RW_fewspeak_k24_plans_refused
set_option Elab.async false
set_option linter.all false
set_option maxRecDepth 100000
set_option maxHeartbeats 4000000
namespace Kt
open PySem PySem.Spec PyProof.Rows L2
/-- a def of the top, as it stands behind the top -/
structure DefAt (K : PySem.W.Frag) (mg : Str → Option Value) (x : Str) (st : Stmt) (ps : List Str) : Prop where
  ex : ∃ (f : Addr) (fd : FuncData), Fun K x x st f fd ∧ mg x = some (.ref f) ∧ Binds K fd ps []
/-- a method of the class at C -/
structure MethAt (K : PySem.W.Frag) (C : Addr) (m qual : Str) (st : Stmt) (ps : List Str) : Prop where
  ex : ∃ (f : Addr) (fd : FuncData), Fun K m qual st f fd ∧ Meth K C m f ∧ Binds K fd ps []
structure InitAt (K : PySem.W.Frag) (C : Addr) (qual : Str) (st : Stmt) (ps : List Str) : Prop where
  ex : ∃ (f : Addr) (fd : FuncData), Fun K "__init__" qual st f fd ∧ Mk K C f ∧ Binds K fd ps []
/-- the class that a name of the module holds -/
def cA (mg : Str → Option Value) (x : Str) : Addr := match mg x with | some (.ref a) => a | _ => 0
theorem cA_of {mg : Str → Option Value} {x : Str} {a : Addr} (h : mg x = some (.ref a)) : cA mg x = a := by unfold cA; rw [h]
/-- a def that may be called by its name; a method of the class at C; a class that may be made -/
structure Cal (P : Program) (w : World) (K : PySem.W.Frag) (mg : Str → Option Value) (base : Heap) (k : Nat) (x : Str) (sp : Sp) : Prop where
  ex : ∃ (f : Addr) (fd : FuncData) (ps : List Str), FnOk P w K mg base CX0 k f fd ps sp ∧ mg x = some (.ref f) ∧ PySem.W.keepIn K (.ref f) = true ∧ Binds K fd ps []
structure Met (P : Program) (w : World) (K : PySem.W.Frag) (mg : Str → Option Value) (base : Heap) (k : Nat) (C : Addr) (m : Str) (sp : Sp) : Prop where
  ex : ∃ (f : Addr) (fd : FuncData) (ps : List Str), Cls K C ∧ Meth K C m f ∧ FnOk P w K mg base CX0 k f fd ps sp ∧ Binds K fd ps []
structure Mak (P : Program) (w : World) (K : PySem.W.Frag) (mg : Str → Option Value) (base : Heap) (k : Nat) (x : Str) (C : Addr) (sp : Sp) : Prop where
  ex : ∃ (f : Addr) (fd : FuncData) (ps : List Str), Mk K C f ∧ FnOk P w K mg base CX0 k f fd ps sp ∧ mg x = some (.ref C) ∧ Binds K fd ps []
section
variable {P : Program} {w : World} {K : PySem.W.Frag} {mg : Str → Option Value} {base : Heap}
theorem DefAt.cal {x : Str} {st : Stmt} {N ps : List Str} {k : Nat} {sp : Sp} (d : DefAt K mg x st ps) (S : FnScope N ps (defScope st)) (len : ∀ vs H Q E, sp vs H Q E → vs.length = ps.length)
    (hbody : ∀ (f : Addr) (cdv : Value) (A : Around) (outer : List Env) (s : Shared) (H : Hp) (vs : List V) (Q : VK) (E : XK), Room k (A.deeper (envOfC x (defScope st) s.heap.objs.size f cdv)) → sp vs H Q E →
      ∃ t, PSs (cxOf CX0 P w K mg base N x (defScope st) f cdv A outer s H E).nox (defBody st) t ∧ t { nx := fun _ H' => Q .non H', rt := Q } (start N vs) H) : Cal P w K mg base (k + 1) x sp := by
  obtain ⟨f, fd, F, hm, b⟩ := d.ex
  exact ⟨f, fd, ps, F.ok S len (hbody f), hm, F.kp, b⟩
theorem MethAt.met {C : Addr} {m qual : Str} {st : Stmt} {N ps : List Str} {k : Nat} {sp : Sp} (c : Cls K C) (d : MethAt K C m qual st ps) (S : FnScope N ps (defScope st)) (len : ∀ vs H Q E, sp vs H Q E → vs.length = ps.length)
    (hbody : ∀ (f : Addr) (cdv : Value) (A : Around) (outer : List Env) (s : Shared) (H : Hp) (vs : List V) (Q : VK) (E : XK), Room k (A.deeper (envOfC qual (defScope st) s.heap.objs.size f cdv)) → sp vs H Q E →
      ∃ t, PSs (cxOf CX0 P w K mg base N qual (defScope st) f cdv A outer s H E).nox (defBody st) t ∧ t { nx := fun _ H' => Q .non H', rt := Q } (start N vs) H) : Met P w K mg base (k + 1) C m sp := by
  obtain ⟨f, fd, F, hm, b⟩ := d.ex
  exact ⟨f, fd, ps, c, hm, F.ok S len (hbody f), b⟩
theorem InitAt.mak {x : Str} {C : Addr} {qual : Str} {st : Stmt} {N ps : List Str} {k : Nat} {sp : Sp} (hx : mg x = some (.ref C)) (d : InitAt K C qual st ps) (S : FnScope N ps (defScope st)) (len : ∀ vs H Q E, sp vs H Q E → vs.length = ps.length)
    (hbody : ∀ (f : Addr) (cdv : Value) (A : Around) (outer : List Env) (s : Shared) (H : Hp) (vs : List V) (Q : VK) (E : XK), Room k (A.deeper (envOfC qual (defScope st) s.heap.objs.size f cdv)) → sp vs H Q E →
      ∃ t, PSs (cxOf CX0 P w K mg base N qual (defScope st) f cdv A outer s H E).nox (defBody st) t ∧ t { nx := fun _ H' => Q .non H', rt := Q } (start N vs) H) : Mak P w K mg base (k + 1) x C sp := by
  obtain ⟨f, fd, F, hm, b⟩ := d.ex
  exact ⟨f, fd, ps, hm, F.ok S len (hbody f), hx, b⟩
/-- a def that may raise -/
structure CalX (P : Program) (w : World) (K : PySem.W.Frag) (mg : Str → Option Value) (base : Heap) (k : Nat) (x : Str) (sp : Sp) : Prop where
  ex : ∃ (f : Addr) (fd : FuncData) (ps : List Str), FnOk P w K mg base (L2.CX P w) k f fd ps sp ∧ mg x = some (.ref f) ∧ PySem.W.keepIn K (.ref f) = true ∧ Binds K fd ps []
theorem DefAt.calX {x : Str} {st : Stmt} {N ps : List Str} {k : Nat} {sp : Sp} (d : DefAt K mg x st ps) (S : FnScope N ps (defScope st)) (len : ∀ vs H Q E, sp vs H Q E → vs.length = ps.length)
    (hbody : ∀ (f : Addr) (cdv : Value) (A : Around) (outer : List Env) (s : Shared) (H : Hp) (vs : List V) (Q : VK) (E : XK), Room k (A.deeper (envOfC x (defScope st) s.heap.objs.size f cdv)) → sp vs H Q E →
      ∃ t, PSs (cxOf (L2.CX P w) P w K mg base N x (defScope st) f cdv A outer s H E) (defBody st) t ∧ t { nx := fun _ H' => Q .non H', rt := Q } (start N vs) H) : CalX P w K mg base (k + 1) x sp := by
  obtain ⟨f, fd, F, hm, b⟩ := d.ex
  exact ⟨f, fd, ps, F.okX S len (hbody f), hm, F.kp, b⟩
end
section
variable {X : Cx} {k j : Nat} {C : Addr} {x m : Str} {sp : Sp} {p pos apos : Pos} {e o : Expr} {es : List Expr} {ta : TE} {t : TA}
theorem pe_c (c : Cal X.prog X.w X.K X.mg X.base k x sp) (hr : Room j X.A) (hk : k ≤ j) (hg : Gl X x) (ha : PA X (e :: es) t)
    (hdb : (x == ("__debug__" : Str)) = false := by decide) (he : starEach (e :: es) X.env = (false, eval e X.env) :: starEach es X.env := by rfl) (hpl : (backTo pos (starEach es X.env)).any (·.1) = false := by rfl) :
    PE X (.Call (.Name x p) (e :: es) [] pos) (tCall sp [] E0 t) := by
  obtain ⟨f, fd, ps, F, hm, kp, b⟩ := c.ex
  exact pe_call F (hr.mono hk) hg hm kp b .nil pass0 ha hdb he hpl
theorem pe_c0 (c : Cal X.prog X.w X.K X.mg X.base k x sp) (hr : Room j X.A) (hk : k ≤ j) (hg : Gl X x)
    (hdb : (x == ("__debug__" : Str)) = false := by decide) :
    PE X (.Call (.Name x p) [] [] pos) (tCall sp [] E0 tNil) := by
  obtain ⟨f, fd, ps, F, hm, kp, b⟩ := c.ex
  exact pe_call0 F (hr.mono hk) hg hm kp b .nil pass0 hdb
theorem pe_mk (c : Mak X.prog X.w X.K X.mg X.base k x C sp) (hr : Room j X.A) (hk : k + 1 ≤ j) (hg : Gl X x) (ha : PA X (e :: es) t)
    (hdb : (x == ("__debug__" : Str)) = false := by decide) (he : starEach (e :: es) X.env = (false, eval e X.env) :: starEach es X.env := by rfl) (hpl : (backTo pos (starEach es X.env)).any (·.1) = false := by rfl) :
    PE X (.Call (.Name x p) (e :: es) [] pos) (tMake C sp [] E0 t) := by
  obtain ⟨f, fd, ps, M, F, hm, b⟩ := c.ex
  exact pe_make M F (hr.mono hk) hg hm b .nil pass0 ha hdb he hpl
theorem pe_mt {pl : Sem Bool} (c : Met X.prog X.w X.K X.mg X.base k C m sp) (hr : Room j X.A) (hk : k ≤ j) (he : PE X o ta) (ha : PA X (e :: es) t)
    (hst : starEach (e :: es) X.env = (false, eval e X.env) :: starEach es X.env := by rfl) (hpl : (backTo pos (starEach es X.env)).any (·.1) = false := by rfl)
    (ht : eval (.Call (.Attribute o m apos) (e :: es) [] pos) X.env = (do
      let ov ← eval o X.env
      standAt apos.atName
      let (f, first) ← holding [ov] (getMethod ov m pl)
      callWith pos f first (backTo pos (starEach (e :: es) X.env)) (backToKw pos (keywordEach [] X.env))) := by rfl) :
    PE X (.Call (.Attribute o m apos) (e :: es) [] pos) (tMeth C m sp [] E0 ta t) := by
  obtain ⟨f, fd, ps, hc, hm, F, b⟩ := c.ex
  exact pe_meth (pl := pl) he hc hm F (hr.mono hk) b .nil pass0 ha hst hpl ht
theorem pe_mt0 {pl : Sem Bool} (c : Met X.prog X.w X.K X.mg X.base k C m sp) (hr : Room j X.A) (hk : k ≤ j) (he : PE X o ta)
    (ht : eval (.Call (.Attribute o m apos) [] [] pos) X.env = (do
      let ov ← eval o X.env
      standAt apos.atName
      let (f, first) ← holding [ov] (getMethod ov m pl)
      callWith pos f first (backTo pos (starEach [] X.env)) (backToKw pos (keywordEach [] X.env))) := by rfl) :
    PE X (.Call (.Attribute o m apos) [] [] pos) (tMeth C m sp [] E0 ta tNil) := by
  obtain ⟨f, fd, ps, hc, hm, F, b⟩ := c.ex
  exact pe_meth0 (pl := pl) he hc hm F (hr.mono hk) b .nil pass0 ht
/-- a call of a def that may raise, where nothing is raised -/
theorem pe_x0 (c : CalX X.prog X.w X.K X.mg X.base k x sp) (hr : Room j X.A) (hk : k ≤ j) (hg : Gl X x) (ha : PA X (e :: es) t)
    (hdb : (x == ("__debug__" : Str)) = false := by decide) (he : starEach (e :: es) X.env = (false, eval e X.env) :: starEach es X.env := by rfl) (hpl : (backTo pos (starEach es X.env)).any (·.1) = false := by rfl) :
    PE X (.Call (.Name x p) (e :: es) [] pos) (tCall sp [] E0 t) := by
  obtain ⟨f, fd, ps, F, hm, kp, b⟩ := c.ex
  exact pe_call F (hr.mono hk) hg hm kp b .nil passL ha hdb he hpl
end
/-- a built-in class as a value -/
theorem pe_ty {X : Cx} {x : Str} {pos : Pos} (n : String) (hg : Gl X x) (hm : X.mg x = none) (hv : bootBuiltins x = some (.type n)) (hn : x ≠ "__name__" := by decide) (hdb : (x == ("__debug__" : Str)) = false := by decide) : PE X (.Name x pos) (tC (.ty n)) :=
  pe_bltn hg hm hv rfl hn hdb
/-- a constant of the module -/
theorem pe_gc {X : Cx} {x : Str} {pos : Pos} {v : V} (hg : Gl X x) (h : ∃ u, X.mg x = some u ∧ RelV v u) (hdb : (x == ("__debug__" : Str)) = false := by decide) : PE X (.Name x pos) (tC v) := by
  obtain ⟨u, h1, h2⟩ := h
  exact pe_glob hg h1 h2 hdb
/-! ### heaps -/
theorem hp_new {H : Hp} {a b : Addr} {o o' : HO} (h : H a = none) (h' : H b = some o') : upd H a o b = some o' := by
  rw [upd_ne (ne_of_none h' h)]; exact h'
theorem hp_same {H H' : Hp} {b : Addr} {o : HO} (e : Same H H') (h : H b = some o) : H' b = some o := e b o h
theorem same_upd {H H' : Hp} {a : Addr} {o : HO} (e : Same H H') (h : H' a = none) : Same H (upd H' a o) := fun b o' q => hp_new h (e b o' q)
theorem same_new {H : Hp} {a : Addr} {o : HO} (h : H a = none) : Same H (upd H a o) := fun b o' q => hp_new h q
theorem cxOf_K {CX : CXT} {P : Program} {w : World} {K : PySem.W.Frag} {mg : Str → Option Value} {base : Heap} {N : List Str} {qual : Str} {scope : Scope} {f : Addr} {cd : Value} {A : Around} {outer : List Env} {s : Shared} {H : Hp} {E : XK} : (cxOf CX P w K mg base N qual scope f cd A outer s H E).nox.K = K := rfl
theorem cxOf_K' {CX : CXT} {P : Program} {w : World} {K : PySem.W.Frag} {mg : Str → Option Value} {base : Heap} {N : List Str} {qual : Str} {scope : Scope} {f : Addr} {cd : Value} {A : Around} {outer : List Env} {s : Shared} {H : Hp} {E : XK} : (cxOf CX P w K mg base N qual scope f cd A outer s H E).K = K := rfl
theorem cxOf_mg {CX : CXT} {P : Program} {w : World} {K : PySem.W.Frag} {mg : Str → Option Value} {base : Heap} {N : List Str} {qual : Str} {scope : Scope} {f : Addr} {cd : Value} {A : Around} {outer : List Env} {s : Shared} {H : Hp} {E : XK} : (cxOf CX P w K mg base N qual scope f cd A outer s H E).nox.mg = mg := rfl
theorem cxOf_mg' {CX : CXT} {P : Program} {w : World} {K : PySem.W.Frag} {mg : Str → Option Value} {base : Heap} {N : List Str} {qual : Str} {scope : Scope} {f : Addr} {cd : Value} {A : Around} {outer : List Env} {s : Shared} {H : Hp} {E : XK} : (cxOf CX P w K mg base N qual scope f cd A outer s H E).mg = mg := rfl
/-- a new tuple, a new list: all that stood stands -/
def NewT (H : Hp) (xs : List V) (Q : VK) : Prop := ∀ p H', H p = none → Same H H' → H' p = some (.tup xs) → Q (.ref p) H'
def NewL (H : Hp) (xs : List V) (Q : VK) : Prop := ∀ p H', H p = none → Same H H' → H' p = some (.lst xs) → Q (.ref p) H'
theorem NewT.at {H : Hp} {xs : List V} {Q : VK} (q : NewT H xs Q) (p : Addr) (h : H p = none) : Q (.ref p) (upd H p (.tup xs)) := q p _ h (same_new h) upd_same
theorem NewL.at {H : Hp} {xs : List V} {Q : VK} (q : NewL H xs Q) (p : Addr) (h : H p = none) : Q (.ref p) (upd H p (.lst xs)) := q p _ h (same_new h) upd_same
theorem NewT.of {H H' : Hp} {xs : List V} {Q : VK} (q : NewT H xs Q) (e : Same H H') : NewT H' xs Q := fun p H2 h s x => q p H2 (e.free h) (e.trans s) x
theorem NewL.of {H H' : Hp} {xs : List V} {Q : VK} (q : NewL H xs Q) (e : Same H H') : NewL H' xs Q := fun p H2 h s x => q p H2 (e.free h) (e.trans s) x
/-! ### readings by name -/
section
variable {X : Cx}
def aAdd (K : PySem.W.Frag) : R2 := fun x y H Q => rI0 (fun i j => .int (i + j)) x y H Q ∨ (∃ i j, x = .str i ∧ y = .str j ∧ i.length + j.length ≤ sizeLine ∧ Q (.str (i ++ j)) H) ∨ rCat x y H Q ∨ rCatA K x y H Q
theorem op_addA : OpR X (binaryOp .Add) (aAdd X.K) := op_add.or (op_add_str.or (op_cat.or op_catA))
def aMul : R2 := fun x y H Q => rI CMulW (fun i j => .int (i * j)) x y H Q ∨ rRep x y H Q
theorem op_mulA : OpR X (binaryOp .Mult) aMul := op_mulW.or op_rep
def aEq (K : PySem.W.Frag) : R2 := fun x y H Q => rEq x y H Q ∨ rEqD K x y H Q
theorem op_eqA {k : Nat} (hr : Room k X.A) : OpR X (compareOp .Eq) (aEq X.K) := op_eq.or (op_eqD hr.units)
def aNe (K : PySem.W.Frag) : R2 := fun x y H Q => rNe x y H Q ∨ rNeD K x y H Q
theorem op_neA {k : Nat} (hr : Room k X.A) : OpR X (compareOp .NotEq) (aNe X.K) := op_ne.or (op_neD hr.units)
def aLe : R2 := fun x y H Q => rI0 (fun i j => .bl (decide (i ≤ j))) x y H Q ∨ ∃ i j, x = .str i ∧ y = .str j ∧ Q (.bl (!decide (j.cps.toList < i.cps.toList))) H
theorem op_leA : OpR X (compareOp .LtE) aLe := op_le.or op_le_str
def aLt : R2 := fun x y H Q => rI0 (fun i j => .bl (decide (i < j))) x y H Q ∨ ∃ i j, x = .str i ∧ y = .str j ∧ Q (.bl (decide (i.cps.toList < j.cps.toList))) H
theorem op_ltA : OpR X (compareOp .Lt) aLt := op_lt.or op_lt_str
def aIn (K : PySem.W.Frag) : R2 := fun x y H Q => (∃ (c : Nat) (z : Str), x = .str ⟨#[c]⟩ ∧ y = .str z ∧ Q (.bl (decide (c ∈ z.cps.toList))) H) ∨ rIn K false x y H Q
theorem op_inA : OpR X (compareOp .In) (aIn X.K) := op_in_sign.or op_in_seq
def aNotIn (K : PySem.W.Frag) : R2 := fun x y H Q => (∃ (c : Nat) (z : Str), x = .str ⟨#[c]⟩ ∧ y = .str z ∧ Q (.bl (!decide (c ∈ z.cps.toList))) H) ∨ rIn K true x y H Q
theorem op_notInA : OpR X (compareOp .NotIn) (aNotIn X.K) := op_notIn_sign.or op_notIn_seq
def aLen (K : PySem.W.Frag) : List V → Hp → VK → Prop := fun xs H Q => (∃ p ys, xs = [.ref p] ∧ (SqL K H p ys ∨ SqT K H p ys) ∧ Q (.int ys.length) H) ∨ (∃ z, xs = [.str z] ∧ z.length ≤ sizeLine ∧ Q (.int z.length) H) ∨ (∃ a kvs, xs = [V.ref a] ∧ H a = some (.dK kvs) ∧ Q (.int kvs.length) H)
theorem call_lenA : CallR X (.builtin "len") (aLen X.K) := call_len_seq.or (call_len_str.or call_lenD)
def aAbs : List V → Hp → VK → Prop := fun xs H Q => ∃ i, xs = [.int i] ∧ Q (.int (if i < 0 then -i else i)) H
theorem call_absA : CallR X (.builtin "abs") aAbs := call_abs
def aMax2 : List V → Hp → VK → Prop := fun xs H Q => ∃ i j, xs = [.int i, .int j] ∧ Q (.int (if j > i then j else i)) H
theorem call_max2A (hc : X.calm = true) : CallR X (.builtin "max") aMax2 := call_max2 hc
def aMin2 : List V → Hp → VK → Prop := fun xs H Q => ∃ i j, xs = [.int i, .int j] ∧ Q (.int (if j < i then j else i)) H
theorem call_min2A (hc : X.calm = true) : CallR X (.builtin "min") aMin2 := call_min2 hc
def aInt1 : List V → Hp → VK → Prop := fun xs H Q => (∃ i, xs = [.int i] ∧ Q (.int i) H) ∨ ∃ k, xs = [.bl k] ∧ Q (.int (if k then 1 else 0)) H
theorem call_int1A : CallR X (.type "int") aInt1 := call_int1
def aStr1 : List V → Hp → VK → Prop := fun xs H Q => ∃ i, xs = [.int i] ∧ i.natAbs.log2 < 1920 ∧ Q (.str (toString i)) H
theorem call_str1A : CallR X (.type "str") aStr1 := call_str_int
def aList1 (K : PySem.W.Frag) : List V → Hp → VK → Prop := fun xs H Q => ∃ p ys, xs = [.ref p] ∧ (SqL K H p ys ∨ SqT K H p ys) ∧ ∀ l, H l = none → Q (.ref l) (upd H l (.lst ys))
theorem call_list1A : CallR X (.type "list") (aList1 X.K) := call_list_of
def aTuple1 (K : PySem.W.Frag) : List V → Hp → VK → Prop := fun xs H Q => ∃ p ys, xs = [.ref p] ∧ ((SqL K H p ys ∧ ∀ l, H l = none → Q (.ref l) (upd H l (.tup ys))) ∨ (SqT K H p ys ∧ Q (.ref p) H))
theorem call_tuple1A : CallR X (.type "tuple") (aTuple1 X.K) := call_tuple_of
def aTru (K : PySem.W.Frag) (ta : TE) : TT := fun σ H Q => ta σ H fun x H' => ∃ k, TruV K x H' k ∧ Q k H'
theorem pt_tru {a : Expr} {ta : TE} (ha : PE X a ta) (he : ∀ whole, isTrue a X.env whole = (do let v ← whole; standAt a.pos; holding [v] (truthy v))) : PT X a (aTru X.K ta) := pt_truth ha he
def aIsN : R2 := fun x y H Q => y = .non ∧ Q (.bl (decide (x = .non))) H
theorem op_isNA : OpR X (compareOp .Is) aIsN := op_isN
def aNotN : R2 := fun x y H Q => y = .non ∧ Q (.bl (!decide (x = .non))) H
theorem op_notNA : OpR X (compareOp .IsNot) aNotN := op_notN
end
/-! ### one step of a reading -/
section
variable {K : PySem.W.Frag} {σ : L2.St} {H : Hp} {N B C : L2.St → Hp → Prop} {R : VK} {t u : TS} {c d : TT} {ta tb te tc : TE} {tr : TA} {Q : VK} {g : TG} {i j : Nat} {v x y : V} {r r' : R2}
theorem L_seq (h : t ⟨u ⟨N, R, B, C⟩, R, B, C⟩ σ H) : tSeq t u ⟨N, R, B, C⟩ σ H := h
theorem L_next (h : N σ H) : tNext ⟨N, R, B, C⟩ σ H := h
theorem L_brk (h : B σ H) : tBreak ⟨N, R, B, C⟩ σ H := h
theorem L_cont (h : C σ H) : tCont ⟨N, R, B, C⟩ σ H := h
theorem L_ret (h : te σ H R) : tRet te ⟨N, R, B, C⟩ σ H := h
theorem L_retN (h : R .non H) : tRetN ⟨N, R, B, C⟩ σ H := h
theorem L_drop (h : te σ H fun _ H1 => N σ H1) : tDrop te ⟨N, R, B, C⟩ σ H := h
theorem L_asg (h : te σ H fun x H1 => g x σ H1 N) : tAsg te g ⟨N, R, B, C⟩ σ H := h
theorem L_gname {Q : L2.St → Hp → Prop} (h : Q (σ.set i (some v)) H) : gName i v σ H Q := h
theorem L_aug {ti : TIp} (hx : σ[i]? = some (some x)) (h : te σ H fun y H1 => ti x y H1 fun z H2 => N (σ.set i (some z)) H2) : tAug i te ti ⟨N, R, B, C⟩ σ H := ⟨x, hx, h⟩
theorem L_ipI {f : Int → Int → Int} {a b : Int} (h : Q (.int (f a b)) H) : ipI f (.int a) (.int b) H Q := ⟨a, b, rfl, rfl, h⟩
theorem L_ifS (h : c σ H fun b H1 => if b = true then t ⟨N, R, B, C⟩ σ H1 else u ⟨N, R, B, C⟩ σ H1) : tIfS c t u ⟨N, R, B, C⟩ σ H := h
theorem L_par (h : tr σ H fun vs H1 => ∃ v w, vs = [v, w] ∧ N ((σ.set i (some v)).set j (some w)) H1) : tPar i j tr ⟨N, R, B, C⟩ σ H := h
theorem L_par3 {l : Nat} (h : tr σ H fun vs H1 => ∃ u v w, vs = [u, v, w] ∧ N (((σ.set i (some u)).set j (some v)).set l (some w)) H1) : tPar3 i j l tr ⟨N, R, B, C⟩ σ H := h
theorem L_vs2 {Q : V → V → Prop} (h : Q x y) : ∃ v w, [x, y] = [v, w] ∧ Q v w := ⟨x, y, rfl, h⟩
theorem L_vs3 {z : V} {Q : V → V → V → Prop} (h : Q x y z) : ∃ u v w, [x, y, z] = [u, v, w] ∧ Q u v w := ⟨x, y, z, rfl, h⟩
theorem L_var (h : σ[i]? = some (some v)) (q : Q v H) : tVar i σ H Q := ⟨v, h, q⟩
theorem L_c (q : Q v H) : tC v σ H Q := q
theorem L_op (h : ta σ H fun x H1 => tb σ H1 fun y H2 => r x y H2 Q) : tOp r ta tb σ H Q := h
theorem L_un {r : V → Hp → VK → Prop} (h : ta σ H fun x H1 => r x H1 Q) : tUn r ta σ H Q := h
theorem L_rU {g : Int → V} {i : Int} (q : Q (g i) H) : rU g (.int i) H Q := ⟨i, rfl, q⟩
theorem L_I0 {g : Int → Int → V} {i j : Int} (q : Q (g i j) H) : rI0 g (.int i) (.int j) H Q := ⟨i, j, rfl, rfl, q⟩
theorem L_I {C : Int → Int → Prop} {g : Int → Int → V} {i j : Int} (hc : C i j) (q : Q (g i j) H) : rI C g (.int i) (.int j) H Q := ⟨i, j, rfl, rfl, hc, q⟩
theorem L_addI {i j : Int} (q : Q (.int (i + j)) H) : aAdd K (.int i) (.int j) H Q := .inl ⟨i, j, rfl, rfl, q⟩
theorem L_addS {a b : Str} (hl : a.length + b.length ≤ sizeLine) (q : Q (.str (a ++ b)) H) : aAdd K (.str a) (.str b) H Q := .inr (.inl ⟨a, b, rfl, rfl, hl, q⟩)
theorem L_addL {a b : Addr} {xs ys : List V} (ha : H a = some (.lst xs)) (hb : H b = some (.lst ys)) (hl : xs.length + ys.length ≤ sizeLine) (q : ∀ p, H p = none → Q (.ref p) (upd H p (.lst (xs ++ ys)))) : aAdd K (.ref a) (.ref b) H Q := .inr (.inr (.inl ⟨a, b, xs, ys, rfl, rfl, ha, hb, hl, q⟩))
theorem L_mulI {i j : Int} (hc : CMulW i j) (q : Q (.int (i * j)) H) : aMul (.int i) (.int j) H Q := .inl ⟨i, j, rfl, rfl, hc, q⟩
theorem L_eqI {i j : Int} (q : Q (.bl (decide (i = j))) H) : aEq K (.int i) (.int j) H Q := .inl ⟨rfl, by rw [show decide (V.int i = V.int j) = decide (i = j) by simp]; exact q⟩
theorem L_eqS {i j : Str} (q : Q (.bl (decide (i = j))) H) : aEq K (.str i) (.str j) H Q := .inl ⟨rfl, by rw [show decide (V.str i = V.str j) = decide (i = j) by simp]; exact q⟩
theorem L_eqB {i j : Bool} (q : Q (.bl (decide (i = j))) H) : aEq K (.bl i) (.bl j) H Q := .inl ⟨rfl, by rw [show decide (V.bl i = V.bl j) = decide (i = j) by simp]; exact q⟩
theorem L_neI {i j : Int} (q : Q (.bl (!decide (i = j))) H) : aNe K (.int i) (.int j) H Q := .inl ⟨rfl, by rw [show decide (V.int i = V.int j) = decide (i = j) by simp]; exact q⟩
theorem L_neS {i j : Str} (q : Q (.bl (!decide (i = j))) H) : aNe K (.str i) (.str j) H Q := .inl ⟨rfl, by rw [show decide (V.str i = V.str j) = decide (i = j) by simp]; exact q⟩
theorem L_eqD {d e : PyData} (hx : Dp K H x d) (hy : Dp K H y e) (sd : SeqAt.shaped d = true) (se : SeqAt.shaped e = true) (q : Q (.bl (PyData.eqv d e)) H) : aEq K x y H Q := .inr ⟨d, e, hx, hy, sd, se, q⟩
theorem L_neD {d e : PyData} (hx : Dp K H x d) (hy : Dp K H y e) (sd : SeqAt.shaped d = true) (se : SeqAt.shaped e = true) (q : Q (.bl (!PyData.eqv d e)) H) : aNe K x y H Q := .inr ⟨d, e, hx, hy, sd, se, q⟩
theorem L_leI {i j : Int} (q : Q (.bl (decide (i ≤ j))) H) : aLe (.int i) (.int j) H Q := .inl ⟨i, j, rfl, rfl, q⟩
theorem L_leS {i j : Str} (q : Q (.bl (!decide (j.cps.toList < i.cps.toList))) H) : aLe (.str i) (.str j) H Q := .inr ⟨i, j, rfl, rfl, q⟩
theorem L_ltI {i j : Int} (q : Q (.bl (decide (i < j))) H) : aLt (.int i) (.int j) H Q := .inl ⟨i, j, rfl, rfl, q⟩
theorem L_isN (q : Q (.bl (decide (x = .non))) H) : aIsN x .non H Q := ⟨rfl, q⟩
theorem L_notN (q : Q (.bl (!decide (x = .non))) H) : aNotN x .non H Q := ⟨rfl, q⟩
theorem L_inC {a : Nat} {z : Str} (q : Q (.bl (decide (a ∈ z.cps.toList))) H) : aIn K (.str ⟨#[a]⟩) (.str z) H Q := .inl ⟨a, z, rfl, rfl, q⟩
theorem L_notInC {a : Nat} {z : Str} (q : Q (.bl (!decide (a ∈ z.cps.toList))) H) : aNotIn K (.str ⟨#[a]⟩) (.str z) H Q := .inl ⟨a, z, rfl, rfl, q⟩
theorem L_fld {f : Str} (h : ta σ H fun x H1 => ∃ a C dx fs v, x = .ref a ∧ H1 a = some (.ins C dx fs) ∧ Cls K C ∧ NoAttr K C f ∧ fs.lookup f = some v ∧ Q v H1) : tFld K ta f σ H Q := h
theorem L_fldv {a C dx : Addr} {fs : List (Str × V)} {f : Str} {Q : V → Prop} (h : H a = some (.ins C dx fs)) (cl : Cls K C) (n : NoAttr K C f) (l : fs.lookup f = some v) (q : Q v) :
    ∃ a' C dx fs v, V.ref a = V.ref a' ∧ H a' = some (.ins C dx fs) ∧ Cls K C ∧ NoAttr K C f ∧ fs.lookup f = some v ∧ Q v := ⟨a, C, dx, fs, v, rfl, h, cl, n, l, q⟩
theorem L_tTest {Q : Bool → Hp → Prop} (h : te σ H fun x H' => ∃ k, x = .bl k ∧ Q k H') : tTest te σ H Q := h
theorem L_tB {Q : Bool → Hp → Prop} (h : te σ H fun x H' => ∃ k, x = .bl k ∧ Q k H') : tB te σ H Q := h
theorem L_k {b : Bool} {Q : Bool → Prop} (q : Q b) : ∃ k, V.bl b = V.bl k ∧ Q k := ⟨b, rfl, q⟩
theorem L_tru {Q : Bool → Hp → Prop} (h : te σ H fun x H' => ∃ k, TruV K x H' k ∧ Q k H') : aTru K te σ H Q := h
theorem L_truB {b : Bool} {Q : Bool → Prop} (q : Q b) : ∃ k, TruV K (.bl b) H k ∧ Q k := ⟨b, rfl, q⟩
theorem L_truI {i : Int} {Q : Bool → Prop} (q : Q (i != 0)) : ∃ k, TruV K (.int i) H k ∧ Q k := ⟨_, rfl, q⟩
theorem L_and {Q : Bool → Hp → Prop} (h : c σ H fun b H1 => if b = true then d σ H1 Q else Q false H1) : tAnd c d σ H Q := h
theorem L_or {Q : Bool → Hp → Prop} (h : c σ H fun b H1 => if b = true then Q true H1 else d σ H1 Q) : tOr c d σ H Q := h
theorem L_not {Q : Bool → Hp → Prop} (h : c σ H fun b H1 => Q (!b) H1) : tNot c σ H Q := h
theorem L_andV (h : ta σ H fun x H1 => ∃ c, x = .bl c ∧ if c = true then tb σ H1 Q else Q (.bl false) H1) : tAndV ta tb σ H Q := h
theorem L_orV (h : ta σ H fun x H1 => ∃ c, x = .bl c ∧ if c = true then Q (.bl true) H1 else tb σ H1 Q) : tOrV ta tb σ H Q := h
theorem L_notV (h : ta σ H fun x H1 => ∃ c, x = .bl c ∧ Q (.bl (!c)) H1) : tNotV ta σ H Q := h
theorem L_ifE (h : c σ H fun b H1 => if b = true then ta σ H1 Q else tb σ H1 Q) : tIf c ta tb σ H Q := h
theorem L_chain (h : ta σ H fun x H1 => tb σ H1 fun y H2 => r x y H2 fun z H3 => ∃ k, z = .bl k ∧ (if k = true then tc σ H3 fun w' H4 => r' y w' H4 Q else Q (.bl false) H3)) : tChain r r' ta tb tc σ H Q := h
theorem L_T {A B : Prop} (a : A) : if true = true then A else B := by rw [if_pos rfl]; exact a
theorem L_F {A B : Prop} (b : B) : if false = true then A else B := by rw [if_neg Bool.false_ne_true]; exact b
theorem L_dT {p : Prop} [Decidable p] {A B : Prop} (h : p) (a : A) : if decide p = true then A else B := by rw [decide_eq_true h]; exact L_T a
theorem L_dF {p : Prop} [Decidable p] {A B : Prop} (h : ¬ p) (b : B) : if decide p = true then A else B := by rw [decide_eq_false h]; exact L_F b
theorem L_d {p : Prop} [Decidable p] {A B : Prop} (a : p → A) (b : ¬ p → B) : if decide p = true then A else B := by
  by_cases h : p
  · exact L_dT h (a h)
  · exact L_dF h (b h)
theorem L_nd {p : Prop} [Decidable p] {A B : Prop} (a : ¬ p → A) (b : p → B) : if (!decide p) = true then A else B := by
  by_cases h : p
  · rw [decide_eq_true h]; exact L_F (b h)
  · rw [decide_eq_false h]; exact L_T (a h)
theorem L_ndT {p : Prop} [Decidable p] {A B : Prop} (h : ¬ p) (a : A) : if (!decide p) = true then A else B := by rw [decide_eq_false h]; exact L_T a
theorem L_ndF {p : Prop} [Decidable p] {A B : Prop} (h : p) (b : B) : if (!decide p) = true then A else B := by rw [decide_eq_true h]; exact L_F b
theorem L_b {k : Bool} {A B : Prop} (a : k = true → A) (b : k = false → B) : if k = true then A else B := by
  cases k with
  | true => exact L_T (a rfl)
  | false => exact L_F (b rfl)
theorem L_nT {A B : Prop} (b : B) : if (!true) = true then A else B := L_F b
theorem L_nF {A B : Prop} (a : A) : if (!false) = true then A else B := L_T a
theorem L_nil {Q : List V → Hp → Prop} (q : Q [] H) : tNil σ H Q := q
theorem L_cons {Q : List V → Hp → Prop} (h : ta σ H fun x H1 => tr σ H1 fun xs H2 => Q (x :: xs) H2) : tCons ta tr σ H Q := h
theorem L_tup (h : tr σ H fun xs H1 => xs.length ≤ sizeLine ∧ ∀ p, H1 p = none → Q (.ref p) (upd H1 p (.tup xs))) : tTup tr σ H Q := h
theorem L_lst (h : tr σ H fun xs H1 => xs.length ≤ sizeLine ∧ ∀ p, H1 p = none → Q (.ref p) (upd H1 p (.lst xs))) : tLst tr σ H Q := h
theorem L_new {n : Nat} {R : Prop} (hl : n ≤ sizeLine) (q : R) : n ≤ sizeLine ∧ R := ⟨hl, q⟩
theorem L_call {sp : Sp} {E : XK} (h : tr σ H fun vs H1 => sp vs H1 Q E) : tCall sp [] E tr σ H Q := by
  unfold tCall
  simp only [List.append_nil]
  exact h
theorem L_cb {r : List V → Hp → VK → Prop} (h : tr σ H fun vs H1 => r vs H1 Q) : tCB r tr σ H Q := h
theorem L_lenL {a : Addr} {xs : List V} (h : SqL K H a xs) (q : Q (.int xs.length) H) : aLen K [.ref a] H Q := .inl ⟨a, xs, rfl, .inl h, q⟩
theorem L_lenT {a : Addr} {xs : List V} (h : SqT K H a xs) (q : Q (.int xs.length) H) : aLen K [.ref a] H Q := .inl ⟨a, xs, rfl, .inr h, q⟩
theorem L_lenS {z : Str} (h : z.length ≤ sizeLine) (q : Q (.int z.length) H) : aLen K [.str z] H Q := .inr (.inl ⟨z, rfl, h, q⟩)
theorem L_abs {i : Int} (q : Q (.int (if i < 0 then -i else i)) H) : aAbs [.int i] H Q := ⟨i, rfl, q⟩
theorem L_max2 {i j : Int} (q : Q (.int (max i j)) H) : aMax2 [.int i, .int j] H Q := ⟨i, j, rfl, by rw [show (if j > i then j else i) = max i j by omega]; exact q⟩
theorem L_min2 {i j : Int} (q : Q (.int (min i j)) H) : aMin2 [.int i, .int j] H Q := ⟨i, j, rfl, by rw [show (if j < i then j else i) = min i j by omega]; exact q⟩
theorem L_int1 {i : Int} (q : Q (.int i) H) : aInt1 [.int i] H Q := .inl ⟨i, rfl, q⟩
theorem L_int1B {k : Bool} (q : Q (.int (if k then 1 else 0)) H) : aInt1 [.bl k] H Q := .inr ⟨k, rfl, q⟩
theorem L_isi {a n : String} {b : Bool} (hx : TyX K H x (.type a)) (hk : kitB a n = some b) (q : Q (.bl b) H) : rIsi K [x, .ty n] H Q := ⟨x, .ty n, .type a, .type n, b, rfl, .ty n, hx, kit_ty hk, q⟩
theorem L_ixL {p : Addr} {xs : List V} {i : Int} (h : SqL K H p xs) (ha : atI xs i = some v) (q : Q v H) : rIx K (.ref p) (.int i) H Q := .inl ⟨p, xs, i, v, rfl, rfl, h, ha, q⟩
theorem L_ixT {p : Addr} {xs : List V} {i : Int} (h : SqT K H p xs) (ha : atI xs i = some v) (q : Q v H) : rIx K (.ref p) (.int i) H Q := .inr (.inl ⟨p, xs, i, v, rfl, rfl, h, ha, q⟩)
theorem L_ixS {z : Str} {i : Int} {a : Nat} (h : z.length ≤ sizeLine) (ha : atI z.cps.toList i = some a) (q : Q (.str ⟨#[a]⟩) H) : rIx K (.str z) (.int i) H Q := .inr (.inr ⟨z, i, a, rfl, rfl, h, ha, q⟩)
theorem L_bm {T : String} {r : V → List V → Hp → VK → Prop} (h : te σ H fun x H1 => tyV K T x H1 ∧ tr σ H1 fun xs H2 => r x xs H2 Q) : tBM K T r te tr σ H Q := h
theorem L_tyL {a : Addr} {xs : List V} {R : Prop} (h : SqL K H a xs) (q : R) : tyV K "list" (.ref a) H ∧ R := ⟨.inl ⟨rfl, xs, h⟩, q⟩
theorem L_app {a : Addr} {xs : List V} (h : H a = some (.lst xs)) (hl : xs.length < sizeLine) (q : Q .non (upd H a (.lst (xs ++ [v])))) : rAppend (.ref a) [v] H Q := ⟨a, xs, v, rfl, rfl, h, hl, q⟩
theorem L_sum {a : Addr} {ns : List Int} (h : SqL K H a (ns.map V.int)) (q : Q (.int ns.sum) H) : rSum K [.ref a] H Q := ⟨a, ns, rfl, h, q⟩
theorem L_while (W : Nat → L2.St → Hp → Prop) (h0 : ∃ m, W m σ H) (hs : ∀ m σ H, W m σ H → c σ H fun b H1 => if b = true then ∃ M : L2.St → Hp → Prop, (∀ σ' H', M σ' H' → ∃ m', m' < m ∧ W m' σ' H') ∧ t ⟨M, R, N, M⟩ σ H1 else N σ H1) : tWhile c t ⟨N, R, B, C⟩ σ H := ⟨W, h0, hs⟩
theorem L_N {W : Nat → L2.St → Hp → Prop} {m : Nat} (h : t ⟨fun σ' H' => ∃ m', m' < m ∧ W m' σ' H', R, N, fun σ' H' => ∃ m', m' < m ∧ W m' σ' H'⟩ σ H) :
    ∃ M : L2.St → Hp → Prop, (∀ σ' H', M σ' H' → ∃ m', m' < m ∧ W m' σ' H') ∧ t ⟨M, R, N, M⟩ σ H := ⟨_, fun _ _ h => h, h⟩
theorem L_cut {Mid : L2.St → Hp → Prop} (h : t ⟨Mid, R, B, C⟩ σ H) (k : ∀ σ' H', Mid σ' H' → u ⟨N, R, B, C⟩ σ' H') : Evl.tCut t u ⟨N, R, B, C⟩ σ H := ⟨Mid, h, k⟩
theorem L_for {wi : TI} (h : wi σ H fun J H1 => ∃ W : Nat → Nat → L2.St → Hp → Prop, (∃ m, W 0 m σ H1) ∧ ∀ i m σ H, W i m σ H →
      (J.stop i H ∧ N σ H) ∨ (J.go i H ∧ ∃ M : L2.St → Hp → Prop, (∀ σ' H', M σ' H' → ∃ m', m' < m ∧ W (i + 1) m' σ' H') ∧ ∀ x H', J.yld i H x H' → g x σ H' fun σ2 H2 => t ⟨M, R, N, M⟩ σ2 H2)) : tFor wi g t ⟨N, R, B, C⟩ σ H := h
theorem L_iRng1 {R : It → Hp → Prop} (h : tr σ H fun vs H1 => ∃ j : Int, vs = [.int j] ∧ -(2 ^ 62) ≤ j ∧ j < 2 ^ 62 ∧ R (Itr 0 j.toNat) H1) : iRng1 tr σ H R := h
theorem L_iRng2 {R : It → Hp → Prop} (h : tr σ H fun vs H1 => ∃ i j : Int, vs = [.int i, .int j] ∧ (-(2 ^ 62) ≤ i ∧ i < 2 ^ 62 ∧ -(2 ^ 62) ≤ j ∧ j < 2 ^ 62) ∧ R (Itr i (j - i).toNat) H1) : iRng2 tr σ H R := h
theorem L_iList {R : It → Hp → Prop} (h : te σ H fun x H1 => ∃ a, x = .ref a ∧ (∃ xs, SqL K H1 a xs) ∧ R (Itl K a) H1) : iList K te σ H R := h
theorem L_iTup {R : It → Hp → Prop} (h : te σ H fun x H1 => ∃ a, x = .ref a ∧ (∃ xs, SqT K H1 a xs) ∧ R (Itt K a) H1) : iTup K te σ H R := h
theorem L_r1 {n : Int} {R : Int → Prop} (h1 : -(2 ^ 62) ≤ n) (h2 : n < 2 ^ 62) (q : R n) : ∃ j : Int, [V.int n] = [V.int j] ∧ -(2 ^ 62) ≤ j ∧ j < 2 ^ 62 ∧ R j := ⟨n, rfl, h1, h2, q⟩
theorem L_r2 {a n : Int} {R : Int → Int → Prop} (h : -(2 ^ 62) ≤ a ∧ a < 2 ^ 62 ∧ -(2 ^ 62) ≤ n ∧ n < 2 ^ 62) (q : R a n) : ∃ i j : Int, [V.int a, V.int n] = [V.int i, V.int j] ∧ (-(2 ^ 62) ≤ i ∧ i < 2 ^ 62 ∧ -(2 ^ 62) ≤ j ∧ j < 2 ^ 62) ∧ R i j := ⟨a, n, rfl, h, q⟩
theorem L_rl {a : Addr} {xs : List V} {R : Addr → Prop} (h : SqL K H a xs) (q : R a) : ∃ b, V.ref a = V.ref b ∧ (∃ xs, SqL K H b xs) ∧ R b := ⟨a, rfl, ⟨xs, h⟩, q⟩
theorem L_rt {a : Addr} {xs : List V} {R : Addr → Prop} (h : SqT K H a xs) (q : R a) : ∃ b, V.ref a = V.ref b ∧ (∃ xs, SqT K H b xs) ∧ R b := ⟨a, rfl, ⟨xs, h⟩, q⟩
end
theorem sz_dec {n : Nat} (h : n ≤ 1000000) : n ≤ sizeLine := Nat.le_trans h (by decide)
theorem sz_lt {n : Nat} (h : n < 1000000) : n < sizeLine := Nat.lt_of_lt_of_le h (by decide)
/-! ### sizes of ints -/
/-- less than n bits -/
def Bd (n : Nat) (i : Int) : Prop := i.natAbs < 2 ^ n
theorem Bd.mono {n m : Nat} {i : Int} (h : Bd n i) (hm : n ≤ m) : Bd m i := Nat.lt_of_lt_of_le h (Nat.pow_le_pow_right (by decide) hm)
theorem Bd.mul {n m : Nat} {i j : Int} (h : Bd n i) (k : Bd m j) : Bd (n + m) (i * j) := wide_lt h k
theorem Bd.add {n m : Nat} {i j : Int} (h : Bd n i) (k : Bd m j) : Bd (max n m + 1) (i + j) := by
  have a := h.mono (Nat.le_max_left n m)
  have b := k.mono (Nat.le_max_right n m)
  unfold Bd at *
  rw [Nat.pow_succ]
  have := Int.natAbs_add_le i j
  omega
theorem Bd.neg {n : Nat} {i : Int} (h : Bd n i) : Bd n (-i) := by unfold Bd at *; rw [Int.natAbs_neg]; exact h
theorem Bd.sub {n m : Nat} {i j : Int} (h : Bd n i) (k : Bd m j) : Bd (max n m + 1) (i - j) := by
  rw [Int.sub_eq_add_neg]; exact h.add k.neg
theorem Bd.cmul {n m : Nat} {i j : Int} (h : Bd n i) (k : Bd m j) (hz : n + m + 2 ≤ 1000000 := by decide) : CMulW i j :=
  wide_mul (h.mono (Nat.le_succ n)) (k.mono (Nat.le_succ m)) (Nat.succ_pos _) (Nat.succ_pos _) (by omega)
theorem Bd.cdiv {n : Nat} {i j : Int} (k : Bd n j) (h : 0 < j) (hz : n + 1 ≤ 9000 := by decide) : CDivW i j := wide_div h (k.mono (Nat.le_succ n)) (Nat.succ_pos _) hz
theorem bd_lit {i : Int} (h : -4294967296 < i ∧ i < 4294967296) : Bd 32 i := by
  unfold Bd
  have : (2 : Nat) ^ 32 = 4294967296 := by decide
  omega
theorem bd_64 {i : Int} (h : -18446744073709551616 < i ∧ i < 18446744073709551616) : Bd 64 i := by
  unfold Bd
  have : (2 : Nat) ^ 64 = 18446744073709551616 := by decide
  omega
/-- an item of the script, or what stands in its place -/
def cellAt (ns : List Int) (k d : Int) : Int := if k < (ns.length : Int) then ns.getD k.toNat 0 else d
theorem cellAt_in {ns : List Int} {k d : Int} (h0 : 0 ≤ k) (h : k < (ns.length : Int)) : atI (ns.map V.int) k = some (V.int (cellAt ns k d)) := by
  obtain ⟨j, rfl⟩ : ∃ j : Nat, k = (j : Int) := ⟨k.toNat, by omega⟩
  have hl : j < ns.length := by omega
  unfold cellAt
  rw [if_pos h]
  refine atI_nat ?_
  rw [List.getElem?_map, List.getElem?_eq_getElem hl]
  simp [List.getD, List.getElem?_eq_getElem hl]
theorem cellAt_out {ns : List Int} {k d : Int} (h : ¬ k < (ns.length : Int)) : cellAt ns k d = d := if_neg h
theorem cellAt_mem {ns : List Int} {k d : Int} (h0 : 0 ≤ k) : cellAt ns k d ∈ ns ∨ cellAt ns k d = d := by
  unfold cellAt
  split
  · rename_i h
    have hl : k.toNat < ns.length := by omega
    left
    simp [List.getD, List.getElem?_eq_getElem hl]
  · exact .inr rfl
theorem _root_.L2.Same.seqT {K : PySem.W.Frag} {H H' : Hp} {a : Addr} {xs : List V} (e : Same H H') (h : SqT K H a xs) : SqT K H' a xs := by
  rcases h with (h | ⟨o, h⟩) | h
  · exact .inl (.inl (e _ _ h))
  · exact .inl (.inr ⟨o, e _ _ h⟩)
  · exact .inr h
/-! ### what is walked: more -/
section
variable {K : PySem.W.Frag} {σ : L2.St} {H : Hp} {te : TE} {tr : TA} {Q : VK} {g : TG} {tt : TT}
theorem L_yes {Q : Bool → Hp → Prop} (q : Q true H) : tYes σ H Q := q
theorem L_iZip {R : It → Hp → Prop} (h : tr σ H fun vs H1 => ∃ a b xs ys, vs = [.ref a, .ref b] ∧ SqL K H1 a xs ∧ SqL K H1 b ys ∧ R (Itz K a b) H1) : iZip K tr σ H R := h
theorem L_iEnum {R : It → Hp → Prop} (h : tr σ H fun vs H1 => ∃ a xs, vs = [.ref a] ∧ SqL K H1 a xs ∧ R (Ite K a) H1) : iEnum K tr σ H R := h
theorem L_iStr {R : It → Hp → Prop} (h : te σ H fun v H1 => ∃ x, v = .str x ∧ R (Its x) H1) : iStr te σ H R := h
theorem L_iRng3 {R : It → Hp → Prop} (h : tr σ H fun vs H1 => ∃ (i j c : Int) (n : Nat), vs = [.int i, .int j, .int c] ∧ RgC i j c n ∧ R (Itc i c n) H1) : iRng3 tr σ H R := h
theorem L_rz {a b : Addr} {xs ys : List V} {R : Addr → Addr → Prop} (h1 : SqL K H a xs) (h2 : SqL K H b ys) (q : R a b) : ∃ a' b' xs ys, [V.ref a, V.ref b] = [.ref a', .ref b'] ∧ SqL K H a' xs ∧ SqL K H b' ys ∧ R a' b' := ⟨a, b, xs, ys, rfl, h1, h2, q⟩
theorem L_re {a : Addr} {xs : List V} {R : Addr → Prop} (h1 : SqL K H a xs) (q : R a) : ∃ a' xs, [V.ref a] = [.ref a'] ∧ SqL K H a' xs ∧ R a' := ⟨a, xs, rfl, h1, q⟩
theorem L_rs {z : Str} {R : Str → Prop} (q : R z) : ∃ x, V.str z = .str x ∧ R x := ⟨z, rfl, q⟩
theorem L_r3 {i j c : Int} {n : Nat} {R : Int → Int → Nat → Prop} (h : RgC i j c n) (q : R i c n) : ∃ (i' j' c' : Int) (n : Nat), [V.int i, V.int j, V.int c] = [.int i', .int j', .int c'] ∧ RgC i' j' c' n ∧ R i' c' n := ⟨i, j, c, n, rfl, h, q⟩
theorem L_lc {wi : TI} {vs : List Nat} (h : wi σ H fun J H1 => ∀ D, H1 D = none → ∃ W : Nat → Nat → Hp → Prop, (∃ m, W 0 m (upd H1 D (.lst []))) ∧ ∀ i m H, W i m H →
  (J.stop i H ∧ Q (.ref D) H) ∨ (J.go i H ∧ ∃ Nx : Hp → Prop, (∀ H', Nx H' → ∃ m', m' < m ∧ W (i + 1) m' H') ∧ ∀ x H', J.yld i H x H' → g x (wipe σ vs) H' fun σ2 H2 => wipe σ2 vs = wipe σ vs ∧ tt σ2 H2 fun b H3 =>
    if b = true then te σ2 H3 fun y H4 => ∃ acc, H4 D = some (.lst acc) ∧ acc.length < sizeLine ∧ Nx (upd H4 D (.lst (acc ++ [y]))) else Nx H3)) : tLc wi g tt te vs σ H Q := h
theorem fm_succ (f : Nat → Option V) (i : Nat) : (List.range (i + 1)).filterMap f = (List.range i).filterMap f ++ (match f i with | some y => [y] | none => []) := by
  rw [List.range_succ, List.filterMap_append]
  cases h : f i <;> simp [h]
theorem fm_len (f : Nat → Option V) (i : Nat) : ((List.range i).filterMap f).length ≤ i := by
  have := List.length_filterMap_le f (List.range i)
  simpa using this
/-- a comprehension whose things are told one by one: f i is what turn i gives, none where its test is false -/
theorem lc_fm {J : It} {n : Nat} {G : Hp → Prop} {Y : Nat → Hp → V → Hp → Prop} (w : L2.Walk J n G Y) {vs : List Nat} {Qd : Addr → Hp → Prop} (f : Nat → Option V) (hn : n ≤ 1000000) (hG : ∀ H', Same H H' → G H')
    (hs : ∀ i x H2 H' (R : V → Hp → Prop) (R' : Hp → Prop), i < n → Same H H2 → Y i H2 x H' → (∀ y H4, f i = some y → Same H2 H4 → R y H4) → (∀ H3, f i = none → Same H2 H3 → R' H3) →
      g x (wipe σ vs) H' fun σ2 H2 => wipe σ2 vs = wipe σ vs ∧ tt σ2 H2 fun b H3 => if b = true then te σ2 H3 R else R' H3)
    (q : ∀ p H', H p = none → Same H H' → H' p = some (.lst ((List.range n).filterMap f)) → Qd p H') :
    ∀ D, H D = none → ∃ W : Nat → Nat → Hp → Prop, (∃ m, W 0 m (upd H D (.lst []))) ∧ ∀ i m H, W i m H →
      (J.stop i H ∧ Qd D H) ∨ (J.go i H ∧ ∃ Nx : Hp → Prop, (∀ H', Nx H' → ∃ m', m' < m ∧ W (i + 1) m' H') ∧ ∀ x H', J.yld i H x H' → g x (wipe σ vs) H' fun σ2 H2 => wipe σ2 vs = wipe σ vs ∧ tt σ2 H2 fun b H3 =>
        if b = true then te σ2 H3 fun y H4 => ∃ acc, H4 D = some (.lst acc) ∧ acc.length < sizeLine ∧ Nx (upd H4 D (.lst (acc ++ [y]))) else Nx H3) := by
  intro D hD
  refine lc_it w (fun i H2 => Same H H2 ∧ H2 D = some (.lst ((List.range i).filterMap f))) ⟨same_new hD, upd_same⟩ (fun i H2 _ p => hG H2 p.1) ?_ (fun H2 p => q D H2 hD p.1 p.2)
  intro i x H2 H' hi ⟨p1, p2⟩ y
  refine hs i x H2 H' _ _ hi p1 y (fun y H4 e s => ?_) (fun H3 e s => ?_)
  · refine ⟨_, s _ _ p2, sz_lt (by have := fm_len f i; omega), ?_, ?_⟩
    · intro b o hb
      rw [upd_ne (ne_of_none hb hD)]
      exact s _ _ (p1 _ _ hb)
    · rw [fm_succ, e]; exact upd_same
  · refine ⟨p1.trans s, ?_⟩
    rw [fm_succ, e, List.append_nil]
    exact s _ _ p2
theorem fm_map {α : Type} (f : Nat → α) (h : α → V) (n : Nat) : (List.range n).filterMap (fun i => some (h (f i))) = ((List.range n).map f).map h := by
  rw [List.map_map]
  induction n with
  | zero => rfl
  | succ n ih => rw [fm_succ (fun i => some (h (f i))), ih, List.range_succ, List.map_append]; rfl
theorem rgC_up {i j c : Int} (hc : 0 < c) (hc2 : c < 1000000) (hi : -1000000000 ≤ i ∧ i ≤ 1000000000) (hj : -1000000000 ≤ j ∧ j ≤ 1000000000) : RgC i j c (if i < j then ((j - i - 1) / c + 1).toNat else 0) := by
  have e : Builtin.Range.rangeSize i j c = ((if i < j then ((j - i - 1) / c + 1).toNat else 0 : Nat) : Int) := by
    unfold Builtin.Range.rangeSize
    rw [if_pos (by omega)]
    split
    · have : 0 ≤ (j - i - 1) / c := Int.ediv_nonneg (by omega) (by omega)
      omega
    · rfl
  refine ⟨by omega, by omega, ?_, e⟩
  unfold Builtin.Range.small
  rw [e]
  have hz : ((if i < j then ((j - i - 1) / c + 1).toNat else 0 : Nat) : Int) * c ≤ 4000000000 ∧ ((if i < j then ((j - i - 1) / c + 1).toNat else 0 : Nat) : Int) ≤ 4000000000 ∧ 0 ≤ ((if i < j then ((j - i - 1) / c + 1).toNat else 0 : Nat) : Int) := by
    split
    · have h0 : 0 ≤ (j - i - 1) / c := Int.ediv_nonneg (by omega) (by omega)
      have h1 : (j - i - 1) / c * c ≤ j - i - 1 := Int.ediv_mul_le _ (by omega)
      have h2 : (j - i - 1) / c ≤ j - i - 1 := Int.ediv_le_self _ (by omega)
      have h3 : (((j - i - 1) / c + 1).toNat : Int) = (j - i - 1) / c + 1 := by omega
      rw [h3, Int.add_mul]
      omega
    · simp
  generalize ((if i < j then ((j - i - 1) / c + 1).toNat else 0 : Nat) : Int) = n at *
  simp only [Builtin.Range.rangeFitsLong, Bool.and_eq_true, Bool.or_eq_true, decide_eq_true_eq, beq_iff_eq]
  refine ⟨by omega, .inr ?_⟩
  rw [if_pos (by omega), Bool.and_eq_true, decide_eq_true_eq, decide_eq_true_eq]
  omega
/-- what making an instance asks -/
def MakeP (C : Addr) (sp : Sp) (E : XK) (vs : List V) (H : Hp) (Q : VK) : Prop := ∀ x dx, H x = none → H dx = none → dx ≠ x → sp (.ref x :: vs) (upd (upd H dx (.own x)) x (.ins C dx [])) (fun v H2 => v = .non ∧ Q (.ref x) H2) E
theorem L_make {C : Addr} {sp : Sp} {E : XK} (h : tr σ H fun vs H1 => MakeP C sp E vs H1 Q) : tMake C sp [] E tr σ H Q := by
  unfold tMake
  simp only [List.append_nil]
  exact h
/-- a new instance: all that stood stands -/
def NewI (H : Hp) (C : Addr) (fs : List (Str × V)) (Q : VK) : Prop := ∀ p H' dx, H p = none → Same H H' → H' p = some (.ins C dx fs) → Q (.ref p) H'
theorem L_gTup {n : Nat} {t : TGs} {a : Addr} {xs : List V} {Q : L2.St → Hp → Prop} (h : SqT K H a xs) (hn : xs.length = n) (q : t xs σ H Q) : gTup K n t (.ref a) σ H Q := ⟨a, xs, rfl, h, hn, q⟩
theorem L_gLst {n : Nat} {t : TGs} {a : Addr} {xs : List V} {Q : L2.St → Hp → Prop} (h : SqL K H a xs) (hn : xs.length = n) (q : t xs σ H Q) : gLst K n t (.ref a) σ H Q := ⟨a, xs, rfl, h, hn, q⟩
theorem L_gCons {v : V} {r : List V} {t : TG} {u : TGs} {Q : L2.St → Hp → Prop} (q : t v σ H fun σ' H' => u r σ' H' Q) : gCons t u (v :: r) σ H Q := ⟨v, r, rfl, q⟩
theorem L_gNil {Q : L2.St → Hp → Prop} (q : Q σ H) : gNil [] σ H Q := ⟨rfl, q⟩
theorem L_sub {to ti : TE} {t : TSet} {v : V} {Q : L2.St → Hp → Prop} (h : to σ H fun o H1 => ti σ H1 fun i H2 => t o i v H2 fun H3 => Q σ H3) : gSub to ti t v σ H Q := h
theorem L_setL {p : Addr} {xs : List V} {k : Int} {j : Nat} {v : V} {Q : Hp → Prop} (h : H p = some (.lst xs)) (hj : ixN xs.length k = some j) (q : Q (upd H p (.lst (xs.set j v)))) : rSetL (.ref p) (.int k) v H Q := ⟨p, xs, k, j, rfl, rfl, h, hj, q⟩
theorem ixN_of {n : Nat} {k : Int} (h0 : 0 ≤ k) (h : k < n) : ixN n k = some k.toNat := by
  unfold ixN
  rw [if_pos h0, if_pos h]
theorem L_sFld {f : Str} {ta tv : TE} {N B C' : L2.St → Hp → Prop} {R : VK} (h : tv σ H fun y H1 => ta σ H1 fun x H2 => ∃ a C dx fs, x = .ref a ∧ H2 a = some (.ins C dx fs) ∧ Cls K C ∧ NoAttr K C f ∧ fs.length < 1000 ∧ N σ (upd H2 a (.ins C dx (putF f y fs)))) : sFld K ta tv f ⟨N, R, B, C'⟩ σ H := h
theorem L_sFldv {a C dx : Addr} {fs : List (Str × V)} {f : Str} {Q : Addr → Addr → Addr → List (Str × V) → Prop} (h : H a = some (.ins C dx fs)) (cl : Cls K C) (n : NoAttr K C f) (l : fs.length < 1000) (q : Q a C dx fs) :
    ∃ a' C dx fs, V.ref a = V.ref a' ∧ H a' = some (.ins C dx fs) ∧ Cls K C ∧ NoAttr K C f ∧ fs.length < 1000 ∧ Q a' C dx fs := ⟨a, C, dx, fs, rfl, h, cl, n, l, q⟩
theorem L_repL {a : Addr} {xs : List V} {k : Int} (h : H a = some (.lst xs)) (h1 : -(2 ^ 63) ≤ k) (h2 : k < 2 ^ 63) (h3 : xs.length * k.toNat ≤ sizeLine) (q : ∀ p, H p = none → Q (.ref p) (upd H p (.lst (List.replicate k.toNat xs).flatten))) : aMul (.ref a) (.int k) H Q := .inr ⟨a, k, xs, rfl, rfl, h, h1, h2, h3, q⟩
theorem atI_int {xs : List V} {k : Int} {v : V} (h0 : 0 ≤ k) (h : xs[k.toNat]? = some v) : atI xs k = some v := by
  obtain ⟨j, rfl⟩ : ∃ j : Nat, k = (j : Int) := ⟨k.toNat, by omega⟩
  exact atI_nat h
theorem atI_ints {xs : List Int} {k : Int} (h0 : 0 ≤ k) (h : k < xs.length) : atI (xs.map V.int) k = some (.int (xs.getD k.toNat 0)) := by
  refine atI_int h0 ?_
  have hl : k.toNat < xs.length := by omega
  rw [List.getElem?_map, List.getElem?_eq_getElem hl]
  simp [List.getD, List.getElem?_eq_getElem hl]
theorem L_nw {xs : List V} {R : Prop} (q : R) (hl : xs.length ≤ 1000000 := by simp) : xs.length ≤ sizeLine ∧ R := ⟨sz_dec hl, q⟩
end
theorem fm_succ' {α : Type} (f : Nat → Option α) (i : Nat) : (List.range (i + 1)).filterMap f = (List.range i).filterMap f ++ (match f i with | some y => [y] | none => []) := by
  rw [List.range_succ, List.filterMap_append]
  cases h : f i <;> simp [h]
theorem fm_len' {α : Type} (f : Nat → Option α) (i : Nat) : ((List.range i).filterMap f).length ≤ i := by
  have := List.length_filterMap_le f (List.range i)
  simpa using this
/-! ### data as trees -/
mutual
theorem Dp_same {K : PySem.W.Frag} {H H' : Hp} (e : Same H H') : ∀ (d : PyData) {v : V}, Dp K H v d → Dp K H' v d
  | .none, _, h => by cases h; exact .non
  | .bool b, _, h => by cases h; exact .bl b
  | .int i, _, h => by cases h; exact .int i
  | .str x, _, h => by cases h; exact .str x
  | .list ds, _, h => by cases h with | lst hs ha => exact .lst (e.seq hs) (DpAll_same e ds ha)
  | .tuple ds, _, h => by cases h with | tup hs ha => exact .tup (e.seqT hs) (DpAll_same e ds ha)
  | .dict _, _, h => by cases h
theorem DpAll_same {K : PySem.W.Frag} {H H' : Hp} (e : Same H H') : ∀ (ds : List PyData) {vs : List V}, DpAll K H vs ds → DpAll K H' vs ds
  | [], _, h => by cases h; exact .nil
  | d :: ds, _, h => by cases h with | cons h1 h2 => exact .cons (Dp_same e d h1) (DpAll_same e ds h2)
end
section
variable {K : PySem.W.Frag} {H H' : Hp} {v : V} {vs : List V} {d : PyData} {ds : List PyData}
theorem _root_.L2.Dp.same (h : Dp K H v d) (e : Same H H') : Dp K H' v d := Dp_same e d h
theorem _root_.L2.DpAll.same (h : DpAll K H vs ds) (e : Same H H') : DpAll K H' vs ds := DpAll_same e ds h
theorem _root_.L2.DpAll.len : ∀ {ds : List PyData} {vs : List V}, DpAll K H vs ds → vs.length = ds.length
  | [], _, h => by cases h; rfl
  | d :: ds, _, h => by cases h with | cons h1 h2 => rw [List.length_cons, List.length_cons, h2.len]
theorem _root_.L2.DpAll.at : ∀ {ds : List PyData} {vs : List V} {i : Nat}, DpAll K H vs ds → ds[i]? = some d → ∃ v, vs[i]? = some v ∧ Dp K H v d
  | [], _, i, h, e => by simp at e
  | c :: ds, _, 0, h, e => by
    cases h with
    | cons h1 h2 =>
      rename_i v vs
      have : c = d := by simpa using e
      subst this
      exact ⟨v, by simp, h1⟩
  | c :: ds, _, i + 1, h, e => by
    cases h with
    | cons h1 h2 =>
      obtain ⟨v, q1, q2⟩ := h2.at (i := i) (by simpa using e)
      exact ⟨v, by simpa using q1, q2⟩
theorem _root_.L2.DpAll.of : ∀ {ds : List PyData} {vs : List V} {i : Nat}, DpAll K H vs ds → vs[i]? = some v → ∃ d, ds[i]? = some d ∧ Dp K H v d
  | [], _, i, h, e => by cases h; simp at e
  | c :: ds, _, 0, h, e => by
    cases h with
    | cons h1 h2 =>
      rename_i w vs
      have : w = v := by simpa using e
      subst this
      exact ⟨c, by simp, h1⟩
  | c :: ds, _, i + 1, h, e => by
    cases h with
    | cons h1 h2 =>
      obtain ⟨d, q1, q2⟩ := h2.of (i := i) (by simpa using e)
      exact ⟨d, by simpa using q1, q2⟩
theorem _root_.L2.DpAll.app : ∀ {ds es : List PyData} {vs us : List V}, DpAll K H vs ds → DpAll K H us es → DpAll K H (vs ++ us) (ds ++ es)
  | [], _, _, _, h, g => by cases h; exact g
  | d :: ds, _, _, _, h, g => by cases h with | cons h1 h2 => exact .cons h1 (h2.app g)
theorem _root_.L2.DpAll.snoc (h : DpAll K H vs ds) (g : Dp K H v d) : DpAll K H (vs ++ [v]) (ds ++ [d]) := h.app (.cons g .nil)
theorem dp_ints : ∀ (ns : List Int), DpAll K H (ns.map V.int) (ns.map PyData.int)
  | [] => .nil
  | n :: ns => .cons (.int n) (dp_ints ns)
theorem dp_strs : ∀ (ns : List Str), DpAll K H (ns.map V.str) (ns.map PyData.str)
  | [] => .nil
  | n :: ns => .cons (.str n) (dp_strs ns)
theorem of_ints : ∀ {ns : List Int} {vs : List V}, DpAll K H vs (ns.map PyData.int) → vs = ns.map V.int
  | [], _, h => by cases h; rfl
  | n :: ns, _, h => by
    cases h with
    | cons h1 h2 => cases h1; rw [of_ints h2]; rfl
theorem of_strs : ∀ {ns : List Str} {vs : List V}, DpAll K H vs (ns.map PyData.str) → vs = ns.map V.str
  | [], _, h => by cases h; rfl
  | n :: ns, _, h => by
    cases h with
    | cons h1 h2 => cases h1; rw [of_strs h2]; rfl
theorem of_tup (h : Dp K H v (.tuple ds)) : ∃ a xs, v = .ref a ∧ SqT K H a xs ∧ DpAll K H xs ds := by
  cases h with | tup h1 h2 => exact ⟨_, _, rfl, h1, h2⟩
theorem of_lst (h : Dp K H v (.list ds)) : ∃ a xs, v = .ref a ∧ SqL K H a xs ∧ DpAll K H xs ds := by
  cases h with | lst h1 h2 => exact ⟨_, _, rfl, h1, h2⟩
theorem of_int {i : Int} (h : Dp K H v (.int i)) : v = .int i := by cases h; rfl
theorem of_str {i : Str} (h : Dp K H v (.str i)) : v = .str i := by cases h; rfl
theorem of_bl {i : Bool} (h : Dp K H v (.bool i)) : v = .bl i := by cases h; rfl
theorem of_non (h : Dp K H v .none) : v = .non := by cases h; rfl
theorem of_t2 {d e : PyData} (h : Dp K H v (.tuple [d, e])) : ∃ a x y, v = .ref a ∧ SqT K H a [x, y] ∧ Dp K H x d ∧ Dp K H y e := by
  obtain ⟨a, xs, rfl, h1, h2⟩ := of_tup h
  cases h2 with
  | cons p1 p2 => cases p2 with | cons p3 p4 => cases p4; exact ⟨a, _, _, rfl, h1, p1, p3⟩
theorem of_t3 {d e f : PyData} (h : Dp K H v (.tuple [d, e, f])) : ∃ a x y z, v = .ref a ∧ SqT K H a [x, y, z] ∧ Dp K H x d ∧ Dp K H y e ∧ Dp K H z f := by
  obtain ⟨a, xs, rfl, h1, h2⟩ := of_tup h
  cases h2 with
  | cons p1 p2 => cases p2 with | cons p3 p4 => cases p4 with | cons p5 p6 => cases p6; exact ⟨a, _, _, _, rfl, h1, p1, p3, p5⟩
theorem of_t4 {d e f g : PyData} (h : Dp K H v (.tuple [d, e, f, g])) : ∃ a x y z w, v = .ref a ∧ SqT K H a [x, y, z, w] ∧ Dp K H x d ∧ Dp K H y e ∧ Dp K H z f ∧ Dp K H w g := by
  obtain ⟨a, xs, rfl, h1, h2⟩ := of_tup h
  cases h2 with
  | cons p1 p2 => cases p2 with | cons p3 p4 => cases p4 with | cons p5 p6 => cases p6 with | cons p7 p8 => cases p8; exact ⟨a, _, _, _, _, rfl, h1, p1, p3, p5, p7⟩
end
/-- the part of a heap at which P holds -/
noncomputable def rs (P : Addr → Prop) (H : Hp) : Hp := fun a => @ite _ (P a) (Classical.propDecidable _) (H a) none
theorem rs_at {P : Addr → Prop} {H : Hp} {a : Addr} {o : HO} (p : P a) (h : H a = some o) : rs P H a = some o := by unfold rs; rw [if_pos p]; exact h
theorem rs_of {P : Addr → Prop} {H : Hp} {a : Addr} {o : HO} (h : rs P H a = some o) : P a ∧ H a = some o := by
  unfold rs at h
  split at h
  · rename_i p; exact ⟨p, h⟩
  · cases h
theorem rs_same {P P' : Addr → Prop} {H H' : Hp} (h : ∀ a o, P a → H a = some o → P' a ∧ H' a = some o) : Same (rs P H) (rs P' H') := fun a o e => by
  obtain ⟨p, q⟩ := rs_of e
  obtain ⟨p', q'⟩ := h a o p q
  exact rs_at p' q'
theorem rs_sub {P : Addr → Prop} {H : Hp} : Same (rs P H) H := fun a o e => (rs_of e).2
theorem rs_in {P : Addr → Prop} {H H' : Hp} (h : ∀ a o, P a → H a = some o → H' a = some o) : Same (rs P H) H' := fun a o e => h a o (rs_of e).1 (rs_of e).2
theorem rs_all {P : Addr → Prop} {H H' : Hp} (h : ∀ a o, H a = some o → P a ∧ H' a = some o) : Same H (rs P H') := fun a o e => rs_at (h a o e).1 (h a o e).2
/-- a list that changes: what stood ahead of it stands -/
theorem same_mut {H H' : Hp} {a : Addr} {o : HO} (e : Same H H') (h : H a = none) : Same H (upd H' a o) := fun b o' q => by
  rw [upd_ne (fun z => by rw [z, h] at q; cases q)]; exact e b o' q
section
variable {K : PySem.W.Frag} {σ : L2.St} {H : Hp} {g : TG} {tt : TT} {te : TE} {tb : TS} {D : Ends} {x y : V} {Q : VK}
theorem L_rlD {v : V} {ds : List PyData} {R : Addr → Prop} (h : Dp K H v (.list ds)) (q : ∀ a, v = .ref a → R a) : ∃ b, v = V.ref b ∧ (∃ xs, SqL K H b xs) ∧ R b := by
  obtain ⟨a, xs, rfl, h1, h2⟩ := of_lst h
  exact ⟨a, rfl, ⟨xs, h1⟩, q a rfl⟩
/-- for x in a list of data -/
theorem for_dp {a : Addr} {ds : List PyData} (h : Dp K H (.ref a) (.list ds)) (Pv : Nat → L2.St → Hp → Prop) (h0 : Pv 0 σ H) (hG : ∀ i σ' H', i ≤ ds.length → Pv i σ' H' → Same H H')
    (hs : ∀ i d x σ' H', i < ds.length → ds[i]? = some d → Pv i σ' H' → Dp K H' x d → g x σ' H' fun σ2 H2 => tb { D with nx := Pv (i + 1), ct := Pv (i + 1), bk := D.nx } σ2 H2) (hd : ∀ σ' H', Pv ds.length σ' H' → D.nx σ' H') :
    ∃ W : Nat → Nat → L2.St → Hp → Prop, (∃ m, W 0 m σ H) ∧ ∀ i m σ H, W i m σ H →
      ((Itl K a).stop i H ∧ D.nx σ H) ∨ ((Itl K a).go i H ∧ ∃ N : L2.St → Hp → Prop, (∀ σ' H', N σ' H' → ∃ m', m' < m ∧ W (i + 1) m' σ' H') ∧ ∀ x H', (Itl K a).yld i H x H' → g x σ H' fun σ2 H2 => tb { D with nx := N, ct := N, bk := D.nx } σ2 H2) := by
  obtain ⟨a', xs, ea, h1, h2⟩ := of_lst h
  cases ea
  have hl := h2.len
  refine for_it walk_list Pv h0 (fun i σ' H' hi p => (hG i σ' H' (by omega) p).seq h1) (fun i x σ' H' H'' hi p ⟨e1, e2⟩ => ?_) (fun σ' H' p => hd σ' H' (by rw [← hl]; exact p))
  subst e1
  obtain ⟨d, e3, e4⟩ := h2.of e2
  exact hs i d x σ' _ (by omega) e3 p (e4.same (hG i σ' _ (by omega) p))
/-- a comprehension: what turn i gives is told as data, or none; the new list's things stand apart from it -/
theorem lc_dp {J : It} {n : Nat} {G : Hp → Prop} {Y : Nat → Hp → V → Hp → Prop} (w : L2.Walk J n G Y) {vs : List Nat} {Qd : Addr → Hp → Prop} (f : Nat → Option PyData) (hn : n ≤ 1000000) (hG : ∀ H', Same H H' → G H')
    (hs : ∀ i x p H2 H' (R : V → Hp → Prop) (R' : Hp → Prop), i < n → H p = none → Same H H2 → (∃ o, H2 p = some o) → Y i H2 x H' → (∀ y d H4, f i = some d → Same H2 H4 → Dp K (rs (· ≠ p) H4) y d → R y H4) → (∀ H3, f i = none → Same H2 H3 → R' H3) →
      g x (wipe σ vs) H' fun σ2 H2 => wipe σ2 vs = wipe σ vs ∧ tt σ2 H2 fun b H3 => if b = true then te σ2 H3 R else R' H3)
    (q : ∀ p H' vs, H p = none → Same H H' → H' p = some (.lst vs) → DpAll K (rs (· ≠ p) H') vs ((List.range n).filterMap f) → Qd p H') :
    ∀ D, H D = none → ∃ W : Nat → Nat → Hp → Prop, (∃ m, W 0 m (upd H D (.lst []))) ∧ ∀ i m H, W i m H →
      (J.stop i H ∧ Qd D H) ∨ (J.go i H ∧ ∃ Nx : Hp → Prop, (∀ H', Nx H' → ∃ m', m' < m ∧ W (i + 1) m' H') ∧ ∀ x H', J.yld i H x H' → g x (wipe σ vs) H' fun σ2 H2 => wipe σ2 vs = wipe σ vs ∧ tt σ2 H2 fun b H3 =>
        if b = true then te σ2 H3 fun y H4 => ∃ acc, H4 D = some (.lst acc) ∧ acc.length < sizeLine ∧ Nx (upd H4 D (.lst (acc ++ [y]))) else Nx H3) := by
  intro D hD
  refine lc_it w (fun i H2 => Same H H2 ∧ ∃ us, H2 D = some (.lst us) ∧ DpAll K (rs (· ≠ D) H2) us ((List.range i).filterMap f)) ⟨same_new hD, [], upd_same, .nil⟩ (fun i H2 _ p => hG H2 p.1) ?_ (fun H2 ⟨p1, us, p2, p3⟩ => q D H2 us hD p1 p2 p3)
  rintro i x H2 H' hi ⟨p1, us, p2, p3⟩ y
  refine hs i x D H2 H' _ _ hi hD p1 ⟨_, p2⟩ y (fun y d H4 e s dy => ?_) (fun H3 e s => ?_)
  · have e4 : Same (rs (· ≠ D) H2) (rs (· ≠ D) H4) := rs_same fun a o h1 h2 => ⟨h1, s _ _ h2⟩
    have e5 : Same (rs (· ≠ D) H4) (rs (· ≠ D) (upd H4 D (.lst (us ++ [y])))) := rs_same fun a o h1 h2 => ⟨h1, by rw [upd_ne h1]; exact h2⟩
    refine ⟨us, s _ _ p2, sz_lt (by have := p3.len; have := fm_len' f i; omega), same_mut (p1.trans s) hD, _, upd_same, ?_⟩
    rw [fm_succ', e]
    exact ((p3.same e4).same e5).snoc (dy.same e5)
  · refine ⟨p1.trans s, us, s _ _ p2, ?_⟩
    rw [fm_succ', e, List.append_nil]
    exact p3.same (rs_same fun a o h1 h2 => ⟨h1, s _ _ h2⟩)
end
/-! ### defs that may raise -/
structure MetX (P : Program) (w : World) (K : PySem.W.Frag) (mg : Str → Option Value) (base : Heap) (k : Nat) (C : Addr) (m : Str) (sp : Sp) : Prop where
  ex : ∃ (f : Addr) (fd : FuncData) (ps : List Str), Cls K C ∧ Meth K C m f ∧ FnOk P w K mg base (L2.CX P w) k f fd ps sp ∧ Binds K fd ps []
structure MakX (P : Program) (w : World) (K : PySem.W.Frag) (mg : Str → Option Value) (base : Heap) (k : Nat) (x : Str) (C : Addr) (sp : Sp) : Prop where
  ex : ∃ (f : Addr) (fd : FuncData) (ps : List Str), Mk K C f ∧ FnOk P w K mg base (L2.CX P w) k f fd ps sp ∧ mg x = some (.ref C) ∧ Binds K fd ps []
section
variable {P : Program} {w : World} {K : PySem.W.Frag} {mg : Str → Option Value} {base : Heap}
theorem MethAt.metX {C : Addr} {m qual : Str} {st : Stmt} {N ps : List Str} {k : Nat} {sp : Sp} (c : Cls K C) (d : MethAt K C m qual st ps) (S : FnScope N ps (defScope st)) (len : ∀ vs H Q E, sp vs H Q E → vs.length = ps.length)
    (hbody : ∀ (f : Addr) (cdv : Value) (A : Around) (outer : List Env) (s : Shared) (H : Hp) (vs : List V) (Q : VK) (E : XK), Room k (A.deeper (envOfC qual (defScope st) s.heap.objs.size f cdv)) → sp vs H Q E →
      ∃ t, PSs (cxOf (L2.CX P w) P w K mg base N qual (defScope st) f cdv A outer s H E) (defBody st) t ∧ t { nx := fun _ H' => Q .non H', rt := Q } (start N vs) H) : MetX P w K mg base (k + 1) C m sp := by
  obtain ⟨f, fd, F, hm, b⟩ := d.ex
  exact ⟨f, fd, ps, c, hm, F.okX S len (hbody f), b⟩
theorem InitAt.makX {x : Str} {C : Addr} {qual : Str} {st : Stmt} {N ps : List Str} {k : Nat} {sp : Sp} (hx : mg x = some (.ref C)) (d : InitAt K C qual st ps) (S : FnScope N ps (defScope st)) (len : ∀ vs H Q E, sp vs H Q E → vs.length = ps.length)
    (hbody : ∀ (f : Addr) (cdv : Value) (A : Around) (outer : List Env) (s : Shared) (H : Hp) (vs : List V) (Q : VK) (E : XK), Room k (A.deeper (envOfC qual (defScope st) s.heap.objs.size f cdv)) → sp vs H Q E →
      ∃ t, PSs (cxOf (L2.CX P w) P w K mg base N qual (defScope st) f cdv A outer s H E) (defBody st) t ∧ t { nx := fun _ H' => Q .non H', rt := Q } (start N vs) H) : MakX P w K mg base (k + 1) x C sp := by
  obtain ⟨f, fd, F, hm, b⟩ := d.ex
  exact ⟨f, fd, ps, hm, F.okX S len (hbody f), hx, b⟩
end
/-- where no exception is wanted -/
theorem passN {X : Cx} (σ : L2.St) : PassesAt (L2.CX X.prog X.w) X σ ((fun _ => E0) σ) := fun pins H s e s' I c => passL pins σ H s e s' I c
/-- x.m(..), C(..), where what is raised is wished for at the caller's slots -/
def tMethE (C : Addr) (m : Str) (sp : Sp) (E : L2.St → XK) (ta : TE) (t : TA) : TE := fun σ H Q => ta σ H fun x H1 => ∃ a dx fs, x = .ref a ∧ H1 a = some (.ins C dx fs) ∧ fs.lookup m = none ∧ t σ H1 fun vs H2 => sp (x :: vs) H2 Q (E σ)
def tMakeE (C : Addr) (sp : Sp) (E : L2.St → XK) (t : TA) : TE := fun σ H Q => t σ H fun vs H1 => ∀ x dx, H1 x = none → H1 dx = none → dx ≠ x →
  sp (.ref x :: vs) (upd (upd H1 dx (.own x)) x (.ins C dx [])) (fun v H2 => v = .non ∧ Q (.ref x) H2) (E σ)
section
variable {X : Cx} {CX : CXT} {k j : Nat} {f C : Addr} {fd : FuncData} {ps : List Str} {x m : Str} {sp : Sp} {p pos apos : Pos} {e o : Expr} {es : List Expr} {ta : TE} {t : TA} {E : L2.St → XK}
theorem run_makeS {pins : List (Addr × Obj)} {σ : L2.St} {H : Hp} {s : Shared} {Q : VK} {us : List Value} {vs : List V} (M : Mk X.K C f) (F : FnOk X.prog X.w X.K X.mg X.base CX k f fd ps sp) (hr : Room (k + 1) X.A) (hb : Binds X.K fd ps [])
    (hx : PassesAt CX X σ (E σ)) (I : Inv X pins σ H s) (r : Vals vs us)
    (h : ∀ x dx, H x = none → H dx = none → dx ≠ x → sp (.ref x :: vs) (upd (upd H dx (.own x)) x (.ins C dx [])) (fun v H2 => v = .non ∧ Q (.ref x) H2) (E σ)) :
    wpAny (model X.prog X.w) X.A (call (.ref C) us) (EP X pins σ Q) X.xe s := by
  -- the new object's place, its dict's place
  obtain ⟨dn, hdn⟩ : ∃ dn, dn = s.heap.objs.size := ⟨_, rfl⟩
  have fresh1 : H dn = none := I.hok.fresh (Nat.le_of_eq hdn.symm)
  have fresh2 : H (dn + 1) = none := I.hok.fresh (Nat.le_succ_of_le (Nat.le_of_eq hdn.symm))
  have asked := h (dn + 1) dn fresh2 fresh1 (Nat.ne_of_lt (Nat.lt_succ_self _))
  have J := Inv.made (C := C) I
  rw [← hdn] at J
  have args : Vals (V.ref (dn + 1) :: vs) (Value.ref (dn + 1) :: us) := .cons rfl r
  have many : (Value.ref (dn + 1) :: us).length = ps.length := args.length.symm.trans (F.len _ _ _ _ asked)
  have bound := hb _ (Value.ref (dn + 1) :: us) J.kIn (by rw [List.append_nil]; exact many)
  rw [List.append_nil] at bound
  subst hdn
  refine wpAny_call (make_map (f := f) I.kIn M.makes M.init (beq_iff_eq.mp M.fn) ?_)
  refine codeAny_mono (F.run _ X.stack _ _ ⟨_, []⟩ _ _ _ (E σ) (hr.make C us []) (J.env0.make C us []) bound args asked) fun out s' ho => ?_
  match out, ho with
  | .error e, ho => exact hx pins _ _ e s' J ho
  | .ok (.ret u), ho =>
    obtain ⟨v, H', J', rel, hv, rest⟩ := J.after ho
    cases hv
    exact ⟨rel, .ref (s.heap.objs.size + 1), H', J', rfl, rest⟩
  | .ok .next, ho => exact ho.elim
  | .ok .brk, ho => exact ho.elim
  | .ok .cont, ho => exact ho.elim
theorem pe_xS (c : CalX X.prog X.w X.K X.mg X.base k x sp) (hr : Room j X.A) (hk : k ≤ j) (hg : Gl X x) (hx : ∀ σ, PassesAt (L2.CX X.prog X.w) X σ (E σ)) (ha : PA X (e :: es) t)
    (hdb : (x == ("__debug__" : Str)) = false := by decide) (he : starEach (e :: es) X.env = (false, eval e X.env) :: starEach es X.env := by rfl) (hpl : (backTo pos (starEach es X.env)).any (·.1) = false := by rfl) :
    PE X (.Call (.Name x p) (e :: es) [] pos) (tCallS sp E t) := by
  obtain ⟨f, fd, ps, F, hm, kp, b⟩ := c.ex
  exact pe_callS F (hr.mono hk) hg hm kp b hx ha hdb he hpl
theorem pe_xMk (c : MakX X.prog X.w X.K X.mg X.base k x C sp) (hr : Room j X.A) (hk : k + 1 ≤ j) (hg : Gl X x) (hx : ∀ σ, PassesAt (L2.CX X.prog X.w) X σ (E σ)) (ha : PA X (e :: es) t)
    (hdb : (x == ("__debug__" : Str)) = false := by decide) (he : starEach (e :: es) X.env = (false, eval e X.env) :: starEach es X.env := by rfl) (hpl : (backTo pos (starEach es X.env)).any (·.1) = false := by rfl) :
    PE X (.Call (.Name x p) (e :: es) [] pos) (tMakeE C sp E t) := by
  obtain ⟨f, fd, ps, M, F, hm, hb⟩ := c.ex
  refine ⟨fun pins s σ H Q I h => ?_⟩
  refine wpAny_Call_Name_kw (ld_glob I hg hm ?_ hdb)
  refine PySem.W.callWith_K (h₀ := X.base) I.ok.mod.kin M.kp (thn (ha.run pos pins s σ H _ I h) fun us s1 ⟨vs, H1, I1, r, q⟩ => ⟨I1.kIn, ?_⟩) he hpl
  exact run_makeS M F (hr.mono hk) hb (hx σ) I1 r q
theorem pe_xMt {pl : Sem Bool} (c : MetX X.prog X.w X.K X.mg X.base k C m sp) (hr : Room j X.A) (hk : k ≤ j) (hx : ∀ σ, PassesAt (L2.CX X.prog X.w) X σ (E σ)) (he : PE X o ta) (ha : PA X (e :: es) t)
    (hst : starEach (e :: es) X.env = (false, eval e X.env) :: starEach es X.env := by rfl) (hpl : (backTo pos (starEach es X.env)).any (·.1) = false := by rfl)
    (ht : eval (.Call (.Attribute o m apos) (e :: es) [] pos) X.env = (do
      let ov ← eval o X.env
      standAt apos.atName
      let (f, first) ← holding [ov] (getMethod ov m pl)
      callWith pos f first (backTo pos (starEach (e :: es) X.env)) (backToKw pos (keywordEach [] X.env))) := by rfl) :
    PE X (.Call (.Attribute o m apos) (e :: es) [] pos) (tMethE C m sp E ta t) := by
  obtain ⟨f, fd, ps, hc, hm, F, hb⟩ := c.ex
  refine ⟨fun pins s σ H Q I h => ?_⟩
  refine PySem.W.methodCall_KW (pl := pl) (thn (he.run pins s σ H _ I h) fun u s1 ⟨x, H1, I1, rx, a, dx, fs, ex, ea, l, q⟩ => ?_) ht
  subst ex
  obtain rfl : u = Value.ref a := rx
  refine getmeth_ok I1 ea hc hm l ?_
  refine PySem.W.callWith_K (first := [.ref a]) (h₀ := X.base) I.ok.mod.kin hm.kp (thn (ha.run pos pins s1 σ H1 _ I1 q) fun us s2 ⟨vs, H2, I2, r, q2⟩ => ⟨I2.kIn, ?_⟩) hst hpl
  exact run_fnS (us := .ref a :: us) (vs := .ref a :: vs) F (hr.mono hk) hb (hx σ) I2 (.cons rfl r) q2
theorem pe_xMt0 {pl : Sem Bool} (c : MetX X.prog X.w X.K X.mg X.base k C m sp) (hr : Room j X.A) (hk : k ≤ j) (hx : ∀ σ, PassesAt (L2.CX X.prog X.w) X σ (E σ)) (he : PE X o ta)
    (ht : eval (.Call (.Attribute o m apos) [] [] pos) X.env = (do
      let ov ← eval o X.env
      standAt apos.atName
      let (f, first) ← holding [ov] (getMethod ov m pl)
      callWith pos f first (backTo pos (starEach [] X.env)) (backToKw pos (keywordEach [] X.env))) := by rfl) :
    PE X (.Call (.Attribute o m apos) [] [] pos) (tMethE C m sp E ta tNil) := by
  obtain ⟨f, fd, ps, hc, hm, F, hb⟩ := c.ex
  refine ⟨fun pins s σ H Q I h => ?_⟩
  refine PySem.W.methodCall_KW (pl := pl) (thn (he.run pins s σ H _ I h) fun u s1 ⟨x, H1, I1, rx, a, dx, fs, ex, ea, l, q⟩ => ?_) ht
  subst ex
  obtain rfl : u = Value.ref a := rx
  refine getmeth_ok I1 ea hc hm l ?_
  exact PySem.W.callWith_K0 (first := [.ref a]) I1.kIn hm.kp (run_fnS (us := [.ref a]) (vs := [.ref a]) F (hr.mono hk) hb (hx σ) I1 (.cons rfl .nil) q)
end
/-- an own exception class that is raised; one that is caught -/
structure ExcAt (K : PySem.W.Frag) (C : Addr) : Prop where
  x : PySem.W.excIn K C [.type "ValueError", .type "Exception", .type "BaseException", .type "object"] "ValueError.__new__" = true
  k : PySem.W.keepIn K (.ref C) = true
  b : PySem.W.subIn K (.ref C) (.type "BaseException") = some true
  t : PySem.W.typeIn K (.ref C) = some (.type "type")
structure ExcK (K : PySem.W.Frag) (C : Addr) : Prop where
  b : PySem.W.subIn K (.ref C) (.type "BaseException") = some true
  i : PySem.W.isClsIn K C = true
  t : PySem.W.typeIn K (.ref C) = some (.type "type")
theorem ExcK.exm {K : PySem.W.Frag} {C D : Addr} {r : Bool} (c : ExcK K C) (h : PySem.W.subIn K (.ref D) (.ref C) = some r) : PySem.W.exmOne K (.ref D) (.ref C) = some r := by
  have e1 : (PySem.W.subIn K (.ref C) (.type "BaseException") == some true) = true := by rw [c.b] <;> rfl
  have e2 : ((PySem.W.clsIn K C).isSome && PySem.W.typeIn K (.ref C) == some (.type "type")) = true := by
    have h2' : (PySem.W.clsIn K C).isSome = true := c.i
    rw [h2', c.t] <;> rfl
  show (if (PySem.W.subIn K (.ref C) (.type "BaseException") == some true) = true then (if ((PySem.W.clsIn K C).isSome && PySem.W.typeIn K (.ref C) == some (.type "type")) = true then PySem.W.subIn K (.ref D) (.ref C) else none) else none) = some r
  rw [if_pos e1, if_pos e2]
  exact h
/-- C() -/
theorem pmk_own0 {X : Cx} {C : Addr} {x : Str} {p pos : Pos} (c : ExcAt X.K C) (gC : X.mg x = some (.ref C)) (hg : Gl X x) (hdb : (x == ("__debug__" : Str)) = false := by decide) :
    PMk X (.Call (.Name x p) [] [] pos) (fun _ H Q => Q (.ref C) none H) := by
  intro pins s σ H Q I h
  refine wpAny_Call_Name_kw (ld_glob I hg gC ?_ hdb)
  refine PySem.W.callWith_K0 I.kIn c.k ?_
  obtain ⟨bm, N, nm, qn, bs, hdct, sn, sub, ab, col, dd, k0, k1, k2, k3, k5, mN, hC, hN, hni, T⟩ := exc_obj I.kIn c.x
  refine wpAny_call_exc_subT PySem.F.excBase_ValueError T hC hN hni (fun h' e hm => ?_) (Nat.zero_le _)
  exact mk_of I hm (raises_own c.b c.t) h (I.hok.gone hm.new)
section
variable {K : PySem.W.Frag} {σ : L2.St} {H : Hp} {ta : TE} {tr : TA} {Q : VK} {E : L2.St → XK} {C : Addr} {m : Str} {sp : Sp}
theorem L_callS (h : tr σ H fun vs H1 => sp vs H1 Q (E σ)) : tCallS sp E tr σ H Q := h
theorem L_methE (h : ta σ H fun x H1 => ∃ a dx fs, x = .ref a ∧ H1 a = some (.ins C dx fs) ∧ fs.lookup m = none ∧ tr σ H1 fun vs H2 => sp (x :: vs) H2 Q (E σ)) : tMethE C m sp E ta tr σ H Q := h
theorem L_makeE (h : tr σ H fun vs H1 => MakeP C sp (E σ) vs H1 Q) : tMakeE C sp E tr σ H Q := h
theorem L_meth {E : XK} (h : ta σ H fun x H1 => ∃ a dx fs, x = .ref a ∧ H1 a = some (.ins C dx fs) ∧ fs.lookup m = none ∧ tr σ H1 fun vs H2 => sp (x :: vs) H2 Q E) : tMeth C m sp [] E ta tr σ H Q := by
  unfold tMeth
  simp only [List.append_nil]
  exact h
theorem L_methv {a dx : Addr} {fs : List (Str × V)} {R : Prop} (h : H a = some (.ins C dx fs)) (l : fs.lookup m = none) (q : R) : ∃ a' dx fs, V.ref a = V.ref a' ∧ H a' = some (.ins C dx fs) ∧ fs.lookup m = none ∧ R := ⟨a, dx, fs, rfl, h, l, q⟩
theorem L_only {c : Value} {ts : Addr → Value → Option Addr → TS} {Wout : WX} {D : Ends} {cls : Value} {d : Option Addr} (h : PySem.W.exmOne K cls c = some true) (q : ∀ a, H a = none → ts a cls d D σ H) : wOnly K c ts Wout D cls d σ H := ⟨true, h, fun _ => q, fun z => nomatch z⟩
end
/-- no whole number: another kind of thing, or a truth -/
def NotW (K : PySem.W.Frag) (H : Hp) (v : V) : Prop := (∃ b, v = .bl b) ∨ ∃ a, TyX K H v (.type a) ∧ kitB a "int" = some false
/-- what is_whole denies -/
def BadW (K : PySem.W.Frag) (H : Hp) (v : V) (lo hi : Int) : Prop := NotW K H v ∨ ∃ t, v = .int t ∧ ¬ (lo ≤ t ∧ t ≤ hi)
section
variable {K : PySem.W.Frag} {H : Hp}
theorem notw_non : NotW K H .non := .inr ⟨_, .base .non, by decide +kernel⟩
theorem notw_bl {b : Bool} : NotW K H (.bl b) := .inl ⟨b, rfl⟩
theorem notw_str {z : Str} : NotW K H (.str z) := .inr ⟨_, .base (.str z), by decide +kernel⟩
theorem notw_lst {a : Addr} {xs : List V} (h : H a = some (.lst xs)) : NotW K H (.ref a) := .inr ⟨_, .base (.lst h), by decide +kernel⟩
theorem notw_tup {a : Addr} {xs : List V} (h : H a = some (.tup xs)) : NotW K H (.ref a) := .inr ⟨_, .base (.tup h), by decide +kernel⟩
theorem notw_dK {a : Addr} {xs : List (Key × V)} (h : H a = some (.dK xs)) : NotW K H (.ref a) := .inr ⟨_, .base (.dK h), by decide +kernel⟩
theorem badw_int {t lo hi : Int} (h : ¬ (lo ≤ t ∧ t ≤ hi)) : BadW K H (.int t) lo hi := .inr ⟨t, rfl, h⟩
theorem NotW.bad {v : V} {lo hi : Int} (h : NotW K H v) : BadW K H v lo hi := .inl h
end
section
variable {K : PySem.W.Frag} {H H' : Hp}
theorem tyx_T {a : Addr} {xs : List V} (h : SqT K H a xs) : TyX K H (.ref a) (.type "tuple") := by
  rcases h with (h | ⟨o, h⟩) | ⟨o, _, _, h, c, _⟩
  · exact .base (.tup h)
  · exact .fTuple h
  · exact .kTuple h c
theorem tyx_L {a : Addr} {xs : List V} (h : SqL K H a xs) : TyX K H (.ref a) (.type "list") := by
  rcases h with (h | ⟨o, h⟩) | ⟨o, _, _, h, c, _⟩
  · exact .base (.lst h)
  · exact .base (.frz h)
  · exact .kList h c
variable {σ : L2.St} {Q : VK}
theorem L_sort2 {a : Addr} {x y : Int} (h : SqL K H a [V.int x, V.int y]) (q : ∀ p, H p = none → Q (.ref p) (upd H p (.lst [V.int (min x y), V.int (max x y)]))) : rSorted K [.ref a] H Q := by
  refine ⟨a, [x, y], rfl, h, by simp, fun ns p hp hs hn => ?_⟩
  have hl := hp.length_eq
  match ns, hl with
  | [u, v], _ =>
    have hle : u ≤ v := by simpa using hs
    have hm : (u = x ∧ v = y) ∨ (u = y ∧ v = x) := by
      have h1 : u ∈ [x, y] := hp.mem_iff.mp (by simp)
      have h2 : v ∈ [x, y] := hp.mem_iff.mp (by simp)
      have h3 : x ∈ [u, v] := hp.mem_iff.mpr (by simp)
      have h4 : y ∈ [u, v] := hp.mem_iff.mpr (by simp)
      simp only [List.mem_cons, List.not_mem_nil, or_false] at h1 h2 h3 h4
      rcases h1 with h1 | h1 <;> rcases h2 with h2 | h2 <;> rcases h3 with h3 | h3 <;> rcases h4 with h4 | h4 <;> omega
    have e : [u, v] = [min x y, max x y] := by
      rcases hm with ⟨rfl, rfl⟩ | ⟨rfl, rfl⟩
      · rw [Int.min_eq_left hle, Int.max_eq_right hle]
      · rw [Int.min_eq_right hle, Int.max_eq_left hle]
    rw [e]
    exact q p hn
theorem L_list1 {a : Addr} {xs : List V} (h : SqL K H a xs) (q : ∀ l, H l = none → Q (.ref l) (upd H l (.lst xs))) : aList1 K [.ref a] H Q := ⟨a, xs, rfl, .inl h, q⟩
theorem L_tuple1 {a : Addr} {xs : List V} (h : SqL K H a xs) (q : ∀ l, H l = none → Q (.ref l) (upd H l (.tup xs))) : aTuple1 K [.ref a] H Q := ⟨a, xs, rfl, .inl ⟨h, q⟩⟩
theorem eqv_same {d : PyData} (h : SeqAt.shaped d = true) : PyData.eqv d d = true := SeqAt.eqv_refl d (SeqAt.canLay_of_shaped h)
theorem L_eqR {x y : V} {d : PyData} (hx : Dp K H x d) (hy : Dp K H y d) (s : SeqAt.shaped d = true) (q : Q (.bl true) H) : aEq K x y H Q := L_eqD hx hy s s (by rw [eqv_same s]; exact q)
theorem L_neR {x y : V} {d : PyData} (hx : Dp K H x d) (hy : Dp K H y d) (s : SeqAt.shaped d = true) (q : Q (.bl false) H) : aNe K x y H Q := L_neD hx hy s s (by rw [eqv_same s]; exact q)
theorem L_zipA {a b : Addr} {xs ys : List V} {R : Addr → Addr → Prop} (h1 : SqL K H a xs) (h2 : SqL K H b ys) (q : R a b) : ∃ a' b' xs ys, [V.ref a, V.ref b] = [.ref a', .ref b'] ∧ SqL K H a' xs ∧ SqL K H b' ys ∧ R a' b' := ⟨a, b, xs, ys, rfl, h1, h2, q⟩
end
/-- data that == may be asked of, at most n deep -/
structure Shp (n : Nat) (d : PyData) : Prop where
  c : d.canLay0 = true
  d : d.depth ≤ n
theorem Shp.ok {n : Nat} {d : PyData} (h : Shp n d) (hn : n ≤ 64 := by decide) : SeqAt.shaped d = true := by
  unfold SeqAt.shaped
  rw [h.c, decide_eq_true (Nat.le_trans h.d hn)]; rfl
theorem shp_int {n : Nat} {i : Int} : Shp n (.int i) := ⟨by simp [PyData.canLay0], by simp [PyData.depth]⟩
theorem shp_bl {n : Nat} {i : Bool} : Shp n (.bool i) := ⟨by simp [PyData.canLay0], by simp [PyData.depth]⟩
theorem shp_non {n : Nat} : Shp n .none := ⟨by simp [PyData.canLay0], by simp [PyData.depth]⟩
theorem shp_str {n : Nat} {z : Str} (h : PyData.strOk z = true) : Shp n (.str z) := ⟨by simpa [PyData.canLay0] using h, by simp [PyData.depth]⟩
theorem shp_all {n : Nat} : ∀ {ds : List PyData}, (∀ d ∈ ds, Shp n d) → PyData.canLayAll0 ds = true ∧ PyData.depthAll ds ≤ n
  | [], _ => ⟨by simp [PyData.canLayAll0], by simp [PyData.depthAll]⟩
  | d :: ds, h => by
    have h1 := h d (List.mem_cons_self ..)
    have h2 := shp_all fun x hx => h x (List.mem_cons_of_mem _ hx)
    exact ⟨by simp [PyData.canLayAll0, h1.c, h2.1], by simp only [PyData.depthAll]; exact Nat.max_le.mpr ⟨h1.d, h2.2⟩⟩
theorem shp_lst {n : Nat} {ds : List PyData} (h : ∀ d ∈ ds, Shp n d) : Shp (n + 1) (.list ds) := ⟨by simp only [PyData.canLay0]; exact (shp_all h).1, by simp only [PyData.depth]; have := (shp_all h).2; omega⟩
theorem shp_tup {n : Nat} {ds : List PyData} (h : ∀ d ∈ ds, Shp n d) : Shp (n + 1) (.tuple ds) := ⟨by simp only [PyData.canLay0]; exact (shp_all h).1, by simp only [PyData.depth]; have := (shp_all h).2; omega⟩
theorem shp_nil {n : Nat} : ∀ d ∈ ([] : List PyData), Shp n d := fun _ h => nomatch h
theorem shp_cons {n : Nat} {d : PyData} {ds : List PyData} (h : Shp n d) (t : ∀ d ∈ ds, Shp n d) : ∀ x ∈ d :: ds, Shp n x := fun x hx => by
  rcases List.mem_cons.mp hx with rfl | hx
  · exact h
  · exact t x hx
theorem shp_map {n : Nat} {α : Type} {f : α → PyData} {l : List α} (h : ∀ a ∈ l, Shp n (f a)) : ∀ d ∈ l.map f, Shp n d := fun d hd => by
  obtain ⟨a, ha, rfl⟩ := List.mem_map.mp hd
  exact h a ha
theorem shp_ints {n : Nat} {l : List Int} : Shp (n + 1) (.list (l.map .int)) := shp_lst (shp_map fun _ _ => shp_int)
theorem _root_.L2.Dp.ints {K : PySem.W.Frag} {H : Hp} {a : Addr} {ns : List Int} (h : SqL K H a (ns.map V.int)) : Dp K H (.ref a) (.list (ns.map .int)) := .lst h (dp_ints ns)
section
variable {K : PySem.W.Frag} {H : Hp} {Q : VK}
theorem L_powE {i j n : Int} (h : CPow i j) (e : i ^ j.toNat = n) (q : Q (.int n) H) : rI CPow (fun i j => .int (i ^ j.toNat)) (.int i) (.int j) H Q := ⟨i, j, rfl, rfl, h, by subst e; exact q⟩
/-- one of some ints -/
theorem L_menu {ns : List Int} {p : Addr} {i : Int} (h : SqL K H p (ns.map V.int)) (h0 : 0 ≤ i) (h1 : i < ns.length) (q : ∀ v ∈ ns, Q (.int v) H) : rIx K (.ref p) (.int i) H Q := by
  have hl : i.toNat < ns.length := by omega
  refine L_ixL h (atI_ints h0 h1) (q _ ?_)
  rw [List.getD_eq_getElem?_getD, List.getElem?_eq_getElem hl]
  exact List.getElem_mem hl
/-- an item of a list of ints, some property of all its items kept -/
theorem L_ixP {ns : List Int} {p : Addr} {i : Int} {P : Int → Prop} (h : SqL K H p (ns.map V.int)) (hP : ∀ v ∈ ns, P v) (h0 : 0 ≤ i) (h1 : i < ns.length) (q : ∀ v, P v → Q (.int v) H) : rIx K (.ref p) (.int i) H Q :=
  L_menu h h0 h1 fun v hv => q v (hP v hv)
end
theorem cdiv_lit {i j : Int} (h : 0 < j ∧ j < 1000000000000) : CDivW i j := (bd_64 (by omega)).cdiv h.1
theorem cpow_lit {i j : Int} (h : 0 ≤ j ∧ j ≤ 1000 ∧ -1000000 < i ∧ i < 1000000) : CPow i j := by
  have e : (2 : Nat) ^ 64 = 18446744073709551616 := by decide
  exact ⟨h.1, by omega, by omega⟩
theorem same_newE {H Hn : Hp} {p : Addr} {o : HO} (e : upd H p o = Hn) (h : H p = none) : Same H Hn := e ▸ same_new h
theorem upd_at {H Hn : Hp} {p : Addr} {o : HO} (e : upd H p o = Hn) : Hn p = some o := e ▸ upd_same
section
variable {K : PySem.W.Frag} {H H' : Hp} {p q : Addr} {us xs : List V} {ds : List PyData} {d : PyData} {y : V} {o : HO}
/-- a list grows: its things stand apart from it -/
theorem dp_grow (hdp : DpAll K (rs (· ≠ p) H) us ds) (s : Same H H') (hy : Dp K (rs (· ≠ p) H') y d) : DpAll K (rs (· ≠ p) (upd H' p o)) (us ++ [y]) (ds ++ [d]) :=
  (hdp.same (rs_same fun a u na ha => ⟨na, by rw [upd_ne na]; exact s _ _ ha⟩)).snoc (hy.same (rs_same fun a u na ha => ⟨na, by rw [upd_ne na]; exact ha⟩))
theorem dp_tupN (h : H q = some (.tup xs)) (n : q ≠ p) (ha : DpAll K (rs (· ≠ p) H) xs ds) : Dp K (rs (· ≠ p) H) (.ref q) (.tuple ds) := .tup (.of (rs_at n h)) ha
theorem dp_lstN (h : H q = some (.lst xs)) (n : q ≠ p) (ha : DpAll K (rs (· ≠ p) H) xs ds) : Dp K (rs (· ≠ p) H) (.ref q) (.list ds) := .lst (.of (rs_at n h)) ha
/-- data that stood ahead of p -/
theorem dp_old {H0 : Hp} (h : Dp K H0 y d) (n : H0 p = none) (s : Same H0 H) : Dp K (rs (· ≠ p) H) y d := h.same (rs_all fun a u ha => ⟨fun z => (by rw [z, n] at ha; cases ha), s _ _ ha⟩)
theorem dpA_old {H0 : Hp} (h : DpAll K H0 us ds) (n : H0 p = none) (s : Same H0 H) : DpAll K (rs (· ≠ p) H) us ds := h.same (rs_all fun a u ha => ⟨fun z => (by rw [z, n] at ha; cases ha), s _ _ ha⟩)
theorem dp_whole (h : DpAll K (rs (· ≠ p) H) us ds) (e : H p = some (.lst us)) : Dp K H (.ref p) (.list ds) := .lst (.of e) (h.same rs_sub)
theorem ne_new (h : H p = none) (h' : ∃ o, H q = some o) : p ≠ q := fun z => by
  obtain ⟨o, e⟩ := h'
  rw [z, e] at h; cases h
end
theorem fm_get {α β : Type} (g : α → β) : ∀ (l : List α), (List.range l.length).filterMap (fun i => l[i]?.map g) = l.map g
  | [] => rfl
  | a :: l => by
    have ih := fm_get g l
    rw [List.length_cons, List.range_succ_eq_map]
    simp only [List.filterMap_cons, List.getElem?_cons_zero, Option.map_some, List.filterMap_map, Function.comp_def, List.getElem?_cons_succ, List.map_cons]
    rw [ih]
theorem sum_take {α : Type} {l : List α} {f : α → Int} {i : Nat} {x : α} (h : l[i]? = some x) : ((l.take (i + 1)).map f).sum = ((l.take i).map f).sum + f x := by
  rw [List.take_succ, h]
  simp
theorem sum_takeAll {α : Type} {l : List α} {f : α → Int} {n : Nat} (h : l.length ≤ n) : ((l.take n).map f).sum = (l.map f).sum := by rw [List.take_of_length_le h]
/-! ### loops, the ends told one by one -/
section
variable {K : PySem.W.Frag} {σ : L2.St} {H : Hp} {g : TG} {tb : TS} {N : L2.St → Hp → Prop} {R : VK}
/-- what a for asks behind its iterable -/
abbrev ForT (J : It) (σ : L2.St) (H : Hp) (g : TG) (tb : TS) (N : L2.St → Hp → Prop) (R : VK) : Prop :=
  ∃ W : Nat → Nat → L2.St → Hp → Prop, (∃ m, W 0 m σ H) ∧ ∀ i m σ H, W i m σ H →
      (J.stop i H ∧ N σ H) ∨ (J.go i H ∧ ∃ M : L2.St → Hp → Prop, (∀ σ' H', M σ' H' → ∃ m', m' < m ∧ W (i + 1) m' σ' H') ∧ ∀ x H', J.yld i H x H' → g x σ H' fun σ2 H2 => tb ⟨M, R, N, M⟩ σ2 H2)
theorem f_it {J : It} {n : Nat} {G : Hp → Prop} {Y : Nat → Hp → V → Hp → Prop} (w : L2.Walk J n G Y) (Pv : Nat → L2.St → Hp → Prop) (h0 : Pv 0 σ H) (hG : ∀ i σ H, i ≤ n → Pv i σ H → G H)
    (hs : ∀ i x σ H H', i < n → Pv i σ H → Y i H x H' → g x σ H' fun σ2 H2 => tb ⟨Pv (i + 1), R, N, Pv (i + 1)⟩ σ2 H2) (hd : ∀ σ H, Pv n σ H → N σ H) : ForT J σ H g tb N R :=
  for_it (D := ⟨N, R, N, N⟩) w Pv h0 hG hs hd
theorem f_range {lo : Int} {n : Nat} (Pv : Nat → L2.St → Hp → Prop) (h0 : Pv 0 σ H)
    (hs : ∀ i σ H, i < n → Pv i σ H → g (.int (lo + i)) σ H fun σ2 H2 => tb ⟨Pv (i + 1), R, N, Pv (i + 1)⟩ σ2 H2) (hd : ∀ σ H, Pv n σ H → N σ H) : ForT (Itr lo n) σ H g tb N R :=
  for_range (D := ⟨N, R, N, N⟩) Pv h0 hs hd
theorem f_rangeC {lo c : Int} {n : Nat} (Pv : Nat → L2.St → Hp → Prop) (h0 : Pv 0 σ H)
    (hs : ∀ i σ H, i < n → Pv i σ H → g (.int (lo + (i : Nat) * c)) σ H fun σ2 H2 => tb ⟨Pv (i + 1), R, N, Pv (i + 1)⟩ σ2 H2) (hd : ∀ σ H, Pv n σ H → N σ H) : ForT (Itc lo c n) σ H g tb N R :=
  for_rangeC (D := ⟨N, R, N, N⟩) Pv h0 hs hd
theorem f_dp {a : Addr} {ds : List PyData} (h : Dp K H (.ref a) (.list ds)) (Pv : Nat → L2.St → Hp → Prop) (h0 : Pv 0 σ H) (hG : ∀ i σ' H', i ≤ ds.length → Pv i σ' H' → Same H H')
    (hs : ∀ i d x σ' H', i < ds.length → ds[i]? = some d → Pv i σ' H' → Dp K H' x d → g x σ' H' fun σ2 H2 => tb ⟨Pv (i + 1), R, N, Pv (i + 1)⟩ σ2 H2) (hd : ∀ σ' H', Pv ds.length σ' H' → N σ' H') : ForT (Itl K a) σ H g tb N R :=
  for_dp (D := ⟨N, R, N, N⟩) h Pv h0 hG hs hd
end
section
variable {σ σ' : L2.St} {H : Hp} {i : Nat} {v x : V} {B C : L2.St → Hp → Prop} {N : L2.St → Hp → Prop} {R : VK} {te : TE}
theorem L_gnameE {Q : L2.St → Hp → Prop} (e : σ.set i (some v) = σ') (h : Q σ' H) : gName i v σ H Q := by subst e; exact h
end
section
variable {K : PySem.W.Frag} {H H' : Hp} {σ : L2.St} {Q : VK} {te : TE} {tl th : TO}
theorem TyX_same {v : V} {t : Value} (e : Same H H') (h : TyX K H v t) : TyX K H' v t := by
  cases h with
  | base h =>
    refine .base ?_
    cases h with
    | non => exact .non
    | bl x => exact .bl x
    | int x => exact .int x
    | str x => exact .str x
    | flt x => exact .flt x
    | lst h => exact .lst (e _ _ h)
    | frz h => exact .frz (e _ _ h)
    | tup h => exact .tup (e _ _ h)
    | dK h => exact .dK (e _ _ h)
    | dT h => exact .dT (e _ _ h)
    | ins h cl ha hn htk hm => exact .ins (e _ _ h) cl ha hn htk hm
  | byt b => exact .byt b
  | set h => exact .set (e _ _ h)
  | kList h c => exact .kList h c
  | kTuple h c => exact .kTuple h c
  | kDict h c => exact .kDict h c
  | fTuple h => exact .fTuple (e _ _ h)
  | fDict h => exact .fDict (e _ _ h)
theorem NotW.same {v : V} (h : NotW K H v) (e : Same H H') : NotW K H' v := by
  rcases h with h | ⟨a, h1, h2⟩
  · exact .inl h
  · exact .inr ⟨a, TyX_same e h1, h2⟩
theorem BadW.same {v : V} {lo hi : Int} (h : BadW K H v lo hi) (e : Same H H') : BadW K H' v lo hi := by
  rcases h with h | h
  · exact .inl (h.same e)
  · exact .inr h
theorem L_sl {r : V → Option Int → Option Int → Hp → VK → Prop} (h : te σ H fun x H1 => tl σ H1 fun l H2 => th σ H2 fun u H3 => r x l u H3 Q) : L2.tSl r te tl th σ H Q := h
theorem L_noPart {R : Option Int → Hp → Prop} (h : R none H) : tNoPart σ H R := h
theorem L_part {t : TE} {R : Option Int → Hp → Prop} (h : t σ H fun x H1 => ∃ i, x = .int i ∧ R (some i) H1) : tPart t σ H R := h
theorem L_ki {i : Int} {R : Int → Prop} (h : R i) : ∃ j, V.int i = V.int j ∧ R j := ⟨i, rfl, h⟩
theorem L_slL {a : Addr} {xs : List V} {lo hi : Option Int} (h : SqL K H a xs) (q : ∀ p, H p = none → Q (.ref p) (upd H p (.lst (cutV xs lo hi)))) : rSlL K (.ref a) lo hi H Q := ⟨a, xs, rfl, h, q⟩
end
def cutG {α : Type} (xs : List α) (lo hi : Option Int) : List α := (xs.drop (HT.sIx xs.length 0 lo)).take (HT.sIx xs.length xs.length hi - HT.sIx xs.length 0 lo)
theorem cutV_map {α : Type} (f : α → V) (xs : List α) (lo hi : Option Int) : cutV (xs.map f) lo hi = (cutG xs lo hi).map f := by
  unfold cutV cutG
  rw [List.length_map, List.map_take, List.map_drop]
theorem cutG_mem {α : Type} {xs : List α} {lo hi : Option Int} {x : α} (h : x ∈ cutG xs lo hi) : x ∈ xs := List.mem_of_mem_drop (List.mem_of_mem_take h)
theorem cutG_len {α : Type} (xs : List α) (lo hi : Option Int) : (cutG xs lo hi).length ≤ xs.length := by
  unfold cutG
  rw [List.length_take, List.length_drop]
  omega
section
variable {K : PySem.W.Frag} {H : Hp} {Q : VK}
/-- one of some things -/
theorem L_menuV {xs : List V} {p : Addr} {i : Int} (h : SqL K H p xs) (h0 : 0 ≤ i) (h1 : i < xs.length) (q : ∀ v ∈ xs, Q v H) : rIx K (.ref p) (.int i) H Q := by
  have hl : i.toNat < xs.length := by omega
  exact L_ixL h (atI_int h0 (List.getElem?_eq_getElem hl)) (q _ (List.getElem_mem hl))
end
theorem hpL {K : PySem.W.Frag} {H : Hp} {a : Addr} {xs : List V} (h : H a = some (.lst xs)) : SqL K H a xs := .of h
theorem hpT {K : PySem.W.Frag} {H : Hp} {a : Addr} {xs : List V} (h : H a = some (.tup xs)) : SqT K H a xs := .of h
theorem bd_mod {x n : Int} (h : 0 < n ∧ n < 18446744073709551616) : Bd 64 (x % n) := bd_64 (by
  have h1 := Int.emod_nonneg x (show n ≠ 0 by omega)
  have h2 := Int.emod_lt_of_pos x h.1
  omega)
theorem hp_from {H0 H : Hp} {p : Addr} {o : HO} (h : H0 p = some o) (e : Same H0 H) : H p = some o := e _ _ h
theorem same_via {H H1 H2 : Hp} (b : Same H1 H2) (a : Same H H1) : Same H H2 := a.trans b
theorem same_upd' {H H' : Hp} {a : Addr} {o : HO} (h : H' a = none) (e : Same H H') : Same H (upd H' a o) := same_upd e h
theorem same_mut' {H H' : Hp} {a : Addr} {o : HO} (h : H a = none) (e : Same H H') : Same H (upd H' a o) := same_mut e h
section
variable {K : PySem.W.Frag} {H : Hp} {σ : L2.St} {Q : VK}
theorem L_clear {a : Addr} {xs : List V} (h : H a = some (.lst xs)) (q : Q .non (upd H a (.lst []))) : rClear (.ref a) [] H Q := ⟨a, xs, rfl, rfl, h, q⟩
theorem L_dnew (h : ∀ p, H p = none → Q (.ref p) (upd H p (.dK []))) : tDNewK σ H Q := h
/-- no list -/
def NotL (K : PySem.W.Frag) (H : Hp) (v : V) : Prop := ∃ a, TyX K H v (.type a) ∧ kitB a "list" = some false
theorem notl_tup {a : Addr} {xs : List V} (h : SqT K H a xs) : NotL K H (.ref a) := ⟨_, tyx_T h, by decide +kernel⟩
theorem notl_non : NotL K H .non := ⟨_, .base .non, by decide +kernel⟩
theorem notl_int {i : Int} : NotL K H (.int i) := ⟨_, .base (.int i), by decide +kernel⟩
theorem notl_bl {i : Bool} : NotL K H (.bl i) := ⟨_, .base (.bl i), by decide +kernel⟩
theorem notl_str {i : Str} : NotL K H (.str i) := ⟨_, .base (.str i), by decide +kernel⟩
theorem notl_dK {a : Addr} {xs : List (Key × V)} (h : H a = some (.dK xs)) : NotL K H (.ref a) := ⟨_, .base (.dK h), by decide +kernel⟩
theorem NotL.same {H' : Hp} {v : V} (h : NotL K H v) (e : Same H H') : NotL K H' v := by
  obtain ⟨a, h1, h2⟩ := h
  exact ⟨a, TyX_same e h1, h2⟩
end
theorem rep1 (x : Int) : ∀ n : Nat, (List.replicate n [V.int x]).flatten = (List.replicate n x).map V.int
  | 0 => rfl
  | n + 1 => by rw [List.replicate_succ, List.flatten_cons, rep1 x n]; rfl
section
variable {K : PySem.W.Frag} {H : Hp} {Q : VK}
theorem L_neB {i j : Bool} (q : Q (.bl (!decide (i = j))) H) : aNe K (.bl i) (.bl j) H Q := .inl ⟨rfl, by rw [show decide (V.bl i = V.bl j) = decide (i = j) by simp]; exact q⟩
end
/-! ### for x in xs: check(x) -/
section
variable {K : PySem.W.Frag} {σ : L2.St} {H : Hp} {N : L2.St → Hp → Prop} {R : VK} {a : Addr} {xs : List V} {sp : Sp} {ES : L2.St → XK} {i : Nat} {c : Value}
theorem set_self (σ : L2.St) (i : Nat) (hi : i < σ.length) : ∃ v, σ = σ.set i v := ⟨σ[i], by simp⟩
theorem L_forChk (hL : SqL K H a xs) (hi : i < σ.length) (hok : ∀ x ∈ xs, ∀ Q E, Q .non H → sp [x] H Q E) (q : ∀ v, N (σ.set i v) H) : ForT (Itl K a) σ H (gName i) (tDrop (tCallS sp ES (tCons (tVar i) tNil))) N R := by
  refine f_it walk_list (fun _ σ' H' => H' = H ∧ ∃ v, σ' = σ.set i v) ⟨rfl, set_self σ i hi⟩ (fun _ _ _ _ p => p.1 ▸ hL) ?_ ?_
  · rintro j x σ' H' H'' hj ⟨rfl, v, rfl⟩ ⟨rfl, e⟩
    refine L_gname (L_drop (L_callS (L_cons (L_var (v := x) ?_ (L_nil (hok x (List.mem_of_getElem? e) _ _ ?_))))))
    · simp [hi]
    · exact ⟨rfl, some x, by rw [List.set_set]⟩
  · rintro σ' H' ⟨rfl, v, rfl⟩
    exact q v
theorem L_forChkX (hL : SqL K H a xs) (hi : i < σ.length) (hx : ∀ x ∈ xs, (∀ Q E, Q .non H → sp [x] H Q E) ∨ ∀ Q E, E c none H → sp [x] H Q E) (hb : ∃ x ∈ xs, ∀ Q E, E c none H → sp [x] H Q E) (q : ∀ v, ES (σ.set i v) c none H) :
    ForT (Itl K a) σ H (gName i) (tDrop (tCallS sp ES (tCons (tVar i) tNil))) N R := by
  obtain ⟨x0, hx0, hb0⟩ := hb
  obtain ⟨j0, hj0⟩ := List.mem_iff_getElem?.mp hx0
  refine f_it walk_list (fun j σ' H' => H' = H ∧ (∃ v, σ' = σ.set i v) ∧ ∃ k x, j ≤ k ∧ xs[k]? = some x ∧ ∀ Q E, E c none H → sp [x] H Q E) ⟨rfl, set_self σ i hi, j0, x0, Nat.zero_le _, hj0, hb0⟩ (fun _ _ _ _ p => p.1 ▸ hL) ?_ ?_
  · rintro j x σ' H' H'' hj ⟨rfl, ⟨v, rfl⟩, k, y, hk, hy, hby⟩ ⟨rfl, e⟩
    refine L_gname (L_drop (L_callS (L_cons (L_var (v := x) ?_ (L_nil ?_)))))
    · simp [hi]
    · by_cases hc : ∀ Q E, E c none H'' → sp [x] H'' Q E
      · exact hc _ _ (by rw [List.set_set]; exact q _)
      · refine (hx x (List.mem_of_getElem? e)).resolve_right hc _ _ ⟨rfl, ⟨some x, by rw [List.set_set]⟩, k, y, ?_, hy, hby⟩
        rcases Nat.lt_or_eq_of_le hk with hlt | rfl
        · exact hlt
        · rw [e] at hy
          cases hy
          exact absurd hby hc
  · rintro σ' H' ⟨rfl, ⟨v, rfl⟩, k, y, hk, hy, hby⟩
    have := (List.getElem?_eq_some_iff.mp hy).1
    omega
end
theorem L_bm0 {K : PySem.W.Frag} {σ : L2.St} {H : Hp} {Q : VK} {te : TE} {T : String} {r : V → List V → Hp → VK → Prop} (h : te σ H fun x H1 => tyV K T x H1 ∧ r x [] H1 Q) : tBM0 K T r te σ H Q := h
/-- what an expression's ways have in common -/
theorem L_via {P : VK → Prop} {Q : VK} (R : V → Hp → Prop) (key : ∀ Q : VK, (∀ v H', R v H' → Q v H') → P Q) (q : ∀ v H', R v H' → Q v H') : P Q := key Q q
section
variable {K : PySem.W.Frag} {H : Hp} {σ : L2.St} {Q : VK} {ta tb : TE}
theorem L_disp1 (h : ∀ p, H p = none → ta σ (upd H p (.dK [])) fun k H1 => tb σ H1 fun v H2 => H2 p = some (.dK []) ∧ ∃ kvs : List (Key × V), [(k, v)] = kvs.map (fun kv => (kV kv.1, kv.2)) ∧ kvs.length ≤ 15 ∧ Q (.ref p) (upd H2 p (.dK (mergeK [] kvs)))) : tDisp [(ta, tb)] σ H Q := h
theorem L_dispE1 {p : Addr} {k v : V} (kk : Key) (e : k = kV kk) (h : H p = some (.dK [])) (q : Q (.ref p) (upd H p (.dK [(kk, v)]))) : H p = some (.dK []) ∧ ∃ kvs : List (Key × V), [(k, v)] = kvs.map (fun kv => (kV kv.1, kv.2)) ∧ kvs.length ≤ 15 ∧ Q (.ref p) (upd H p (.dK (mergeK [] kvs))) :=
  ⟨h, [(kk, v)], by rw [e]; rfl, by simp, q⟩
/-- a sign of a text -/
theorem L_ixSany {z : Str} {i : Int} (hz : z.length ≤ 1000000) (h0 : 0 ≤ i) (h1 : i < z.length) (q : ∀ a ∈ z.cps.toList, Q (.str ⟨#[a]⟩) H) : rIx K (.str z) (.int i) H Q := by
  have hl : i.toNat < z.cps.toList.length := by
    have e : z.cps.toList.length = z.length := by rw [Array.length_toList]; rfl
    omega
  have h3 : z.cps.toList[i.toNat]? = some z.cps.toList[i.toNat] := List.getElem?_eq_getElem hl
  refine L_ixS (sz_dec hz) (a := z.cps.toList[i.toNat]) ?_ (q _ (List.getElem_mem hl))
  obtain ⟨j, rfl⟩ : ∃ j : Nat, i = (j : Int) := ⟨i.toNat, by omega⟩
  exact atI_nat h3
theorem L_inR {i lo hi : Int} {a : Addr} (h : H a = some (.rng lo hi)) (q : Q (.bl (decide (lo ≤ i ∧ i < hi))) H) : (∃ i' a' lo hi, V.int i = V.int i' ∧ V.ref a = V.ref a' ∧ H a' = some (.rng lo hi) ∧ Q (.bl (decide (lo ≤ i' ∧ i' < hi))) H) := ⟨i, a, lo, hi, rfl, rfl, h, q⟩
theorem L_rng2 {i j : Int} (q : ∀ p, H p = none → Q (.ref p) (upd H p (.rng i j))) : (∃ i' j', [V.int i, V.int j] = [V.int i', V.int j'] ∧ ∀ p, H p = none → Q (.ref p) (upd H p (.rng i' j'))) := ⟨i, j, rfl, q⟩
/-- no text -/
def NotS (K : PySem.W.Frag) (H : Hp) (v : V) : Prop := ∃ a, TyX K H v (.type a) ∧ kitB a "str" = some false
theorem nots_tup {a : Addr} {xs : List V} (h : SqT K H a xs) : NotS K H (.ref a) := ⟨_, tyx_T h, by decide +kernel⟩
theorem nots_lst {a : Addr} {xs : List V} (h : SqL K H a xs) : NotS K H (.ref a) := ⟨_, tyx_L h, by decide +kernel⟩
theorem nots_non : NotS K H .non := ⟨_, .base .non, by decide +kernel⟩
theorem nots_int {i : Int} : NotS K H (.int i) := ⟨_, .base (.int i), by decide +kernel⟩
theorem nots_bl {i : Bool} : NotS K H (.bl i) := ⟨_, .base (.bl i), by decide +kernel⟩
theorem nots_dK {a : Addr} {xs : List (Key × V)} (h : H a = some (.dK xs)) : NotS K H (.ref a) := ⟨_, .base (.dK h), by decide +kernel⟩
theorem NotS.same {H' : Hp} {v : V} (h : NotS K H v) (e : Same H H') : NotS K H' v := by
  obtain ⟨a, h1, h2⟩ := h
  exact ⟨a, TyX_same e h1, h2⟩
end
theorem len1 (a : Nat) : (⟨#[a]⟩ : Str).length = 1 := rfl
theorem str_len_append (a b : Str) : (a ++ b).length = a.length + b.length := Array.size_append
theorem str_len {z : Str} : z.cps.toList.length = z.length := by rw [Array.length_toList]; rfl
theorem one_lt {c d : Nat} : ([c] : List Nat) < [d] ↔ c < d := by
  rw [List.cons_lt_cons_iff]
  constructor
  · rintro (h | ⟨_, h⟩)
    · exact h
    · exact absurd h (List.not_lt_nil _)
  · exact .inl
theorem str_app_list (a b : Str) : (a ++ b).cps.toList = a.cps.toList ++ b.cps.toList := Array.toList_append
theorem eqv_nil {ds : List PyData} : PyData.eqv (.list ds) (.list []) = ds.isEmpty := by
  cases ds <;> simp [PyData.eqv, PyData.eqvAll]
theorem strOk_of {z : Str} (h : ∀ c ∈ z.cps.toList, c < 1114112) : PyData.strOk z = true := by
  show (z.cps.all (· < 0x110000)) = true
  rw [← Array.all_toList, List.all_eq_true]
  intro c hc
  exact decide_eq_true (h c hc)
theorem L_nnT {A B : Prop} (a : A) : if (!!true) = true then A else B := L_T a
theorem L_nnF {A B : Prop} (b : B) : if (!!false) = true then A else B := L_F b
theorem bd_128 {i : Int} (h : -340282366920938463463374607431768211456 < i ∧ i < 340282366920938463463374607431768211456) : Bd 128 i := by
  unfold Bd
  have : (2 : Nat) ^ 128 = 340282366920938463463374607431768211456 := by decide
  omega
/-! ### an exception that was caught, held by a name beyond the clause -/
/-- an exception of the class cls at a, its own dict d -/
def ExI (cls : Value) (d : Option Addr) (a : Addr) : HO := .ext fun h => ∃ (oe : Obj) (vs : Array Value), h.get? a = some oe ∧ Zc cls d oe ∧ oe.data = .fields vs
section
variable {X : Cx} {pins : List (Addr × Obj)} {σ : L2.St} {H : Hp} {s : Shared}
theorem track {a : Addr} {d : Option Addr} {cls : Value} {oe : Obj} {vs : Array Value} (I : Inv X pins σ H s) (na : H a = none) (he : s.heap.get? a = some oe) (z : Zc cls d oe) (hd : oe.data = .fields vs) (n0 : X.s_0.heap.get? a = none)
    (nL : a ≠ X.env.locals) (np : ∀ p ∈ X.pn ++ pins, p.1 ≠ a) : Inv X pins σ (upd H a (ExI cls d a)) s where
  ok := I.ok
  os := I.os
  bare := I.bare
  base := {
    keep := I.base.keep
    slot := I.base.slot
    free := fun b o e n hx => by
      rw [upd_ne (fun z => by rw [z, n0] at e; cases e)]
      exact I.base.free b o e n hx
    there := I.base.there
    tups := fun b xs q => by
      have t := I.base.tups b xs q
      rw [upd_ne (ne_of_none t na)]; exact t
    frzs := fun b o u q => by
      have t := I.base.frzs b o u q
      rw [upd_ne (ne_of_none t na)]; exact t
    tbls := fun b ps q => by
      obtain ⟨more, t⟩ := I.base.tbls b ps q
      exact ⟨more, by rw [upd_ne (ne_of_none t na)]; exact t⟩ }
  loc := I.loc
  cell := I.cell
  free := by rw [upd_ne nL.symm]; exact I.free
  freeC := fun x c e => by
    obtain ⟨v, o, ho, hc⟩ := I.cell x c e
    rw [upd_ne (fun z => by rw [z, he] at ho; cases ho; rw [hd] at hc; cases hc)]
    exact I.freeC x c e
  pin := fun p hp => by
    obtain ⟨h1, h2, h3⟩ := I.pin p hp
    exact ⟨h1, by rw [upd_ne (np p hp)]; exact h2, h3⟩
  hok := fun b o e => by
    by_cases hb : b = a
    · cases hb
      rw [upd_same] at e
      cases e
      exact ⟨⟨oe, vs, he, z, hd⟩, ⟨oe, he⟩, fun _ _ ⟨o1, v1, q, r⟩ k => ⟨o1, v1, k o1 q, r⟩⟩
    · rw [upd_ne hb] at e
      exact (I.hok b o e).stay (fun _ _ _ q => q) (fun c q => by rw [upd_ne (ne_of_none q na)]; exact q) fun c xs q => by rw [upd_ne (ne_of_none q na)]; exact q
  len := I.len
end
/-- what 'except x as n' wishes of an exception, which is tracked behind the suite -/
def wAsT (K : PySem.W.Frag) (c : Value) (i : Nat) (ts : Addr → Value → Option Addr → TS) (Wout : WX) (D : Ends) : WX := fun cls d σ H =>
  ∃ b, PySem.W.exmOne K cls c = some b ∧
    (b = true → ∀ a, H a = none → ts a cls d ⟨fun σ' H' => H' a = none → D.nx (σ'.set i none) (upd H' a (ExI cls d a)), D.rt, fun σ' H' => D.bk (σ'.set i none) H', fun σ' H' => D.ct (σ'.set i none) H'⟩ (σ.set i (some (.ref a))) H) ∧
    (b = false → Wout cls d σ H)
section
variable {X : Cx} {x n : Str} {c : Value} {i : Nat} {body suite : List Stmt} {b₀ : Stmt} {np pos pos' : Pos} {tb : WX → TS} {ts : Addr → Value → Option Addr → TS} {Wout : WX}
theorem ps_try_asT (hs : X.stack = X.env :: X.outer) (hf : X.env.frame = some X.env.locals) (hN : X.N.Nodup) (hi : X.N[i]? = some n) (hln : X.env.kindOf n = some .local) (hex : X.ex = []) (hc : Names X x c) (tk : Takes X Wout)
    (hb : ∀ (W : WX) (pn : List (Addr × Obj)) (xe : Value → Shared → Prop), Takes (X.tr pn xe) W → PassesOwn (model X.prog X.w) X.A X.env xe → PSs (X.tr pn xe) body (tb W))
    (hsu : ∀ (a : Addr) (oe : Obj) (cls : Value) (d : Option Addr) (pn : List (Addr × Obj)), Zc cls d oe → (∃ vs, oe.data = .fields vs) → PSs (X.suite a ((a, oe) :: pn)) (b₀ :: suite) (ts a cls d)) :
    PS X (.Try body [.ExceptHandler (some (.Name x np)) (some n) (b₀ :: suite) pos'] [] [] pos) (fun D σ H => tb (wAsT X.K c i ts Wout D) D σ H) := by
  constructor
  intro pins s0 σ0 H0 D I0 start
  have okX := I0.ok
  have frames : X.A.frames = some (X.env :: X.outer) := by
    rw [okX.frames, hs]
  apply wpAny_Try_except
  -- what is raised in the body is looked at by the clause
  let look : Value → Shared → Prop := fun e t1 => wpAny (model X.prog X.w) X.A (noteFrame e X.env) (fun _ t2 => wpAny (model X.prog X.w) X.A (setFlight e none)
    (fun _ t3 => wpAny (model X.prog X.w) X.A (handleBy e X.env [.ExceptHandler (some (.Name x np)) (some n) (b₀ :: suite) pos']) (SP X pins D) X.xe t3) X.xe t2) X.xe t1
  have caught : Takes (X.tr (X.pn ++ pins) look) (wAsT X.K c i ts Wout D) := by
    intro u s' air
    obtain ⟨a, B, sI, pins', σ', H', cls, d, rfl, K', nb, up, sky, na, os, ag, b, exm, yes, no⟩ := air
    have K0 : Inv X pins σ' H' sI := K'.ofTry okX
    have sky1 : Sky B (X.env :: X.outer) a (Zc cls d) X.env.locals s'.heap := hs ▸ sky
    show wpAny (model X.prog X.w) X.A (noteFrame (.ref a) X.env) _ _ _
    apply Sky.land Zc.steady frames hf sky1
    intro h3 fl3 up3
    have J3 : Inv X pins σ' H' { s' with heap := h3 } := K0.landed nb fl3.1 (up.trans up3) os ag
    obtain ⟨oe3, vs3, at3, z3, data3⟩ := fl3.there
    have offFrames : a ∉ frs (X.env :: X.outer) := fun hm => by
      obtain ⟨_, o', there', hnf⟩ := fl3.2.2.1.mem hm
      rw [at3] at there'
      cases there'
      exact hnf _ data3
    have nL : a ≠ X.env.locals := fun e => offFrames (List.mem_filterMap.mpr ⟨X.env, List.mem_cons_self, by rw [hf, e]⟩)
    have nF : a ∉ X.fs := fun hm => by
      obtain ⟨e, he, q⟩ := List.mem_filterMap.mp hm
      exact offFrames (List.mem_filterMap.mpr ⟨e, List.mem_cons_of_mem _ he, q⟩)
    -- a is new: it stood neither at the try's entry nor at the def's
    have newB : B.get? a = none := fl3.2.1
    have newI : sI.heap.get? a = none := by
      cases q : sI.heap.get? a with
      | none => rfl
      | some o =>
        have := nb a o q (by rw [hs]; exact offFrames)
        rw [newB] at this
        cases this
    have new0 : X.s_0.heap.get? a = none := by
      cases q : X.s_0.heap.get? a with
      | none => rfl
      | some o =>
        obtain ⟨o', q'⟩ := K0.base.there a o q (by rw [hex]; exact List.not_mem_nil)
        rw [newI] at q'
        cases q'
    have apart : ∀ p ∈ X.pn ++ pins, p.1 ≠ a := fun p hp e => by
      have := (K0.pin p hp).1
      rw [e, newI] at this
      cases this
    have S3 := J3.suite at3 data3 na nL nF
    apply wpAny_handleBy_cons _ (by intro q; cases q)
    apply codeAny_handlers_test
    have tyA : PySem.W.Looks (model X.prog X.w) h3 (typeOf (.ref a)) cls := fun A Q E t k q => wpAny_typeOf_ref (k _ _ at3) (by rw [z3.1]; exact q)
    have matched := PySem.W.exm_one (M := model X.prog X.w) (J3.kIn) tyA exm
    have named : ∀ {Q : Value → Shared → Prop} {E : Value → Shared → Prop}, Q c { s' with heap := h3 } → wpAny (model X.prog X.w) (X.A.mark (some (.ref a))) (eval (.Name x np) X.env) Q E { s' with heap := h3 } := by
      intro Q E q
      obtain ⟨hg, hdbg, hm⟩ := hc
      rcases hm with hm | ⟨hm, hv, hnn⟩
      · exact ld_glob (X := X.suite a ((a, oe3) :: (X.pn ++ pins))) S3 hg hm q hdbg
      · exact ld_blt (X := X.suite a ((a, oe3) :: (X.pn ++ pins))) S3 hg hm hv q hnn hdbg
    apply named
    apply matched.here
    cases b with
    | true =>
      apply codeAny_handlers_suite_as
      apply HandSPX.lands_againZ fl3
      intro h4 fl4 up4
      have J4 : Inv X pins σ' H' { s' with heap := h4 } := K0.landed nb fl4.1 ((up.trans up3).trans up4) os ag
      obtain ⟨oe4, vs4, at4, z4, data4⟩ := fl4.there
      have S4 := J4.suite at4 data4 na nL nF
      refine store_ok (X := X.suite a ((a, oe4) :: (X.pn ++ pins))) (v := .ref a) S4 hN hi (.inl hln) rfl (fun s5 S5 => ?_) (.inr hln)
      refine wpAny_mono ((hsu a oe4 cls d (X.pn ++ pins) z4 ⟨_, data4⟩).run [] s5 _ H' _ S5 (yes rfl a na)) (fun f s6 hsp => ?_) (fun _ _ z => z.elim)
      -- out of the suite, the exception still pinned
      have out : ∀ {σ6 : L2.St} {H6 : Hp} {Q : Shared → Prop}, Inv (X.suite a ((a, oe4) :: (X.pn ++ pins))) [] σ6 H6 s6 → (∀ s7, Inv X pins (σ6.set i none) H6 s7 → H6 a = none → s7.heap.get? a = some oe4 → Q s7) →
          wpAny (model X.prog X.w) X.A (do bindName X.env n .none; unbindBehindTheSuite X.env n pos') (fun _ s7 => Q s7) X.xe s6 := fun {σ6 H6 Q} S6 hq => by
        have P6 : Inv X ((a, oe4) :: pins) σ6 H6 s6 := { S6.unsuite okX with
          pin := fun p hp => S6.pin p (by
            rcases List.mem_append.mp hp with hp | hp
            · exact List.mem_append_left _ (List.mem_cons_of_mem _ (List.mem_append_left _ hp))
            · rcases List.mem_cons.mp hp with e | hp
              · rw [e]; exact List.mem_append_left _ List.mem_cons_self
              · exact List.mem_append_left _ (List.mem_cons_of_mem _ (List.mem_append_right _ hp))) }
        refine gone_ok P6 hN hi hln fun s7 P7 => ?_
        have pinned := P7.pin (a, oe4) (List.mem_append_right _ List.mem_cons_self)
        refine hq s7 { P7 with pin := fun p hp => P7.pin p ?_ } pinned.2.1 pinned.1
        rcases List.mem_append.mp hp with hp | hp
        · exact List.mem_append_left _ hp
        · exact List.mem_append_right _ (List.mem_cons_of_mem _ hp)
      match f, hsp with
      | .next, ⟨σ6, H6, S6, q6⟩ => exact out S6 fun s7 J7 n6 a6 => ⟨_, _, track J7 n6 a6 z4 data4 new0 nL apart, q6 n6⟩
      | .brk, ⟨σ6, H6, S6, q6⟩ => exact out S6 fun s7 J7 _ _ => ⟨_, _, J7, q6⟩
      | .cont, ⟨σ6, H6, S6, q6⟩ => exact out S6 fun s7 J7 _ _ => ⟨_, _, J7, q6⟩
      | .ret u, ⟨v6, σ6, H6, S6, r6, q6⟩ => exact out S6 fun s7 J7 _ _ => ⟨_, _, _, J7, r6, q6⟩
    | false =>
      show wpAny _ X.A (handleBy (.ref a) X.env []) _ _ _
      apply wpAny_handleBy_nil
      obtain ⟨_, _, _, oe, vs, T, oT, ts', he, hz, hd, h1, hr⟩ := id fl3
      unfold PySem.passOn
      refine wpAny_bind (wpAny_field he hd h1 ?_)
      rw [if_neg (show ¬ ((Value.ref T == Value.none) = true) from by simp)]
      have on : wpAny (model X.prog X.w) X.A (setFlight (.ref a) X.env.frame) (fun _ s4 => wpAny (model X.prog X.w) X.A (throw (.ref a) : Sem Flow) (SP X pins D) X.xe s4) X.xe { s' with heap := h3 } := by
        rw [hf]
        apply HandSPX.setFlight_upZ fl3
        intro h4 held4 up4
        apply wpAny_throw
        apply tk
        exact ⟨a, B, sI, pins, σ', H', cls, d, rfl, K0, nb, (up.trans up3).trans up4, .inr (.inr (by rw [hs]; exact held4)), na, os, ag, no rfl⟩
      first
        | exact wpAny_bind (wpAny_pure (wpAny_bind on))
        | exact wpAny_bind on
  refine wpAny_mono ((hb (wAsT X.K c i ts Wout D) (X.pn ++ pins) look caught PassesOwn.looking).run [] s0 σ0 H0 D (I0.toTry _) start) (fun f s1 hsp => ?_) (fun e s1 he => he)
  match f, hsp with
  | .next, ⟨σ1, H1, J1, q⟩ => exact wpAny_execs_nil ⟨σ1, H1, J1.ofTry okX, q⟩
  | .brk, ⟨σ1, H1, J1, q⟩ => exact ⟨σ1, H1, J1.ofTry okX, q⟩
  | .cont, ⟨σ1, H1, J1, q⟩ => exact ⟨σ1, H1, J1.ofTry okX, q⟩
  | .ret u, ⟨v, σ1, H1, J1, r, q⟩ => exact ⟨v, σ1, H1, J1.ofTry okX, r, q⟩
end
/-- isinstance of a caught exception that a name holds -/
def rIsX (K : PySem.W.Frag) : List V → Hp → VK → Prop := fun xs H Q => ∃ (a D : Addr) (c : V) (u : Value) (b : Bool), xs = [.ref a, c] ∧ H a = some (ExI (.ref D) none a) ∧ L2.ExcC K D ∧ ClsV c u ∧ PySem.W.kitOne K (.ref D) u = some b ∧ Q (.bl b) H
def rIsXT (K : PySem.W.Frag) : List V → Hp → VK → Prop := fun xs H Q => ∃ (a D tp : Addr) (cs : List V) (us : List Value) (b : Bool), xs = [.ref a, .ref tp] ∧ H a = some (ExI (.ref D) none a) ∧ L2.ExcC K D ∧ H tp = some (.tup cs) ∧ Paired ClsV cs us ∧ PySem.W.kitAny K (.ref D) us = some b ∧ Q (.bl b) H
section
variable {X : Cx} {pins : List (Addr × Obj)} {σ : L2.St} {H : Hp} {s : Shared}
theorem exI_at {a D : Addr} (I : Inv X pins σ H s) (h : H a = some (ExI (.ref D) none a)) : ∃ oe, PySem.W.InstAt s.heap a oe D none := by
  obtain ⟨⟨oe, vs, q1, ⟨q2, q3⟩, q4⟩, _⟩ := I.hok a _ h
  obtain ⟨oc, od, oda, osl⟩ := oe
  dsimp only at q2 q3 q4
  subst q2 q3 q4
  exact ⟨_, q1, rfl, rfl, trivial⟩
theorem call_isX : CallR X (.builtin "isinstance") (rIsX X.K) := by
  intro pins s σ H xs us Q I r h
  obtain ⟨a, D, c, u, b, rfl, hx, C, k, e, q⟩ := h
  obtain ⟨u1, u2, rfl, r1, r2⟩ := vals2 r
  cases r1
  cases k.eq r2
  obtain ⟨oe, J⟩ := exI_at I hx
  exact PySem.W.kia_one (PySem.W.handS_kitx_exc C.hg C.hk C.hs C.hd C.ha C.hn C.ht C.hm) I.kIn J e (fun z => nomatch z) fun tk => ⟨.bl b, H, I.tok tk, rfl, q⟩
theorem call_isXT : CallR X (.builtin "isinstance") (rIsXT X.K) := by
  intro pins s σ H xs us Q I r h
  obtain ⟨a, D, tp, cs, ws, b, rfl, hx, C, hT, k, e, q⟩ := h
  obtain ⟨u1, u2, rfl, r1, r2⟩ := vals2 r
  cases r1
  cases (show u2 = Value.ref tp from r2)
  obtain ⟨oe, J⟩ := exI_at I hx
  obtain ⟨_, its, rv, o, h1, h2, n, h3⟩ := (show ObjOk X.prog X.w H s.heap tp (.tup cs) from I.hok tp _ hT)
  have e3 := ClsV.all k rv
  subst e3
  obtain ⟨oc, od, dt, sl⟩ := o
  simp only at h2 h3
  subst h2 h3
  exact PySem.W.kia_tup (PySem.W.handS_kitx_exc C.hg C.hk C.hs C.hd C.ha C.hn C.ht C.hm) I.kIn J h1 e (fun z => nomatch z) fun tk => ⟨.bl b, H, I.tok tk, rfl, q⟩
end
section
variable {K : PySem.W.Frag} {H : Hp} {Q : VK} {C D : Addr} {b : Bool}
theorem kit_ref (hD : PySem.W.subIn K (.ref D) (.ref D) = some true) (k : ExcK K C) (h : PySem.W.subIn K (.ref D) (.ref C) = some b) : PySem.W.kitOne K (.ref D) (.ref C) = some b := by
  unfold PySem.W.kitOne
  by_cases e : D = C
  · subst e
    rw [hD] at h
    cases h
    rw [if_pos (by simp)]
  · rw [if_neg (by simpa using e)]
    have h2 : (PySem.W.clsIn K C).isSome = true := k.i
    show (if ((PySem.W.clsIn K C).isSome && PySem.W.typeIn K (.ref C) == some (.type "type")) = true then PySem.W.subIn K (.ref D) (.ref C) else none) = some b
    rw [if_pos (by rw [h2, k.t]; rfl)]
    exact h
theorem kit_typ {T : String} (hm : PySem.W.kitMeta T = true) (h : PySem.W.subIn K (.ref D) (.type T) = some b) : PySem.W.kitOne K (.ref D) (.type T) = some b := by
  unfold PySem.W.kitOne
  rw [if_neg (by simp)]
  show (if PySem.W.kitMeta T = true then PySem.W.subIn K (.ref D) (.type T) else none) = some b
  rw [if_pos hm]
  exact h
theorem L_isX {a : Addr} {c : V} {u : Value} (h : H a = some (ExI (.ref D) none a)) (C : L2.ExcC K D) (k : ClsV c u) (e : PySem.W.kitOne K (.ref D) u = some b) (q : Q (.bl b) H) : rIsX K [.ref a, c] H Q := ⟨a, D, c, u, b, rfl, h, C, k, e, q⟩
theorem L_isXT {a tp : Addr} {cs : List V} {us : List Value} (h : H a = some (ExI (.ref D) none a)) (C : L2.ExcC K D) (hT : H tp = some (.tup cs)) (k : Paired ClsV cs us) (e : PySem.W.kitAny K (.ref D) us = some b) (q : Q (.bl b) H) : rIsXT K [.ref a, .ref tp] H Q := ⟨a, D, tp, cs, us, b, rfl, h, C, hT, k, e, q⟩
theorem kit_none : ∀ {us : List Value}, (∀ u ∈ us, PySem.W.kitOne K (.ref D) u = some false) → PySem.W.kitAny K (.ref D) us = some false
  | [], _ => rfl
  | u :: us, h => by
    unfold PySem.W.kitAny
    rw [h u (List.mem_cons_self ..)]
    exact kit_none fun x hx => h x (List.mem_cons_of_mem _ hx)
theorem L_asT {c : Value} {i : Nat} {ts : Addr → Value → Option Addr → TS} {Wout : WX} {D : Ends} {σ : L2.St} {cls : Value} {d : Option Addr} (h : PySem.W.exmOne K cls c = some true)
    (q : ∀ a, H a = none → ts a cls d ⟨fun σ' H' => H' a = none → D.nx (σ'.set i none) (upd H' a (ExI cls d a)), D.rt, fun σ' H' => D.bk (σ'.set i none) H', fun σ' H' => D.ct (σ'.set i none) H'⟩ (σ.set i (some (.ref a))) H) : wAsT K c i ts Wout D cls d σ H :=
  ⟨true, h, fun _ => q, fun z => nomatch z⟩
end
/-! ### lists of numbers, and what is none -/
def BadNs (K : PySem.W.Frag) (H : Hp) (v : V) (lo hi : Int) : Prop := NotL K H v ∨ ∃ a xs, v = .ref a ∧ SqL K H a xs ∧ (24 < xs.length ∨ ((∀ x ∈ xs, (∃ t, x = .int t ∧ lo ≤ t ∧ t ≤ hi) ∨ BadW K H x lo hi) ∧ ∃ x ∈ xs, BadW K H x lo hi))
def GoodNs (K : PySem.W.Frag) (H : Hp) (v : V) (ts : List Int) (lo hi : Int) : Prop := ∃ a, v = .ref a ∧ SqL K H a (ts.map V.int) ∧ ts.length ≤ 24 ∧ ∀ t ∈ ts, lo ≤ t ∧ t ≤ hi
section
variable {K : PySem.W.Frag} {H H' : Hp} {v : V} {lo hi : Int} {ts : List Int}
theorem BadNs.same (h : BadNs K H v lo hi) (e : Same H H') : BadNs K H' v lo hi := by
  rcases h with h | ⟨a, xs, h1, h2, h3⟩
  · exact .inl (h.same e)
  · refine .inr ⟨a, xs, h1, e.seq h2, ?_⟩
    rcases h3 with h3 | ⟨h3, x, h4, h5⟩
    · exact .inl h3
    · exact .inr ⟨fun x hx => (h3 x hx).imp id fun b => b.same e, x, h4, h5.same e⟩
theorem GoodNs.same (h : GoodNs K H v ts lo hi) (e : Same H H') : GoodNs K H' v ts lo hi := by
  obtain ⟨a, h1, h2, h3, h4⟩ := h
  exact ⟨a, h1, e.seq h2, h3, h4⟩
theorem bad_one {a : Addr} {x : V} (h : H a = some (.lst [x])) (b : BadW K H x lo hi) : BadNs K H (.ref a) lo hi := .inr ⟨a, _, rfl, .of h, .inr ⟨fun y hy => by rw [List.mem_singleton.mp hy]; exact .inr b, x, List.mem_singleton.mpr rfl, b⟩⟩
theorem good_ns {a : Addr} (h : H a = some (.lst (ts.map V.int))) (hl : ts.length ≤ 24) (hb : ∀ t ∈ ts, lo ≤ t ∧ t ≤ hi) : GoodNs K H (.ref a) ts lo hi := ⟨a, rfl, .of h, hl, hb⟩
theorem int_of_mem {x : V} (h : x ∈ ts.map V.int) : ∃ t ∈ ts, x = .int t := by
  obtain ⟨t, h1, h2⟩ := List.mem_map.mp h
  exact ⟨t, h1, h2.symm⟩
theorem getD_of {i : Nat} {t : Int} (h : ts[i]? = some t) : ts.getD i 0 = t := by rw [List.getD_eq_getElem?_getD, h]; rfl
theorem fm_int {f : Nat → Option Int} {n : Nat} : (List.range n).filterMap (fun i => (f i).map V.int) = ((List.range n).filterMap f).map V.int := by
  rw [List.map_filterMap]
end
/-- pairs of ints as data -/
def d2 (r : Int × Int) : PyData := .tuple [.int r.1, .int r.2]
section
variable {K : PySem.W.Frag} {H : Hp} {v : V} {us : List V} {rows : List (Int × Int)}
theorem of_d2 {r : Int × Int} (h : Dp K H v (d2 r)) : ∃ a, v = .ref a ∧ SqT K H a [.int r.1, .int r.2] := by
  obtain ⟨a, x, y, rfl, h1, h2, h3⟩ := of_t2 h
  rw [of_int h2, of_int h3] at h1
  exact ⟨a, rfl, h1⟩
theorem hit2 (hA : DpAll K H us (rows.map d2)) {i : Nat} {x : V} (hx : us[i]? = some x) : ∃ r t, rows[i]? = some r ∧ x = V.ref t ∧ SqT K H t [.int r.1, .int r.2] := by
  obtain ⟨d, h1, h2⟩ := hA.of hx
  rw [List.getElem?_map] at h1
  obtain ⟨r, h3, rfl⟩ := Option.map_eq_some_iff.mp h1
  obtain ⟨t, rfl, h4⟩ := of_d2 h2
  exact ⟨r, t, h3, rfl, h4⟩
theorem shp_d2s : SeqAt.shaped (.list (rows.map d2)) = true := (shp_lst (n := 1) (shp_map fun r _ => shp_tup (n := 0) (shp_cons shp_int (shp_cons shp_int shp_nil)))).ok
end
theorem cutG_take {α : Type} (xs : List α) (n : Nat) : cutG xs none (some (n : Int)) = xs.take n := by
  unfold cutG
  rw [HT.sIx_none, HT.sIx_nat, List.drop_zero, Nat.sub_zero]
  rcases Nat.le_total n xs.length with h | h
  · rw [Nat.min_eq_left h]
  · rw [Nat.min_eq_right h, List.take_of_length_le (Nat.le_refl _), List.take_of_length_le h]
theorem cutG_drop {α : Type} (xs : List α) (n : Nat) : cutG xs (some (n : Int)) none = xs.drop n := by
  unfold cutG
  rw [HT.sIx_none, HT.sIx_nat]
  rcases Nat.le_total n xs.length with h | h
  · rw [Nat.min_eq_left h, List.take_of_length_le (by rw [List.length_drop]; exact Nat.le_refl _)]
  · rw [Nat.min_eq_right h, List.drop_of_length_le (Nat.le_refl _), List.drop_of_length_le h, List.take_nil]
theorem strOk_lit {z : Str} (h : PyData.strOk z = true) : PyData.strOk z = true := h
theorem dpa_app {K : PySem.W.Frag} {H : Hp} : ∀ {ds es : List PyData} {vs us : List V}, DpAll K H (vs ++ us) (ds ++ es) → vs.length = ds.length → DpAll K H vs ds ∧ DpAll K H us es
  | [], _, [], _, h, _ => ⟨.nil, h⟩
  | [], _, _ :: _, _, _, e => by simp at e
  | _ :: _, _, [], _, _, e => by simp at e
  | d :: ds, _, v :: vs, _, h, e => by
    cases h with
    | cons h1 h2 =>
      obtain ⟨a, b⟩ := dpa_app h2 (by simpa using e)
      exact ⟨.cons h1 a, b⟩
theorem nn_ints_or {K : PySem.W.Frag} {H : Hp} {x : V} {ts : List Int} {lo hi : Int} (hb : ∀ t ∈ ts, lo ≤ t ∧ t ≤ hi) (h : x ∈ ts.map V.int) : (∃ t, x = .int t ∧ lo ≤ t ∧ t ≤ hi) ∨ BadW K H x lo hi := by
  obtain ⟨t, ht, e⟩ := int_of_mem h
  exact .inl ⟨t, e, hb t ht⟩
theorem rep_len {α : Type} (xs : List α) : ∀ n : Nat, (List.replicate n xs).flatten.length = n * xs.length
  | 0 => by simp
  | n + 1 => by rw [List.replicate_succ, List.flatten_cons, List.length_append, rep_len xs n, Nat.succ_mul, Nat.add_comm]
/-! ### exceptions whose own __init__ asks their base's by its name -/
/-- S.__init__, S an own class, is ValueError's -/
structure BaseI (K : PySem.W.Frag) (S : Addr) : Prop where
  rd : PySem.W.readsIn K S (.type "type") = true
  ga : PySem.W.specialIn K (.ref S) "__getattribute__" = some (some (.builtin "type.__getattribute__"))
  vi : PySem.W.findCls K (.ref S) (.type "type") "__init__" = some (.val (.builtin "ValueError.__init__"))
structure XIniAt (K : PySem.W.Frag) (C : Addr) (qual : Str) (st : Stmt) (ps : List Str) : Prop where
  ex : ∃ (f : Addr) (fd : FuncData), Fun K "__init__" qual st f fd ∧ PySem.W.findIn K (.ref C) "__init__" = some (some (.ref f)) ∧ PySem.W.isFn K (.ref f) = true ∧ Binds K fd ps []
/-- an exception that may be made by its class's name -/
structure XMak (P : Program) (w : World) (K : PySem.W.Frag) (mg : Str → Option Value) (base : Heap) (k : Nat) (x : Str) (C : Addr) (sp : Sp) : Prop where
  ex : ∃ (f : Addr) (fd : FuncData) (ps : List Str), FnOk P w K mg base CX0 k f fd ps sp ∧ PySem.W.findIn K (.ref C) "__init__" = some (some (.ref f)) ∧ PySem.W.typeIn K (.ref f) = some (.type "function") ∧ mg x = some (.ref C) ∧ Binds K fd ps []
section
variable {P : Program} {w : World} {K : PySem.W.Frag} {mg : Str → Option Value} {base : Heap}
theorem XIniAt.xmak {x : Str} {C : Addr} {qual : Str} {st : Stmt} {N ps : List Str} {k : Nat} {sp : Sp} (hx : mg x = some (.ref C)) (d : XIniAt K C qual st ps) (S : FnScope N ps (defScope st)) (len : ∀ vs H Q E, sp vs H Q E → vs.length = ps.length)
    (hbody : ∀ (f : Addr) (cdv : Value) (A : Around) (outer : List Env) (s : Shared) (H : Hp) (vs : List V) (Q : VK) (E : XK), Room k (A.deeper (envOfC qual (defScope st) s.heap.objs.size f cdv)) → sp vs H Q E →
      ∃ t, PSs (cxOf CX0 P w K mg base N qual (defScope st) f cdv A outer s H E).nox (defBody st) t ∧ t { nx := fun _ H' => Q .non H', rt := Q } (start N vs) H) : XMak P w K mg base (k + 1) x C sp := by
  obtain ⟨f, fd, F, h1, h2, b⟩ := d.ex
  exact ⟨f, fd, ps, F.ok S len (hbody f), h1, beq_iff_eq.mp h2, hx, b⟩
end
section
variable {X : Cx} {k j : Nat} {C S : Addr} {x : Str} {sp : Sp} {p p1 p2 pos : Pos} {e : Expr} {es : List Expr} {ta : TA}
theorem pmk_x (c : XMak X.prog X.w X.K X.mg X.base k x C sp) (T : OexC X.K C) (hr : Room j X.A) (hk : k + 1 ≤ j) (hg : Gl X x) (ha : PA X (e :: es) ta)
    (hdb : (x == ("__debug__" : Str)) = false := by decide) (he : starEach (e :: es) X.env = (false, eval e X.env) :: starEach es X.env := by rfl) (hpl : (backTo pos (starEach es X.env)).any (·.1) = false := by rfl) :
    PMk X (.Call (.Name x p) (e :: es) [] pos) (tMkO C sp [] ta) := by
  obtain ⟨f, fd, ps, F, h1, h2, hm, b⟩ := c.ex
  exact pmk_oex T h1 h2 F (hr.mono hk) b .nil pass0 hg hm ha hdb he hpl
theorem pe_baseI {pl : Sem Bool} (hg : Gl X x) (hm : X.mg x = some (.ref S)) (B : BaseI X.K S) (ha : PA X (e :: es) ta)
    (hc : eval (.Call (.Attribute (.Name x p1) "__init__" p2) (e :: es) [] pos) X.env = (do
      let ov ← eval (.Name x p1) X.env
      standAt p2.atName
      let (f, first) ← holding [ov] (getMethod ov "__init__" pl)
      callWith pos f first (backTo pos (starEach (e :: es) X.env)) (backToKw pos (keywordEach [] X.env))) := by rfl)
    (hdb : (x == ("__debug__" : Str)) = false := by decide) (he : starEach (e :: es) X.env = (false, eval e X.env) :: starEach es X.env := by rfl) (hpl : (backTo pos (starEach es X.env)).any (·.1) = false := by rfl) :
    PE X (.Call (.Attribute (.Name x p1) "__init__" p2) (e :: es) [] pos) (tVeI X.K ta) := by
  constructor
  intro pins s σ H Q I h
  have asked : ∀ s1, Inv X pins σ H s1 → wpAny (model X.prog X.w) X.A (callWith pos (Value.builtin "ValueError.__init__") [] (backTo pos (starEach (e :: es) X.env)) []) (EP X pins σ Q) X.xe s1 := fun s1 I1 =>
    PyProof.Rows.callWith_method1 (thn (ha.run pos pins s1 σ H _ I1 h) fun us s2 ⟨vs, H2, I2, r, a, D, ws, evs, few, T, atA, q⟩ => by
      subst evs
      cases r with
      | @cons _ u0 _ ur r0 rr =>
        obtain rfl : u0 = Value.ref a := r0
        have few' : ur.length ≤ sizeLine := by
          have := Paired.length rr
          have := sizeLine_eq
          omega
        exact oinit_ok T I2 atA few' fun s3 I3 => ⟨.non, H2, I3, rfl, q⟩) he hpl
  refine PySem.W.methodCall_KW (ld_glob I hg hm ?_ hdb) hc
  refine PySem.W.method_cls I.kIn B.ga (PySem.W.cls_value I.kIn B.rd B.vi (by decide +kernel) ?_)
  exact asked _ (I.tok _)
end
section
variable {K : PySem.W.Frag} {σ : L2.St} {H : Hp} {D : Ends} {C a : Addr} {f : Str} {y : V} {ta : TA} {te to : TE}
theorem L_veI {R : Hp → Prop} {ws : List V} (T : OexC K C) (h : H a = some (exo a C none)) (l : ws.length ≤ 1000) (q : R H) : ∃ (a' C : Addr) (ws' : List V), V.ref a :: ws = .ref a' :: ws' ∧ ws'.length ≤ 1000 ∧ OexC K C ∧ H a' = some (exo a' C none) ∧ R H := ⟨a, C, ws, rfl, l, T, h, q⟩
theorem L_tveI {Q : VK} (h : ta σ H fun vs H1 => ∃ (a C : Addr) (ws : List V), vs = .ref a :: ws ∧ ws.length ≤ 1000 ∧ OexC K C ∧ H1 a = some (exo a C none) ∧ Q .non H1) : tVeI K ta σ H Q := h
theorem L_ost (h : te σ H fun y H1 => to σ H1 fun x H2 => ∃ a C : Addr, x = .ref a ∧ OexC K C ∧ PySem.W.findIn K (.ref C) f = some none ∧
  ((H2 a = some (exo a C none) ∧ ∀ dx, H2 dx = none → dx ≠ a → D.nx σ (upd (upd H2 dx (exd dx [(f, y)])) a (exo a C (some dx)))) ∨
    ∃ (dx : Addr) (fs : List (Str × V)), H2 a = some (exo a C (some dx)) ∧ H2 dx = some (exd dx fs) ∧ fs.length ≤ 900 ∧ D.nx σ (upd H2 dx (exd dx ((f, y) :: fs))))) : tOst K f to te D σ H := h
theorem L_ost1 {R : Hp → Prop} (T : OexC K C) (nf : PySem.W.findIn K (.ref C) f = some none) (h : H a = some (exo a C none)) (q : ∀ dx, H dx = none → dx ≠ a → R (upd (upd H dx (exd dx [(f, y)])) a (exo a C (some dx)))) :
    ∃ a' C : Addr, V.ref a = .ref a' ∧ OexC K C ∧ PySem.W.findIn K (.ref C) f = some none ∧
  ((H a' = some (exo a' C none) ∧ ∀ dx, H dx = none → dx ≠ a' → R (upd (upd H dx (exd dx [(f, y)])) a' (exo a' C (some dx)))) ∨
    ∃ (dx : Addr) (fs : List (Str × V)), H a' = some (exo a' C (some dx)) ∧ H dx = some (exd dx fs) ∧ fs.length ≤ 900 ∧ R (upd H dx (exd dx ((f, y) :: fs)))) := ⟨a, C, rfl, T, nf, .inl ⟨h, q⟩⟩
/-- what an __init__ with one field keeps -/
def XIni1 (C : Addr) (f : Str) (a : Addr) (v : V) (H : Hp) (Q : VK) : Prop := H a = some (exo a C none) ∧ ∀ d, H d = none → d ≠ a → Q .non (upd (upd H d (exd d [(f, v)])) a (exo a C (some d)))
/-- C(v) is raised -/
theorem L_mkO1 {sp : Sp} {E : XK} {v : V} (hs : ∀ a H Q E, XIni1 C f a v H Q → sp [.ref a, v] H Q E) (q : ∀ d, H d = none → E (.ref C) (some d) (upd H d (.xd [(f, v)]))) : [v].length ≤ 1000 ∧ ∀ a, H a = none → sp (.ref a :: ([v] ++ [])) (upd H a (exo a C none))
  (fun v H2 => v = .non ∧ ∃ (d : Addr) (fs : List (Str × V)), H2 a = some (exo a C (some d)) ∧ H2 d = some (exd d fs) ∧ H d = none ∧ E (.ref C) (some d) (upd (del H2 a) d (.xd fs))) (fun _ _ _ => False) := by
  refine ⟨by rw [List.length_singleton]; decide, fun a na => hs a _ _ _ ⟨upd_same, fun d nd ne => ⟨rfl, d, [(f, v)], upd_same, ?_, ?_, ?_⟩⟩⟩
  · rw [upd_ne ne, upd_same]
  · rw [upd_ne ne] at nd
    exact nd
  · rw [upd_ne ne] at nd
    have z : upd (del (upd (upd (upd H a (exo a C none)) d (exd d [(f, v)])) a (exo a C (some d))) a) d (.xd [(f, v)]) = upd H d (.xd [(f, v)]) := by
      funext b
      by_cases hb : b = d
      · rw [hb, upd_same, upd_same]
      · rw [upd_ne hb, upd_ne hb]
        by_cases ha : b = a
        · rw [ha, del_same, na]
        · rw [del_ne ha, upd_ne ha, upd_ne hb, upd_ne ha]
    rw [z]
    exact q d nd
theorem L_mkO {sp : Sp} {dvs : List V} {Q : XK} (h : ta σ H fun vs H1 => vs.length ≤ 1000 ∧ ∀ a, H1 a = none → sp (.ref a :: (vs ++ dvs)) (upd H1 a (exo a C none))
  (fun v H2 => v = .non ∧ ∃ (d : Addr) (fs : List (Str × V)), H2 a = some (exo a C (some d)) ∧ H2 d = some (exd d fs) ∧ H1 d = none ∧ Q (.ref C) (some d) (upd (del H2 a) d (.xd fs))) (fun _ _ _ => False)) : tMkO C sp dvs ta σ H Q := h
end
/-- isinstance(e, c) in e's own suite, whatever its dict -/
def rIsS (K : PySem.W.Frag) (a : Addr) (cls : Value) (d : Option Addr) : List V → Hp → VK → Prop := fun xs H Q => ∃ (D : Addr) (c : V) (u : Value) (b : Bool), xs = [.ref a, c] ∧ cls = .ref D ∧ (∀ dd, d = some dd → ∃ fs, H dd = some (.xd fs)) ∧ L2.ExcC K D ∧ ClsV c u ∧ PySem.W.kitOne K (.ref D) u = some b ∧ Q (.bl b) H
theorem call_isS {X : Cx} {a : Addr} {cls : Value} {d : Option Addr} {oe : Obj} {pn : List (Addr × Obj)} (hz : Zc cls d oe) (hf : ∃ vs, oe.data = .fields vs) : CallR (X.suite a ((a, oe) :: pn)) (.builtin "isinstance") (rIsS X.K a cls d) := by
  intro pins s σ H xs us Q I r h
  obtain ⟨D, c, u, b, rfl, rfl, hd, C, k, e, q⟩ := h
  obtain ⟨u1, u2, rfl, r1, r2⟩ := vals2 r
  cases r1
  cases k.eq r2
  obtain ⟨there, _⟩ := I.pin (a, oe) (List.mem_append_left _ List.mem_cons_self)
  obtain ⟨vs, data⟩ := hf
  have J : ∃ od, PySem.W.InstAt s.heap a oe D od := by
    have nc : PySem.W.notCls oe = true := by unfold PySem.W.notCls; rw [data] <;> rfl
    cases d with
    | none => exact ⟨none, there, hz.1, nc, by rw [hz.2]; exact True.intro⟩
    | some dd =>
      obtain ⟨fs, hdd⟩ := hd dd rfl
      obtain ⟨mA, ⟨o, es, ep, ho, _⟩, _⟩ := (show ObjOk X.prog X.w H s.heap dd (.xd fs) from I.hok dd _ hdd)
      exact ⟨some o, there, hz.1, nc, by rw [hz.2]; exact ho⟩
  obtain ⟨od, J⟩ := J
  obtain ⟨cd, hcd, _⟩ := PySem.W.any_some C.hd
  exact PySem.W.kia_one (PySem.W.kitx_exc (show (PySem.W.clsIn _ D).isSome = true by rw [hcd]; rfl) C.hg C.hk C.hs C.ha C.hn C.ht C.hm) I.kIn J e (fun z => nomatch z) fun tk => ⟨.bl b, H, I.tok tk, rfl, q⟩
theorem L_isS {K : PySem.W.Frag} {H : Hp} {Q : VK} {a D : Addr} {d : Option Addr} {c : V} {u : Value} {b : Bool} (hd : ∀ dd, d = some dd → ∃ fs, H dd = some (.xd fs)) (C : L2.ExcC K D) (k : ClsV c u) (e : PySem.W.kitOne K (.ref D) u = some b) (q : Q (.bl b) H) : rIsS K a (.ref D) d [.ref a, c] H Q := ⟨D, c, u, b, rfl, rfl, hd, C, k, e, q⟩
/-- one of two derivations -/
def tOrE (t1 t2 : TE) : TE := fun σ H Q => t1 σ H Q ∨ t2 σ H Q
theorem PE.or {X : Cx} {e : Expr} {t1 t2 : TE} (h1 : PE X e t1) (h2 : PE X e t2) : PE X e (tOrE t1 t2) :=
  ⟨fun pins s σ H Q I h => h.elim (fun h => h1.run pins s σ H Q I h) (fun h => h2.run pins s σ H Q I h)⟩
/-- what isinstance asks of an instance's own class; of the class it is asked of -/
structure InsC (K : PySem.W.Frag) (C : Addr) : Prop where
  ha : PySem.W.findIn K (.ref C) "__class__" = some (some (.builtin "object.__class__"))
  hn : PySem.W.specialIn K (.builtin "object.__class__") "__get__" = some (some (.builtin "getset_descriptor.__get__"))
  ht : PySem.W.takesIn K (.builtin "object.__class__") = some true
  hm : PySem.W.mroIn K C (.type "object") = some true
structure ClsT (K : PySem.W.Frag) (C : Addr) : Prop where
  i : PySem.W.isClsIn K C = true
  t : PySem.W.typeIn K (.ref C) = some (.type "type")
theorem tyx_I {K : PySem.W.Frag} {H : Hp} {a C dx : Addr} {fs : List (Str × V)} (h : H a = some (.ins C dx fs)) (cl : Cls K C) (c : InsC K C) : TyX K H (.ref a) (.ref C) := .base (.ins h cl c.ha c.hn c.ht c.hm)
theorem kit_own {K : PySem.W.Frag} {C D : Addr} {b : Bool} (hD : PySem.W.subIn K (.ref D) (.ref D) = some true) (k : ClsT K C) (h : PySem.W.subIn K (.ref D) (.ref C) = some b) : PySem.W.kitOne K (.ref D) (.ref C) = some b := by
  unfold PySem.W.kitOne
  by_cases e : D = C
  · subst e
    rw [hD] at h
    cases h
    rw [if_pos (by simp)]
  · rw [if_neg (by simpa using e)]
    have h2 : (PySem.W.clsIn K C).isSome = true := k.i
    show (if ((PySem.W.clsIn K C).isSome && PySem.W.typeIn K (.ref C) == some (.type "type")) = true then PySem.W.subIn K (.ref D) (.ref C) else none) = some b
    rw [if_pos (by rw [h2, k.t]; rfl)]
    exact h
theorem kit_not {K : PySem.W.Frag} {T : String} {C : Addr} {b : Bool} (k : ClsT K C) (h : PySem.W.subIn K (.type T) (.ref C) = some b) : PySem.W.kitOne K (.type T) (.ref C) = some b := by
  unfold PySem.W.kitOne
  rw [if_neg (by simp)]
  have h2 : (PySem.W.clsIn K C).isSome = true := k.i
  show (if ((PySem.W.clsIn K C).isSome && PySem.W.typeIn K (.ref C) == some (.type "type")) = true then PySem.W.subIn K (.type T) (.ref C) else none) = some b
  rw [if_pos (by rw [h2, k.t]; rfl)]
  exact h
theorem L_orl {t1 t2 : TE} {σ : L2.St} {H : Hp} {Q : VK} (h : t1 σ H Q) : tOrE t1 t2 σ H Q := .inl h
theorem L_orr {t1 t2 : TE} {σ : L2.St} {H : Hp} {Q : VK} (h : t2 σ H Q) : tOrE t1 t2 σ H Q := .inr h
theorem L_xf {a C : Addr} {cls : Value} {d : Option Addr} {f : Str} {te : TE} {σ : L2.St} {H : Hp} {Q : VK} (h : te σ H fun x H1 => x = .ref a ∧ cls = .ref C ∧ ∃ (dd : Addr) (fs : List (Str × V)) (v : V), d = some dd ∧ H1 dd = some (.xd fs) ∧ fs.lookup f = some v ∧ Q v H1) : tXf a cls d C f te σ H Q := h
theorem ExcC.xf {K : PySem.W.Frag} {C : Addr} (c : L2.ExcC K C) : XfC K C := ⟨c.hg, c.hk, c.hs, c.hd⟩
theorem L_isC {K : PySem.W.Frag} {H : Hp} {Q : VK} {x : V} {T : Value} {C : Addr} {b : Bool} (ty : TyX K H x T) (e : PySem.W.kitOne K T (.ref C) = some b) (q : Q (.bl b) H) : rIsi K [x, .ref C] H Q := ⟨x, .ref C, T, .ref C, b, rfl, .own C, ty, e, q⟩
theorem L_str1 {H : Hp} {Q : VK} {t : Int} (h : 0 ≤ t ∧ t ≤ 1000) (q : Q (.str (toString t)) H) : aStr1 [.int t] H Q := ⟨t, rfl, by have := Nat.log2_le_self t.natAbs; omega, q⟩
theorem str_short : ∀ t : Int, 0 ≤ t → t ≤ 100 → (↑(toString t) : Str).length ≤ 3 := by
  have h : ∀ n ∈ List.range 101, (↑(toString ((n : Nat) : Int)) : Str).length ≤ 3 := by decide +kernel
  intro t h0 h1
  have := h t.toNat (List.mem_range.mpr (by omega))
  rwa [Int.toNat_of_nonneg h0] at this
end Kt
set_option Elab.async false
set_option linter.all false
set_option maxRecDepth 100000
set_option maxHeartbeats 4000000
namespace My
open PySem PySem.Spec PyProof.Rows L2 Kt
/-! one step of a reading; a look at the heap -/
local macro_rules | `(tactic| walk_at "hp") => `(tactic| first
  | assumption
  | exact upd_same
  | (with_reducible apply hp_from; assumption; walk_at "sm"))
local macro_rules | `(tactic| walk_at "hpL") => `(tactic| first | assumption | (with_reducible apply hpL; walk_at "hp"))
local macro_rules | `(tactic| walk_at "hpT") => `(tactic| first | assumption | (with_reducible apply hpT; walk_at "hp"))
local macro_rules | `(tactic| walk_at "st1") => `(tactic| with_reducible first
  | refine L_var rfl ?_
  | refine L_cons ?_
  | refine L_nil ?_
  | refine L_c ?_
  | refine L_op ?_
  | refine L_seq ?_
  | refine L_asg ?_
  | refine L_gnameE (by dsimp only [L2.wipe, List.foldl, List.set] <;> rfl) ?_
  | refine L_k ?_
  | refine L_I0 ?_
  | refine L_addI ?_
  | refine L_tTest ?_
  | refine L_ifS ?_
  | refine L_next ?_
  | refine L_call ?_
  | refine L_callS ?_
  | refine L_T ?_
  | refine L_F ?_
  | refine L_nT ?_
  | refine L_nF ?_
  | refine L_cb ?_
  | refine L_ret ?_
  | refine L_eqI ?_
  | refine L_neI ?_
  | refine L_leI ?_
  | refine L_ltI ?_
  | refine L_or ?_
  | refine L_and ?_
  | refine L_not ?_
  | refine L_tB ?_
  | refine L_drop ?_
  | refine L_bm ?_
  | refine L_tup ?_
  | refine L_lst ?_
  | refine L_fld ?_
  | refine L_chain ?_
  | refine L_gname ?_
  | refine L_eqS ?_
  | refine L_neS ?_
  | refine L_eqB ?_
  | refine L_leS ?_
  | refine L_isN ?_
  | refine L_notN ?_
  | refine L_inC ?_
  | refine L_notInC ?_
  | refine L_un ?_
  | refine L_rU ?_
  | refine L_andV ?_
  | refine L_orV ?_
  | refine L_notV ?_
  | refine L_par ?_
  | refine L_par3 ?_
  | refine L_vs2 ?_
  | refine L_vs3 ?_
  | refine L_aug rfl ?_
  | refine L_ipI ?_
  | refine L_retN ?_
  | refine L_brk ?_
  | refine L_cont ?_
  | refine L_tru ?_
  | refine L_truB ?_
  | refine L_truI ?_
  | refine L_abs ?_
  | refine L_max2 ?_
  | refine L_min2 ?_
  | refine L_int1 ?_
  | refine L_int1B ?_
  | refine L_for ?_
  | refine L_iRng1 ?_
  | refine L_iRng2 ?_
  | refine L_iList ?_
  | refine L_iTup ?_
  | refine L_yes ?_
  | refine L_iZip ?_
  | refine L_iEnum ?_
  | refine L_iStr ?_
  | refine L_iRng3 ?_
  | refine L_lc ?_
  | refine L_make ?_
  | refine L_nnT ?_
  | refine L_nnF ?_
  | refine L_disp1 ?_
  | refine L_rng2 ?_
  | refine L_bm0 ?_
  | refine L_neB ?_
  | refine L_dnew ?_
  | refine L_sl ?_
  | refine L_noPart ?_
  | refine L_part ?_
  | refine L_ki ?_
  | refine L_methE ?_
  | refine L_meth ?_
  | refine L_makeE ?_
  | refine L_gCons ?_
  | refine L_gNil ?_
  | refine L_sub ?_
  | refine L_sFld ?_)
local macro_rules | `(tactic| walk_at "st") => `(tactic| first | walk_at "st1" | walk_at "op" | with_reducible refine L_ifE ?_)
local macro_rules | `(tactic| walk_at "stn") => `(tactic| repeat first | walk_at "st1" | walk_at "op")
local macro_rules | `(tactic| walk_at "sts") => `(tactic| repeat walk_at "st")
/-! the same, and what is shown by itself: sizes, bounds, what stands in the heap -/
local macro_rules | `(tactic| walk_at "bd") => `(tactic| first | exact bd_mod (by decide) | exact bd_64 (by decide) | exact bd_64 (by omega))
local macro_rules | `(tactic| walk_at "sa1") => `(tactic| first
  | walk_at "st"
  | (with_reducible refine L_mulI (Bd.cmul (n := 64) (m := 64) (by walk_at "bd") (by walk_at "bd")) ?_)
  | (with_reducible refine L_I (cdiv_lit (by first | decide | omega)) ?_)
  | (with_reducible refine L_powE (i := 10) (j := 9) (n := 1000000000) (cpow_lit (by decide)) (by decide) ?_)
  | (with_reducible refine L_powE (i := 10) (j := 6) (n := 1000000) (cpow_lit (by decide)) (by decide) ?_)
  | (with_reducible refine L_powE (i := 10) (j := 10) (n := 10000000000) (cpow_lit (by decide)) (by decide) ?_)
  | (with_reducible refine L_powE (i := 10) (j := 12) (n := 1000000000000) (cpow_lit (by decide)) (by decide) ?_)
  | (with_reducible refine L_powE (i := 10) (j := 13) (n := 10000000000000) (cpow_lit (by decide)) (by decide) ?_)
  | (with_reducible refine L_powE (i := 10) (j := 20) (n := 100000000000000000000) (cpow_lit (by decide)) (by decide) ?_)
  | (with_reducible refine L_powE (i := 10) (j := 29) (n := 100000000000000000000000000000) (cpow_lit (by decide)) (by decide) ?_)
  | (with_reducible refine L_powE (i := 10) (j := 30) (n := 1000000000000000000000000000000) (cpow_lit (by decide)) (by decide) ?_)
  | (with_reducible refine L_powE (i := 10) (j := 39) (n := 1000000000000000000000000000000000000000) (cpow_lit (by decide)) (by decide) ?_)
  | (with_reducible refine L_powE (i := 10) (j := 40) (n := 10000000000000000000000000000000000000000) (cpow_lit (by decide)) (by decide) ?_)
  | (with_reducible refine L_powE (i := 10) (j := 60) (n := 1000000000000000000000000000000000000000000000000000000000000) (cpow_lit (by decide)) (by decide) ?_)
  | (with_reducible refine L_powE (i := 2) (j := 40) (n := 1099511627776) (cpow_lit (by decide)) (by decide) ?_)
  | (with_reducible refine L_I (show _ < _ by first | decide | omega) ?_)
  | (with_reducible refine L_ixT (by walk_at "hpT") (by with_unfolding_all rfl) ?_)
  | (with_reducible refine L_ixL (by walk_at "hpL") (by with_unfolding_all rfl) ?_)
  | (with_reducible refine L_lenL (by walk_at "hpL") ?_)
  | (with_reducible refine L_lenT (by walk_at "hpT") ?_)
  | walk_at "fd"
  | (with_reducible refine L_methv (by walk_at "hp") (by with_unfolding_all rfl) ?_)
  | (with_reducible refine L_isi (.base (.int _)) (b := true) (by decide +kernel) ?_)
  | (with_reducible refine L_isi (.base (.int _)) (b := false) (by decide +kernel) ?_)
  | (with_reducible refine L_dT (by first | assumption | omega) ?_)
  | (with_reducible refine L_dF (by first | assumption | omega) ?_)
  | (with_reducible refine L_ndT (by first | assumption | omega) ?_)
  | (with_reducible refine L_ndF (by first | assumption | omega) ?_))
local macro_rules | `(tactic| walk_at "sa") => `(tactic| repeat walk_at "sa1")
/-! what stood stands -/
local macro_rules | `(tactic| walk_at "sm") => `(tactic| first
  | assumption
  | exact Same.refl _
  | (with_reducible apply same_upd'; assumption; walk_at "sm")
  | (with_reducible apply same_mut'; assumption; walk_at "sm")
  | (with_reducible apply same_via; assumption; walk_at "sm"))
/-! a new list or tuple: its place p, hp : H p = none, the heap behind it Hn, that all stands, what stands at p -/
local macro_rules | `(tactic| walk_at "nw") => `(tactic| (
  (refine L_new (by first | decide | exact sz_dec (by simp)) ?_)
  (intro p hp)
  (generalize hg : upd _ p _ = Hn)
  (have sn := same_newE hg hp)
  (have en := upd_at hg)
  (clear hg)))
/-! plain things as data -/
local macro_rules | `(tactic| walk_at "dpa") => `(tactic| first
  | exact .nil
  | (refine .cons (by first | exact .int _ | exact .str _ | exact .bl _ | exact .non | assumption) ?_; walk_at "dpa"))
local macro_rules | `(tactic| walk_at "nwp") => `(tactic| (
  (intro p hp)
  (generalize hg : upd _ p _ = Hn)
  (have sn := same_newE hg hp)
  (have en := upd_at hg)
  (clear hg)))

def top (i : Nat) : Stmt := PySem.Challenge.pw_fewspeak_k24_plans_refused.main.body.getD i (.Pass ⟨0, 0, 0, 0⟩)
abbrev s_is_whole : Stmt := top 5
abbrev s__law_cell : Stmt := top 14
abbrev s_NoPlan___init__ : Stmt := inClass (top 3) 0
abbrev s_Few___init__ : Stmt := inClass (top 10) 0
abbrev s_Loose___init__ : Stmt := inClass (top 12) 0
abbrev s_Start___init__ : Stmt := inClass (top 11) 0
abbrev s_Few_text : Stmt := inClass (top 10) 4
abbrev s_Few_need_levels : Stmt := inClass (top 9) 5
abbrev s_Loose_text : Stmt := inClass (top 12) 4
abbrev s_Loose_need_levels : Stmt := inClass (top 9) 5
abbrev s_Start_text : Stmt := inClass (top 11) 4
abbrev s_Start_need_levels : Stmt := inClass (top 9) 5
abbrev s__law_whole : Stmt := top 16
abbrev s__law_thing : Stmt := top 17
abbrev s__law_made : Stmt := top 18
abbrev s__law_asked : Stmt := top 19
abbrev s__law_good : Stmt := top 20
abbrev s_law : Stmt := top 21
theorem sc_is_whole : FnScope ["thing", "low", "high"] ["thing", "low", "high"] (defScope s_is_whole) := ⟨rfl, rfl, rfl, by decide +kernel, rfl, by decide +kernel, by decide +kernel⟩
theorem sc__law_cell : FnScope ["_law_script", "_law_k"] ["_law_script", "_law_k"] (defScope s__law_cell) := ⟨rfl, rfl, rfl, by decide +kernel, rfl, by decide +kernel, by decide +kernel⟩
theorem sc_NoPlan___init__ : FnScope ["self", "place"] ["self", "place"] (defScope s_NoPlan___init__) := ⟨rfl, rfl, rfl, by decide +kernel, rfl, by decide +kernel, by decide +kernel⟩
theorem sc_Few___init__ : FnScope ["self", "many"] ["self", "many"] (defScope s_Few___init__) := ⟨rfl, rfl, rfl, by decide +kernel, rfl, by decide +kernel, by decide +kernel⟩
theorem sc_Loose___init__ : FnScope ["self", "many"] ["self", "many"] (defScope s_Loose___init__) := ⟨rfl, rfl, rfl, by decide +kernel, rfl, by decide +kernel, by decide +kernel⟩
theorem sc_Start___init__ : FnScope ["self", "step"] ["self", "step"] (defScope s_Start___init__) := ⟨rfl, rfl, rfl, by decide +kernel, rfl, by decide +kernel, by decide +kernel⟩
theorem sc_Few_text : FnScope ["self"] ["self"] (defScope s_Few_text) := ⟨rfl, rfl, rfl, by decide +kernel, rfl, by decide +kernel, by decide +kernel⟩
theorem sc_Few_need_levels : FnScope ["self", "levels"] ["self", "levels"] (defScope s_Few_need_levels) := ⟨rfl, rfl, rfl, by decide +kernel, rfl, by decide +kernel, by decide +kernel⟩
theorem sc_Loose_text : FnScope ["self"] ["self"] (defScope s_Loose_text) := ⟨rfl, rfl, rfl, by decide +kernel, rfl, by decide +kernel, by decide +kernel⟩
theorem sc_Loose_need_levels : FnScope ["self", "levels"] ["self", "levels"] (defScope s_Loose_need_levels) := ⟨rfl, rfl, rfl, by decide +kernel, rfl, by decide +kernel, by decide +kernel⟩
theorem sc_Start_text : FnScope ["self"] ["self"] (defScope s_Start_text) := ⟨rfl, rfl, rfl, by decide +kernel, rfl, by decide +kernel, by decide +kernel⟩
theorem sc_Start_need_levels : FnScope ["self", "levels"] ["self", "levels"] (defScope s_Start_need_levels) := ⟨rfl, rfl, rfl, by decide +kernel, rfl, by decide +kernel, by decide +kernel⟩
theorem sc__law_whole : FnScope ["_law_found"] ["_law_found"] (defScope s__law_whole) := ⟨rfl, rfl, rfl, by decide +kernel, rfl, by decide +kernel, by decide +kernel⟩
theorem sc__law_thing : FnScope ["_law_cell_here", "_law_way"] ["_law_cell_here"] (defScope s__law_thing) := ⟨rfl, rfl, rfl, by decide +kernel, rfl, by decide +kernel, by decide +kernel⟩
theorem sc__law_made : FnScope ["_law_way", "_law_thing_here"] ["_law_way", "_law_thing_here"] (defScope s__law_made) := ⟨rfl, rfl, rfl, by decide +kernel, rfl, by decide +kernel, by decide +kernel⟩
theorem sc__law_asked : FnScope ["_law_way", "_law_thing_here", "_law_plan", "_law_place", "e"] ["_law_way", "_law_thing_here"] (defScope s__law_asked) := ⟨rfl, rfl, rfl, by decide +kernel, rfl, by decide +kernel, by decide +kernel⟩
theorem sc__law_good : FnScope ["_law_way", "_law_thing_here", "_law_plan", "_law_kinds", "_law_levels", "_law_k"] ["_law_way", "_law_thing_here", "_law_plan"] (defScope s__law_good) := ⟨rfl, rfl, rfl, by decide +kernel, rfl, by decide +kernel, by decide +kernel⟩
theorem sc_law : FnScope ["_law_script", "_law_k", "_law_cell_here", "_law_thing_here", "_law_way", "_law_plan", "_law_place", "_law_low"] ["_law_script"] (defScope s_law) := ⟨rfl, rfl, rfl, by decide +kernel, rfl, by decide +kernel, by decide +kernel⟩
/-- what the top has written -/
structure Txt (K : PySem.W.Frag) (mg : Str → Option Value) : Prop where
  n_bool : mg "bool" = none
  n_int : mg "int" = none
  n_isinstance : mg "isinstance" = none
  n_len : mg "len" = none
  m_SpeakError : mg "SpeakError" = some (.ref (cA mg "SpeakError"))
  b_SpeakError : BaseI K (cA mg "SpeakError")
  m_NoPlan : mg "NoPlan" = some (.ref (cA mg "NoPlan"))
  o_NoPlan : OexC K (cA mg "NoPlan")
  na_NoPlan_place : PySem.W.findIn K (.ref (cA mg "NoPlan")) "place" = some none
  m_Few : mg "Few" = some (.ref (cA mg "Few"))
  k_Few : Cls K (cA mg "Few")
  na_Few_many : NoAttr K (cA mg "Few") "many"
  g_MOST_DRAWN : ∃ u, mg "MOST_DRAWN" = some u ∧ RelV (.int 24) u
  m_Loose : mg "Loose" = some (.ref (cA mg "Loose"))
  k_Loose : Cls K (cA mg "Loose")
  na_Loose_many : NoAttr K (cA mg "Loose") "many"
  m_Start : mg "Start" = some (.ref (cA mg "Start"))
  k_Start : Cls K (cA mg "Start")
  na_Start_step : NoAttr K (cA mg "Start") "step"
  g_MOST_STEP : ∃ u, mg "MOST_STEP" = some u ∧ RelV (.int 100) u
  n_str : mg "str" = none
  n_ValueError : mg "ValueError" = none
  y_NoPlan : ExcK K (cA mg "NoPlan")
  z_NoPlan : L2.ExcC K (cA mg "NoPlan")
  n_range : mg "range" = none
  m_Plan : mg "Plan" = some (.ref (cA mg "Plan"))
  n_max : mg "max" = none
  n_min : mg "min" = none
  y_SpeakError : ExcK K (cA mg "SpeakError")
  e_NoPlan_NoPlan : PySem.W.subIn K (.ref (cA mg "NoPlan")) (.ref (cA mg "NoPlan")) = some true
  e_NoPlan_SpeakError : PySem.W.subIn K (.ref (cA mg "NoPlan")) (.ref (cA mg "SpeakError")) = some true
  et_NoPlan_ValueError : PySem.W.subIn K (.ref (cA mg "NoPlan")) (.type "ValueError") = some true
  ic_Few : InsC K (cA mg "Few")
  ic_Start : InsC K (cA mg "Start")
  ic_Loose : InsC K (cA mg "Loose")
  ct_Plan : ClsT K (cA mg "Plan")
  ct_Few : ClsT K (cA mg "Few")
  ct_Start : ClsT K (cA mg "Start")
  ct_Loose : ClsT K (cA mg "Loose")
  e_Few_Plan : PySem.W.subIn K (.ref (cA mg "Few")) (.ref (cA mg "Plan")) = some true
  e_Few_Few : PySem.W.subIn K (.ref (cA mg "Few")) (.ref (cA mg "Few")) = some true
  e_Few_Loose : PySem.W.subIn K (.ref (cA mg "Few")) (.ref (cA mg "Loose")) = some false
  e_Few_Start : PySem.W.subIn K (.ref (cA mg "Few")) (.ref (cA mg "Start")) = some false
  e_Loose_Plan : PySem.W.subIn K (.ref (cA mg "Loose")) (.ref (cA mg "Plan")) = some true
  e_Loose_Few : PySem.W.subIn K (.ref (cA mg "Loose")) (.ref (cA mg "Few")) = some false
  e_Loose_Loose : PySem.W.subIn K (.ref (cA mg "Loose")) (.ref (cA mg "Loose")) = some true
  e_Loose_Start : PySem.W.subIn K (.ref (cA mg "Loose")) (.ref (cA mg "Start")) = some false
  e_Start_Plan : PySem.W.subIn K (.ref (cA mg "Start")) (.ref (cA mg "Plan")) = some true
  e_Start_Few : PySem.W.subIn K (.ref (cA mg "Start")) (.ref (cA mg "Few")) = some false
  e_Start_Loose : PySem.W.subIn K (.ref (cA mg "Start")) (.ref (cA mg "Loose")) = some false
  e_Start_Start : PySem.W.subIn K (.ref (cA mg "Start")) (.ref (cA mg "Start")) = some true
  d_is_whole : DefAt K mg "is_whole" s_is_whole ["thing", "low", "high"]
  d__law_cell : DefAt K mg "_law_cell" s__law_cell ["_law_script", "_law_k"]
  xi_NoPlan : XIniAt K (cA mg "NoPlan") "NoPlan.__init__" s_NoPlan___init__ ["self", "place"]
  i_Few : InitAt K (cA mg "Few") "Few.__init__" s_Few___init__ ["self", "many"]
  i_Loose : InitAt K (cA mg "Loose") "Loose.__init__" s_Loose___init__ ["self", "many"]
  i_Start : InitAt K (cA mg "Start") "Start.__init__" s_Start___init__ ["self", "step"]
  d_Few_text : MethAt K (cA mg "Few") "text" "Few.text" s_Few_text ["self"]
  d_Few_need_levels : MethAt K (cA mg "Few") "need_levels" "Plan.need_levels" s_Few_need_levels ["self", "levels"]
  d_Loose_text : MethAt K (cA mg "Loose") "text" "Loose.text" s_Loose_text ["self"]
  d_Loose_need_levels : MethAt K (cA mg "Loose") "need_levels" "Plan.need_levels" s_Loose_need_levels ["self", "levels"]
  d_Start_text : MethAt K (cA mg "Start") "text" "Start.text" s_Start_text ["self"]
  d_Start_need_levels : MethAt K (cA mg "Start") "need_levels" "Plan.need_levels" s_Start_need_levels ["self", "levels"]
  d__law_whole : DefAt K mg "_law_whole" s__law_whole ["_law_found"]
  d__law_thing : DefAt K mg "_law_thing" s__law_thing ["_law_cell_here"]
  d__law_made : DefAt K mg "_law_made" s__law_made ["_law_way", "_law_thing_here"]
  d__law_asked : DefAt K mg "_law_asked" s__law_asked ["_law_way", "_law_thing_here"]
  d__law_good : DefAt K mg "_law_good" s__law_good ["_law_way", "_law_thing_here", "_law_plan"]
  d_law : DefAt K mg "law" s_law ["_law_script"]
section
variable {P : Program} {w : World} {K : PySem.W.Frag} {mg : Str → Option Value} {base : Heap}
theorem fd_Few_many (T : Txt K mg) {H : Hp} {a dx : Addr} {fs : List (Str × V)} {v : V} {Q : V → Prop} (h : H a = some (.ins (cA mg "Few") dx fs)) (l : fs.lookup ("many" : Str) = some v) (q : Q v) : ∃ a1 C dx fs v, V.ref a = V.ref a1 ∧ H a1 = some (.ins C dx fs) ∧ Cls K C ∧ NoAttr K C "many" ∧ fs.lookup ("many" : Str) = some v ∧ Q v := L_fldv h T.k_Few T.na_Few_many l q
local macro_rules | `(tactic| walk_at "fd") => `(tactic| with_reducible refine fd_Few_many (by assumption) (by walk_at "hp") (by with_unfolding_all rfl) ?_)
theorem fd_Loose_many (T : Txt K mg) {H : Hp} {a dx : Addr} {fs : List (Str × V)} {v : V} {Q : V → Prop} (h : H a = some (.ins (cA mg "Loose") dx fs)) (l : fs.lookup ("many" : Str) = some v) (q : Q v) : ∃ a1 C dx fs v, V.ref a = V.ref a1 ∧ H a1 = some (.ins C dx fs) ∧ Cls K C ∧ NoAttr K C "many" ∧ fs.lookup ("many" : Str) = some v ∧ Q v := L_fldv h T.k_Loose T.na_Loose_many l q
local macro_rules | `(tactic| walk_at "fd") => `(tactic| with_reducible refine fd_Loose_many (by assumption) (by walk_at "hp") (by with_unfolding_all rfl) ?_)
theorem fd_Start_step (T : Txt K mg) {H : Hp} {a dx : Addr} {fs : List (Str × V)} {v : V} {Q : V → Prop} (h : H a = some (.ins (cA mg "Start") dx fs)) (l : fs.lookup ("step" : Str) = some v) (q : Q v) : ∃ a1 C dx fs v, V.ref a = V.ref a1 ∧ H a1 = some (.ins C dx fs) ∧ Cls K C ∧ NoAttr K C "step" ∧ fs.lookup ("step" : Str) = some v ∧ Q v := L_fldv h T.k_Start T.na_Start_step l q
local macro_rules | `(tactic| walk_at "fd") => `(tactic| with_reducible refine fd_Start_step (by assumption) (by walk_at "hp") (by with_unfolding_all rfl) ?_)
def sp_is_whole (K : PySem.W.Frag) (mg : Str → Option Value) : Sp := fun vs H Q _ => match vs with | [v, .int lo, .int hi] => (∃ t, v = .int t ∧ Q (.bl (decide (lo ≤ t) && decide (t ≤ hi))) H) ∨ (NotW K H v ∧ Q (.bl false) H) | _ => False
theorem c_is_whole (T : Txt K mg) : Cal P w K mg base 1 "is_whole" (sp_is_whole K mg) := by
  refine T.d_is_whole.cal (k := 0) sc_is_whole (by intro vs H Q E h; unfold sp_is_whole at h; split at h <;> first | rfl | exact h.elim) fun f cdv A outer s H vs Q E hr h => ?_
  refine ⟨_, (pss_cons (ps_if (PW.pt (pw_or (pt_not (pt_val (pe_callB call_isi (by rfl) T.n_isinstance (by decide +kernel) (pa_cons (pv 0) (pa_cons (pe_ty "int" (by rfl) T.n_int (by decide +kernel)) pa_nil))))) (pw_or1 (pt_val (pe_callB call_isi (by rfl) T.n_isinstance (by decide +kernel) (pa_cons (pv 0) (pa_cons (pe_ty "bool" (by rfl) T.n_bool (by decide +kernel)) pa_nil)))))))
    (pss_one (ps_ret pe_bl))
    pss_nil)
    (pss_one (ps_ret (pe_chain op_leA op_leA (pv 1) (pv 0) (pv 2))))), ?_⟩
  try simp only [cxOf_K, cxOf_K', cxOf_mg, cxOf_mg']
  unfold sp_is_whole at h
  split at h
  case h_2 => exact h.elim
  rename_i v lo hi
  rw [show L2.start ["thing", "low", "high"] [v, V.int lo, V.int hi] = [some (v), some (V.int lo), some (V.int hi)] from rfl]
  rcases h with ⟨t, rfl, q⟩ | ⟨⟨b, rfl⟩ | ⟨ty, h1, h2⟩, q⟩
  · walk_at "sa"
    refine L_d (fun c1 => ?_) (fun c1 => ?_)
    · rw [decide_eq_true c1, Bool.true_and] at q
      walk_at "sts"
      exact q
    · rw [decide_eq_false c1, Bool.false_and] at q
      exact q
  · walk_at "sts"
    refine L_isi (.base (.bl b)) (b := true) (by decide +kernel) ?_
    walk_at "sts"
    refine L_isi (.base (.bl b)) (b := true) (by decide +kernel) ?_
    walk_at "sts"
    exact q
  · walk_at "sts"
    refine L_isi h1 h2 ?_
    walk_at "sts"
    exact q
theorem q_whole {H : Hp} {Q : VK} {E : XK} {t lo hi : Int} (q : Q (.bl (decide (lo ≤ t) && decide (t ≤ hi))) H) : sp_is_whole K mg [.int t, .int lo, .int hi] H Q E := .inl ⟨t, rfl, q⟩
theorem q_wholeT {H : Hp} {Q : VK} {E : XK} {t lo hi : Int} (h : lo ≤ t ∧ t ≤ hi) (q : Q (.bl true) H) : sp_is_whole K mg [.int t, .int lo, .int hi] H Q E := q_whole (by rw [decide_eq_true h.1, decide_eq_true h.2]; exact q)
theorem q_wholeF {H : Hp} {Q : VK} {E : XK} {t lo hi : Int} (h : ¬ (lo ≤ t ∧ t ≤ hi)) (q : Q (.bl false) H) : sp_is_whole K mg [.int t, .int lo, .int hi] H Q E := q_whole (by
  rw [show (decide (lo ≤ t) && decide (t ≤ hi)) = false by simp only [Bool.and_eq_false_iff, decide_eq_false_iff_not]; omega]; exact q)
theorem q_wholeN {H : Hp} {Q : VK} {E : XK} {v : V} {lo hi : Int} (h : NotW K H v) (q : Q (.bl false) H) : sp_is_whole K mg [v, .int lo, .int hi] H Q E := .inr ⟨h, q⟩
theorem q_wholeB {H : Hp} {Q : VK} {E : XK} {v : V} {lo hi : Int} (h : BadW K H v lo hi) (q : Q (.bl false) H) : sp_is_whole K mg [v, .int lo, .int hi] H Q E := by
  rcases h with h | ⟨t, rfl, h⟩
  · exact q_wholeN h q
  · exact q_wholeF h q
local macro_rules | `(tactic| walk_at "op") => `(tactic| with_reducible first | refine q_wholeT (by omega) ?_ | refine q_wholeF (by omega) ?_ | refine q_whole ?_)
def sp__law_cell (K : PySem.W.Frag) (mg : Str → Option Value) : Sp := fun vs H Q _ => match vs with | [.ref a, .int k] => ∃ ns : List Int, SqL K H a (ns.map V.int) ∧ 0 ≤ k ∧ k < 1000000 ∧ Q (.int (cellAt ns k (7919 * k + 13))) H | _ => False
theorem q__law_cell {H : Hp} {Q : VK} {E : XK} {a : Addr} {k : Int} (q : ∃ ns : List Int, SqL K H a (ns.map V.int) ∧ 0 ≤ k ∧ k < 1000000 ∧ Q (.int (cellAt ns k (7919 * k + 13))) H) : sp__law_cell K mg [.ref a, .int k] H Q E := q
local macro_rules | `(tactic| walk_at "op") => `(tactic| with_reducible refine q__law_cell ?_)
theorem c__law_cell (T : Txt K mg) : Cal P w K mg base 1 "_law_cell" (sp__law_cell K mg) := by
  refine T.d__law_cell.cal (k := 0) sc__law_cell (by intro vs H Q E h; unfold sp__law_cell at h; split at h <;> first | rfl | exact h.elim) fun f cdv A outer s H vs Q E hr h => ?_
  refine ⟨_, (pss_cons (ps_if (pt_cmpR op_ltA (pv 1) (pe_callB call_lenA (by rfl) T.n_len (by decide +kernel) (pa_cons (pv 0) pa_nil)) (nomark _))
    (pss_one (ps_ret (pe_ix ix_seq (pv 0) (pv 1) (fun _ _ => rfl))))
    pss_nil)
    (pss_one (ps_ret (pe_op op_addA (pe_op op_mulA pe_int (pv 1)) pe_int)))), ?_⟩
  try simp only [cxOf_K, cxOf_K', cxOf_mg, cxOf_mg']
  unfold sp__law_cell at h
  split at h
  case h_2 => exact h.elim
  rename_i a k
  rw [show L2.start ["_law_script", "_law_k"] [V.ref a, V.int k] = [some (V.ref a), some (V.int k)] from rfl]
  obtain ⟨ns, hS, hk, hk2, q⟩ := h
  walk_at "sa"
  rw [List.length_map]
  refine L_d (fun c => ?_) (fun c => ?_)
  · walk_at "sts"
    exact L_ixL hS (cellAt_in hk c) q
  · walk_at "sa"
    rw [cellAt_out c] at q
    exact q
def sp_NoPlan___init__ (K : PySem.W.Frag) (mg : Str → Option Value) : Sp := fun vs H Q _ => match vs with | [.ref a, v] => XIni1 (cA mg "NoPlan") "place" a v H Q | _ => False
theorem q_NoPlan___init__ {H : Hp} {Q : VK} {E : XK} {a : Addr} {v : V} (q : XIni1 (cA mg "NoPlan") "place" a v H Q) : sp_NoPlan___init__ K mg [.ref a, v] H Q E := q
local macro_rules | `(tactic| walk_at "op") => `(tactic| with_reducible refine q_NoPlan___init__ ?_)
theorem x_NoPlan (T : Txt K mg) : XMak P w K mg base 1 "NoPlan" (cA mg "NoPlan") (sp_NoPlan___init__ K mg) := by
  refine XIniAt.xmak T.m_NoPlan T.xi_NoPlan (k := 0) sc_NoPlan___init__ (by intro vs H Q E h; unfold sp_NoPlan___init__ at h; split at h <;> first | rfl | exact h.elim) fun f cdv A outer s H vs Q E hr h => ?_
  refine ⟨_, (pss_cons (ps_expr (pe_baseI (by rfl) T.m_SpeakError T.b_SpeakError (pa_cons (pv 0) (pa_cons pe_str pa_nil))))
    (pss_one (ps_ost (pv 0) (pv 1) rfl))), ?_⟩
  try simp only [cxOf_K, cxOf_K', cxOf_mg, cxOf_mg']
  unfold sp_NoPlan___init__ at h
  split at h
  case h_2 => exact h.elim
  rename_i a v
  rw [show L2.start ["self", "place"] [V.ref a, v] = [some (V.ref a), some (v)] from rfl]
  obtain ⟨ha, q⟩ := h
  walk_at "sts"
  refine L_tveI ?_
  walk_at "sts"
  refine L_veI T.o_NoPlan ha (by rw [List.length_singleton]; decide) ?_
  walk_at "sts"
  refine L_ost ?_
  walk_at "sts"
  refine L_ost1 T.o_NoPlan T.na_NoPlan_place ha fun dx nx ne => ?_
  exact q dx nx ne
theorem q_noPlan {H : Hp} {E : XK} (q : ∀ d H', Same H H' → H' d = some (.xd [("place", .int 0)]) → E (.ref (cA mg "NoPlan")) (some d) H') : [V.int 0].length ≤ 1000 ∧ ∀ a, H a = none → sp_NoPlan___init__ K mg (.ref a :: ([V.int 0] ++ [])) (upd H a (exo a (cA mg "NoPlan") none))
  (fun v H2 => v = .non ∧ ∃ (d : Addr) (fs : List (Str × V)), H2 a = some (exo a (cA mg "NoPlan") (some d)) ∧ H2 d = some (exd d fs) ∧ H d = none ∧ E (.ref (cA mg "NoPlan")) (some d) (upd (del H2 a) d (.xd fs))) (fun _ _ _ => False) :=
  L_mkO1 (fun _ _ _ _ h => h) fun d nd => q d _ (same_new nd) upd_same
theorem txt_short (z : Str) {t : Int} (hz : z.length ≤ 10) (h1 : 0 ≤ t) (h2 : t ≤ 100) : z.length + (↑(toString t) : Str).length ≤ sizeLine := by
  have := str_short t h1 h2
  have := sizeLine_eq
  omega
theorem same_made {H : Hp} {x dx C : Addr} (nx : H x = none) (nd : H dx = none) (ne : dx ≠ x) : Same H (upd (upd H dx (.own x)) x (.ins C dx [])) :=
  (same_new nd).trans (same_new (by rw [upd_ne ne.symm]; exact nx))
/-- which plan is asked for -/
def plC (w : Int) : Str := if w = 0 then "Few" else if w = 1 then "Loose" else "Start"
def plF (w : Int) : Str := if w = 2 then "step" else "many"
def plLo (w : Int) : Int := if w = 2 then 1 else 0
def plHi (w : Int) : Int := if w = 2 then 100 else 24
/-- what is asked of a plan's __init__ -/
def Ini (K : PySem.W.Frag) (mg : Str → Option Value) (C : Addr) (f : Str) (lo hi : Int) (x : Addr) (v : V) (H : Hp) (Q : VK) (E : XK) : Prop :=
  ∃ dx, H x = some (.ins C dx []) ∧ ((BadW K H v lo hi ∧ ∀ d H', Same H H' → H' d = some (.xd [("place", .int 0)]) → E (.ref (cA mg "NoPlan")) (some d) H') ∨
    ∃ t, v = .int t ∧ lo ≤ t ∧ t ≤ hi ∧ ∀ H', (∀ b o, H b = some o → b ≠ x → H' b = some o) → H' x = some (.ins C dx [(f, .int t)]) → Q .non H')
def sp_Few___init__ (K : PySem.W.Frag) (mg : Str → Option Value) : Sp := fun vs H Q E => match vs with | [.ref x, v] => Ini K mg (cA mg "Few") "many" 0 24 x v H Q E | _ => False
theorem q_Few___init__ {H : Hp} {Q : VK} {E : XK} {x : Addr} {v : V} (q : Ini K mg (cA mg "Few") "many" 0 24 x v H Q E) : sp_Few___init__ K mg [.ref x, v] H Q E := q
local macro_rules | `(tactic| walk_at "op") => `(tactic| with_reducible refine q_Few___init__ ?_)
theorem m_Few (T : Txt K mg) : MakX P w K mg base 3 "Few" (cA mg "Few") (sp_Few___init__ K mg) := by
  refine InitAt.makX T.m_Few T.i_Few (k := 2) sc_Few___init__ (by intro vs H Q E h; unfold sp_Few___init__ at h; split at h <;> first | rfl | exact h.elim) fun f cdv A outer s H vs Q E hr h => ?_
  refine ⟨_, (pss_cons (ps_if (pt_not (pt_val (pe_c (c_is_whole T) hr (by decide) (by rfl) (pa_cons (pv 1) (pa_cons pe_int (pa_cons (pe_gc (by rfl) T.g_MOST_DRAWN) pa_nil))))))
    (pss_one (ps_raise rfl (takes_of rfl rfl rfl rfl) (pmk_x (x_NoPlan T) T.o_NoPlan hr (by decide) (by rfl) (pa_cons pe_int pa_nil))))
    pss_nil)
    (pss_one (ps_fld (pv 0) (pv 1) rfl))), ?_⟩
  try simp only [cxOf_K, cxOf_K', cxOf_mg, cxOf_mg']
  unfold sp_Few___init__ at h
  split at h
  case h_2 => exact h.elim
  rename_i x v
  rw [show L2.start ["self", "many"] [V.ref x, v] = [some (V.ref x), some (v)] from rfl]
  obtain ⟨dx, hx, ⟨hb, q⟩ | ⟨t, rfl, h1, h2, q⟩⟩ := h
  · walk_at "sts"
    refine q_wholeB hb ?_
    walk_at "sts"
    refine L_mkO ?_
    walk_at "sts"
    exact q_noPlan q
  · walk_at "sts"
    refine L_sFldv hx T.k_Few T.na_Few_many (by decide) ?_
    refine q _ (fun b o hb ne => by rw [upd_ne ne]; exact hb) upd_same
def sp_Loose___init__ (K : PySem.W.Frag) (mg : Str → Option Value) : Sp := fun vs H Q E => match vs with | [.ref x, v] => Ini K mg (cA mg "Loose") "many" 0 24 x v H Q E | _ => False
theorem q_Loose___init__ {H : Hp} {Q : VK} {E : XK} {x : Addr} {v : V} (q : Ini K mg (cA mg "Loose") "many" 0 24 x v H Q E) : sp_Loose___init__ K mg [.ref x, v] H Q E := q
local macro_rules | `(tactic| walk_at "op") => `(tactic| with_reducible refine q_Loose___init__ ?_)
theorem m_Loose (T : Txt K mg) : MakX P w K mg base 3 "Loose" (cA mg "Loose") (sp_Loose___init__ K mg) := by
  refine InitAt.makX T.m_Loose T.i_Loose (k := 2) sc_Loose___init__ (by intro vs H Q E h; unfold sp_Loose___init__ at h; split at h <;> first | rfl | exact h.elim) fun f cdv A outer s H vs Q E hr h => ?_
  refine ⟨_, (pss_cons (ps_if (pt_not (pt_val (pe_c (c_is_whole T) hr (by decide) (by rfl) (pa_cons (pv 1) (pa_cons pe_int (pa_cons (pe_gc (by rfl) T.g_MOST_DRAWN) pa_nil))))))
    (pss_one (ps_raise rfl (takes_of rfl rfl rfl rfl) (pmk_x (x_NoPlan T) T.o_NoPlan hr (by decide) (by rfl) (pa_cons pe_int pa_nil))))
    pss_nil)
    (pss_one (ps_fld (pv 0) (pv 1) rfl))), ?_⟩
  try simp only [cxOf_K, cxOf_K', cxOf_mg, cxOf_mg']
  unfold sp_Loose___init__ at h
  split at h
  case h_2 => exact h.elim
  rename_i x v
  rw [show L2.start ["self", "many"] [V.ref x, v] = [some (V.ref x), some (v)] from rfl]
  obtain ⟨dx, hx, ⟨hb, q⟩ | ⟨t, rfl, h1, h2, q⟩⟩ := h
  · walk_at "sts"
    refine q_wholeB hb ?_
    walk_at "sts"
    refine L_mkO ?_
    walk_at "sts"
    exact q_noPlan q
  · walk_at "sts"
    refine L_sFldv hx T.k_Loose T.na_Loose_many (by decide) ?_
    refine q _ (fun b o hb ne => by rw [upd_ne ne]; exact hb) upd_same
def sp_Start___init__ (K : PySem.W.Frag) (mg : Str → Option Value) : Sp := fun vs H Q E => match vs with | [.ref x, v] => Ini K mg (cA mg "Start") "step" 1 100 x v H Q E | _ => False
theorem q_Start___init__ {H : Hp} {Q : VK} {E : XK} {x : Addr} {v : V} (q : Ini K mg (cA mg "Start") "step" 1 100 x v H Q E) : sp_Start___init__ K mg [.ref x, v] H Q E := q
local macro_rules | `(tactic| walk_at "op") => `(tactic| with_reducible refine q_Start___init__ ?_)
theorem m_Start (T : Txt K mg) : MakX P w K mg base 3 "Start" (cA mg "Start") (sp_Start___init__ K mg) := by
  refine InitAt.makX T.m_Start T.i_Start (k := 2) sc_Start___init__ (by intro vs H Q E h; unfold sp_Start___init__ at h; split at h <;> first | rfl | exact h.elim) fun f cdv A outer s H vs Q E hr h => ?_
  refine ⟨_, (pss_cons (ps_if (pt_not (pt_val (pe_c (c_is_whole T) hr (by decide) (by rfl) (pa_cons (pv 1) (pa_cons pe_int (pa_cons (pe_gc (by rfl) T.g_MOST_STEP) pa_nil))))))
    (pss_one (ps_raise rfl (takes_of rfl rfl rfl rfl) (pmk_x (x_NoPlan T) T.o_NoPlan hr (by decide) (by rfl) (pa_cons pe_int pa_nil))))
    pss_nil)
    (pss_one (ps_fld (pv 0) (pv 1) rfl))), ?_⟩
  try simp only [cxOf_K, cxOf_K', cxOf_mg, cxOf_mg']
  unfold sp_Start___init__ at h
  split at h
  case h_2 => exact h.elim
  rename_i x v
  rw [show L2.start ["self", "step"] [V.ref x, v] = [some (V.ref x), some (v)] from rfl]
  obtain ⟨dx, hx, ⟨hb, q⟩ | ⟨t, rfl, h1, h2, q⟩⟩ := h
  · walk_at "sts"
    refine q_wholeB hb ?_
    walk_at "sts"
    refine L_mkO ?_
    walk_at "sts"
    exact q_noPlan q
  · walk_at "sts"
    refine L_sFldv hx T.k_Start T.na_Start_step (by decide) ?_
    refine q _ (fun b o hb ne => by rw [upd_ne ne]; exact hb) upd_same
def sp_Few_text (K : PySem.W.Frag) (mg : Str → Option Value) : Sp := fun vs H Q _ => match vs with | [.ref x] => ∃ dx t, H x = some (.ins (cA mg "Few") dx [("many", .int t)]) ∧ 0 ≤ t ∧ t ≤ 100 ∧ Q (.str (Str.ofString "few " ++ toString t)) H | _ => False
theorem q_Few_text {H : Hp} {Q : VK} {E : XK} {x : Addr} (q : ∃ dx t, H x = some (.ins (cA mg "Few") dx [("many", .int t)]) ∧ 0 ≤ t ∧ t ≤ 100 ∧ Q (.str (Str.ofString "few " ++ toString t)) H) : sp_Few_text K mg [.ref x] H Q E := q
local macro_rules | `(tactic| walk_at "op") => `(tactic| with_reducible refine q_Few_text ?_)
theorem c_Few_text (T : Txt K mg) : Met P w K mg base 1 (cA mg "Few") "text" (sp_Few_text K mg) := by
  refine MethAt.met T.k_Few T.d_Few_text (k := 0) sc_Few_text (by intro vs H Q E h; unfold sp_Few_text at h; split at h <;> first | rfl | exact h.elim) fun f cdv A outer s H vs Q E hr h => ?_
  refine ⟨_, (pss_one (ps_ret (pe_op op_addA pe_str (pe_callTy call_str1A (by rfl) T.n_str (by decide +kernel) (pa_cons (pe_fld (pv 0) rfl) pa_nil))))), ?_⟩
  try simp only [cxOf_K, cxOf_K', cxOf_mg, cxOf_mg']
  unfold sp_Few_text at h
  split at h
  case h_2 => exact h.elim
  rename_i x
  rw [show L2.start ["self"] [V.ref x] = [some (V.ref x)] from rfl]
  obtain ⟨dx, t, hx, h1, h2, q⟩ := h
  walk_at "sts"
  refine L_fldv hx T.k_Few T.na_Few_many rfl ?_
  walk_at "sts"
  refine L_str1 (by omega) ?_
  refine L_addS (txt_short _ (by decide) h1 h2) ?_
  exact q
def sp_Few_need_levels (K : PySem.W.Frag) (mg : Str → Option Value) : Sp := fun vs H Q _ => match vs with | [.ref x, v] => Q .non H | _ => False
theorem q_Few_need_levels {H : Hp} {Q : VK} {E : XK} {x : Addr} {v : V} (q : Q .non H) : sp_Few_need_levels K mg [.ref x, v] H Q E := q
local macro_rules | `(tactic| walk_at "op") => `(tactic| with_reducible refine q_Few_need_levels ?_)
theorem c_Few_need_levels (T : Txt K mg) : Met P w K mg base 1 (cA mg "Few") "need_levels" (sp_Few_need_levels K mg) := by
  refine MethAt.met T.k_Few T.d_Few_need_levels (k := 0) sc_Few_need_levels (by intro vs H Q E h; unfold sp_Few_need_levels at h; split at h <;> first | rfl | exact h.elim) fun f cdv A outer s H vs Q E hr h => ?_
  refine ⟨_, (pss_one ps_pass), ?_⟩
  try simp only [cxOf_K, cxOf_K', cxOf_mg, cxOf_mg']
  unfold sp_Few_need_levels at h
  split at h
  case h_2 => exact h.elim
  rename_i x v
  rw [show L2.start ["self", "levels"] [V.ref x, v] = [some (V.ref x), some (v)] from rfl]
  walk_at "sts"
  exact h
def sp_Loose_text (K : PySem.W.Frag) (mg : Str → Option Value) : Sp := fun vs H Q _ => match vs with | [.ref x] => ∃ dx t, H x = some (.ins (cA mg "Loose") dx [("many", .int t)]) ∧ 0 ≤ t ∧ t ≤ 100 ∧ Q (.str (Str.ofString "loose " ++ toString t)) H | _ => False
theorem q_Loose_text {H : Hp} {Q : VK} {E : XK} {x : Addr} (q : ∃ dx t, H x = some (.ins (cA mg "Loose") dx [("many", .int t)]) ∧ 0 ≤ t ∧ t ≤ 100 ∧ Q (.str (Str.ofString "loose " ++ toString t)) H) : sp_Loose_text K mg [.ref x] H Q E := q
local macro_rules | `(tactic| walk_at "op") => `(tactic| with_reducible refine q_Loose_text ?_)
theorem c_Loose_text (T : Txt K mg) : Met P w K mg base 1 (cA mg "Loose") "text" (sp_Loose_text K mg) := by
  refine MethAt.met T.k_Loose T.d_Loose_text (k := 0) sc_Loose_text (by intro vs H Q E h; unfold sp_Loose_text at h; split at h <;> first | rfl | exact h.elim) fun f cdv A outer s H vs Q E hr h => ?_
  refine ⟨_, (pss_one (ps_ret (pe_op op_addA pe_str (pe_callTy call_str1A (by rfl) T.n_str (by decide +kernel) (pa_cons (pe_fld (pv 0) rfl) pa_nil))))), ?_⟩
  try simp only [cxOf_K, cxOf_K', cxOf_mg, cxOf_mg']
  unfold sp_Loose_text at h
  split at h
  case h_2 => exact h.elim
  rename_i x
  rw [show L2.start ["self"] [V.ref x] = [some (V.ref x)] from rfl]
  obtain ⟨dx, t, hx, h1, h2, q⟩ := h
  walk_at "sts"
  refine L_fldv hx T.k_Loose T.na_Loose_many rfl ?_
  walk_at "sts"
  refine L_str1 (by omega) ?_
  refine L_addS (txt_short _ (by decide) h1 h2) ?_
  exact q
def sp_Loose_need_levels (K : PySem.W.Frag) (mg : Str → Option Value) : Sp := fun vs H Q _ => match vs with | [.ref x, v] => Q .non H | _ => False
theorem q_Loose_need_levels {H : Hp} {Q : VK} {E : XK} {x : Addr} {v : V} (q : Q .non H) : sp_Loose_need_levels K mg [.ref x, v] H Q E := q
local macro_rules | `(tactic| walk_at "op") => `(tactic| with_reducible refine q_Loose_need_levels ?_)
theorem c_Loose_need_levels (T : Txt K mg) : Met P w K mg base 1 (cA mg "Loose") "need_levels" (sp_Loose_need_levels K mg) := by
  refine MethAt.met T.k_Loose T.d_Loose_need_levels (k := 0) sc_Loose_need_levels (by intro vs H Q E h; unfold sp_Loose_need_levels at h; split at h <;> first | rfl | exact h.elim) fun f cdv A outer s H vs Q E hr h => ?_
  refine ⟨_, (pss_one ps_pass), ?_⟩
  try simp only [cxOf_K, cxOf_K', cxOf_mg, cxOf_mg']
  unfold sp_Loose_need_levels at h
  split at h
  case h_2 => exact h.elim
  rename_i x v
  rw [show L2.start ["self", "levels"] [V.ref x, v] = [some (V.ref x), some (v)] from rfl]
  walk_at "sts"
  exact h
def sp_Start_text (K : PySem.W.Frag) (mg : Str → Option Value) : Sp := fun vs H Q _ => match vs with | [.ref x] => ∃ dx t, H x = some (.ins (cA mg "Start") dx [("step", .int t)]) ∧ 0 ≤ t ∧ t ≤ 100 ∧ Q (.str (Str.ofString "start " ++ toString t)) H | _ => False
theorem q_Start_text {H : Hp} {Q : VK} {E : XK} {x : Addr} (q : ∃ dx t, H x = some (.ins (cA mg "Start") dx [("step", .int t)]) ∧ 0 ≤ t ∧ t ≤ 100 ∧ Q (.str (Str.ofString "start " ++ toString t)) H) : sp_Start_text K mg [.ref x] H Q E := q
local macro_rules | `(tactic| walk_at "op") => `(tactic| with_reducible refine q_Start_text ?_)
theorem c_Start_text (T : Txt K mg) : Met P w K mg base 1 (cA mg "Start") "text" (sp_Start_text K mg) := by
  refine MethAt.met T.k_Start T.d_Start_text (k := 0) sc_Start_text (by intro vs H Q E h; unfold sp_Start_text at h; split at h <;> first | rfl | exact h.elim) fun f cdv A outer s H vs Q E hr h => ?_
  refine ⟨_, (pss_one (ps_ret (pe_op op_addA pe_str (pe_callTy call_str1A (by rfl) T.n_str (by decide +kernel) (pa_cons (pe_fld (pv 0) rfl) pa_nil))))), ?_⟩
  try simp only [cxOf_K, cxOf_K', cxOf_mg, cxOf_mg']
  unfold sp_Start_text at h
  split at h
  case h_2 => exact h.elim
  rename_i x
  rw [show L2.start ["self"] [V.ref x] = [some (V.ref x)] from rfl]
  obtain ⟨dx, t, hx, h1, h2, q⟩ := h
  walk_at "sts"
  refine L_fldv hx T.k_Start T.na_Start_step rfl ?_
  walk_at "sts"
  refine L_str1 (by omega) ?_
  refine L_addS (txt_short _ (by decide) h1 h2) ?_
  exact q
def sp_Start_need_levels (K : PySem.W.Frag) (mg : Str → Option Value) : Sp := fun vs H Q _ => match vs with | [.ref x, v] => Q .non H | _ => False
theorem q_Start_need_levels {H : Hp} {Q : VK} {E : XK} {x : Addr} {v : V} (q : Q .non H) : sp_Start_need_levels K mg [.ref x, v] H Q E := q
local macro_rules | `(tactic| walk_at "op") => `(tactic| with_reducible refine q_Start_need_levels ?_)
theorem c_Start_need_levels (T : Txt K mg) : Met P w K mg base 1 (cA mg "Start") "need_levels" (sp_Start_need_levels K mg) := by
  refine MethAt.met T.k_Start T.d_Start_need_levels (k := 0) sc_Start_need_levels (by intro vs H Q E h; unfold sp_Start_need_levels at h; split at h <;> first | rfl | exact h.elim) fun f cdv A outer s H vs Q E hr h => ?_
  refine ⟨_, (pss_one ps_pass), ?_⟩
  try simp only [cxOf_K, cxOf_K', cxOf_mg, cxOf_mg']
  unfold sp_Start_need_levels at h
  split at h
  case h_2 => exact h.elim
  rename_i x v
  rw [show L2.start ["self", "levels"] [V.ref x, v] = [some (V.ref x), some (v)] from rfl]
  walk_at "sts"
  exact h
def sp__law_whole (K : PySem.W.Frag) (mg : Str → Option Value) : Sp := fun vs H Q _ => match vs with | [v] => (∃ t, v = .int t ∧ Q (.bl true) H) ∨ (NotW K H v ∧ Q (.bl false) H) | _ => False
theorem c__law_whole (T : Txt K mg) : Cal P w K mg base 1 "_law_whole" (sp__law_whole K mg) := by
  refine T.d__law_whole.cal (k := 0) sc__law_whole (by intro vs H Q E h; unfold sp__law_whole at h; split at h <;> first | rfl | exact h.elim) fun f cdv A outer s H vs Q E hr h => ?_
  refine ⟨_, (pss_one (ps_ret (pe_and (pe_callB call_isi (by rfl) T.n_isinstance (by decide +kernel) (pa_cons (pv 0) (pa_cons (pe_ty "int" (by rfl) T.n_int (by decide +kernel)) pa_nil))) (pe_one (pe_not (pe_callB call_isi (by rfl) T.n_isinstance (by decide +kernel) (pa_cons (pv 0) (pa_cons (pe_ty "bool" (by rfl) T.n_bool (by decide +kernel)) pa_nil)))))))), ?_⟩
  try simp only [cxOf_K, cxOf_K', cxOf_mg, cxOf_mg']
  unfold sp__law_whole at h
  split at h
  case h_2 => exact h.elim
  rename_i v
  rw [show L2.start ["_law_found"] [v] = [some (v)] from rfl]
  rcases h with ⟨t, rfl, q⟩ | ⟨⟨b, rfl⟩ | ⟨ty, h1, h2⟩, q⟩
  · walk_at "sa"
    exact q
  · walk_at "sts"
    refine L_isi (.base (.bl b)) (b := true) (by decide +kernel) ?_
    walk_at "sts"
    refine L_isi (.base (.bl b)) (b := true) (by decide +kernel) ?_
    walk_at "sts"
    exact q
  · walk_at "sts"
    refine L_isi h1 h2 ?_
    walk_at "sts"
    exact q
def sp__law_thing (K : PySem.W.Frag) (mg : Str → Option Value) : Sp := fun vs H Q _ => match vs with | [.int c] => ∀ v H', Same H H' → ((∃ t, v = .int t) ∨ NotW K H' v) → Q v H' | _ => False
theorem q__law_thing {H : Hp} {Q : VK} {E : XK} {c : Int} (q : ∀ v H', Same H H' → ((∃ t, v = .int t) ∨ NotW K H' v) → Q v H') : sp__law_thing K mg [.int c] H Q E := q
local macro_rules | `(tactic| walk_at "op") => `(tactic| with_reducible refine q__law_thing ?_)
theorem c__law_thing (T : Txt K mg) : Cal P w K mg base 1 "_law_thing" (sp__law_thing K mg) := by
  refine T.d__law_thing.cal (k := 0) sc__law_thing (by intro vs H Q E h; unfold sp__law_thing at h; split at h <;> first | rfl | exact h.elim) fun f cdv A outer s H vs Q E hr h => ?_
  refine ⟨_, (pss_cons (ps_set (i := 1) sc__law_thing.nd rfl (.inl rfl) (pe_op op_mod (pv 0) pe_int))
    (pss_cons (ps_if (pt_cmpR op_ltA (pv 1) pe_int (nomark _))
    (pss_one (ps_ret (pe_op op_sub (pe_op op_mod (pe_op op_fdivW (pv 0) pe_int) pe_int) pe_int)))
    pss_nil)
    (pss_cons (ps_if (pt_cmpR (op_eqA hr) (pv 1) pe_int (nomark _))
    (pss_one (ps_ret (pe_op op_sub (pe_op op_mod (pe_op op_fdivW (pv 0) pe_int) pe_int) pe_int)))
    pss_nil)
    (pss_cons (ps_if (pt_cmpR (op_eqA hr) (pv 1) pe_int (nomark _))
    (pss_one (ps_ret (pe_ix ix_seq (pe_lst (pa_cons pe_int (pa_cons pe_int (pa_cons (pe_op op_sub (pe_op op_sub pe_int pe_int) (pe_op op_mod (pe_op op_fdivW (pv 0) pe_int) (pe_op op_pow pe_int pe_int))) (pa_cons (pe_op op_addA pe_int (pe_op op_mod (pe_op op_fdivW (pv 0) pe_int) (pe_op op_pow pe_int pe_int))) (pa_cons (pe_op op_addA pe_int (pe_op op_mod (pe_op op_fdivW (pv 0) pe_int) (pe_op op_pow pe_int pe_int))) pa_nil)))))) (pe_op op_mod (pv 0) pe_int) (fun _ _ => rfl))))
    pss_nil)
    (pss_one (ps_ret (pe_ix ix_seq (pe_lst (pa_cons pe_bl (pa_cons pe_bl (pa_cons pe_non (pa_cons pe_str (pa_cons pe_str (pa_cons (pe_lst (pa_cons pe_int pa_nil)) (pa_cons (pe_tup (pa_cons pe_int (pa_cons pe_int pa_nil))) (pa_cons pe_dnewK (pa_cons pe_int (pa_cons pe_int (pa_cons pe_int (pa_cons pe_int pa_nil))))))))))))) (pe_op op_mod (pe_op op_fdivW (pv 0) pe_int) pe_int) (fun _ _ => rfl)))))))), ?_⟩
  try simp only [cxOf_K, cxOf_K', cxOf_mg, cxOf_mg']
  unfold sp__law_thing at h
  split at h
  case h_2 => exact h.elim
  rename_i c
  rw [show L2.start ["_law_cell_here", "_law_way"] [V.int c] = [some (V.int c), none] from rfl]
  walk_at "sa"
  refine L_d (fun _ => ?_) (fun _ => ?_)
  · walk_at "sa"
    exact h _ _ (Same.refl _) (.inl ⟨_, rfl⟩)
  walk_at "sa"
  refine L_d (fun _ => ?_) (fun _ => ?_)
  · walk_at "sa"
    exact h _ _ (Same.refl _) (.inl ⟨_, rfl⟩)
  walk_at "sa"
  refine L_d (fun _ => ?_) (fun _ => ?_)
  · walk_at "sa"
    walk_at "nw"
    rename_i p hp H1 s1 e1
    walk_at "sts"
    refine L_I (by decide) ?_
    refine L_menuV (.of e1) (Int.emod_nonneg _ (by decide)) (Int.emod_lt_of_pos _ (by decide)) fun v hv => ?_
    refine h _ _ s1 (.inl ?_)
    simp only [List.mem_cons, List.not_mem_nil, or_false] at hv
    rcases hv with rfl | rfl | rfl | rfl | rfl <;> exact ⟨_, rfl⟩
  · walk_at "sts"
    walk_at "nw"
    rename_i p1 hp1 H1 s1 e1
    walk_at "sts"
    walk_at "nw"
    rename_i p2 hp2 H2 s2 e2
    walk_at "sts"
    walk_at "nwp"
    rename_i p3 hp3 H3 s3 e3
    walk_at "sts"
    walk_at "nw"
    rename_i p4 hp4 H4 s4 e4
    walk_at "sts"
    refine L_I (cdiv_lit (by decide)) ?_
    walk_at "sts"
    refine L_I (by decide) ?_
    refine L_menuV (.of e4) (Int.emod_nonneg _ (by decide)) (Int.emod_lt_of_pos _ (by decide)) fun v hv => ?_
    refine h _ _ (s1.trans (s2.trans (s3.trans s4))) ?_
    simp only [List.mem_cons, List.not_mem_nil, or_false] at hv
    rcases hv with rfl | rfl | rfl | rfl | rfl | rfl | rfl | rfl | rfl | rfl | rfl | rfl
    · exact .inr notw_bl
    · exact .inr notw_bl
    · exact .inr notw_non
    · exact .inr notw_str
    · exact .inr notw_str
    · exact .inr (notw_lst ((s2.trans (s3.trans s4)) _ _ e1))
    · exact .inr (notw_tup ((s3.trans s4) _ _ e2))
    · exact .inr (notw_dK (s4 _ _ e3))
    · exact .inl ⟨_, rfl⟩
    · exact .inl ⟨_, rfl⟩
    · exact .inl ⟨_, rfl⟩
    · exact .inl ⟨_, rfl⟩
def sp__law_made (K : PySem.W.Frag) (mg : Str → Option Value) : Sp := fun vs H Q E => match vs with | [.int w, v] => 0 ≤ w ∧ w ≤ 2 ∧ ((BadW K H v (plLo w) (plHi w) ∧ ∀ d H', Same H H' → H' d = some (.xd [("place", .int 0)]) → E (.ref (cA mg "NoPlan")) (some d) H') ∨ ∃ t, v = .int t ∧ plLo w ≤ t ∧ t ≤ plHi w ∧ ∀ x dx H1, Same H H1 → H1 x = some (.ins (cA mg (plC w)) dx [(plF w, .int t)]) → Q (.ref x) H1) | _ => False
theorem q__law_made {H : Hp} {Q : VK} {E : XK} {w : Int} {v : V} (q : 0 ≤ w ∧ w ≤ 2 ∧ ((BadW K H v (plLo w) (plHi w) ∧ ∀ d H', Same H H' → H' d = some (.xd [("place", .int 0)]) → E (.ref (cA mg "NoPlan")) (some d) H') ∨ ∃ t, v = .int t ∧ plLo w ≤ t ∧ t ≤ plHi w ∧ ∀ x dx H1, Same H H1 → H1 x = some (.ins (cA mg (plC w)) dx [(plF w, .int t)]) → Q (.ref x) H1)) : sp__law_made K mg [.int w, v] H Q E := q
local macro_rules | `(tactic| walk_at "op") => `(tactic| with_reducible refine q__law_made ?_)
theorem c__law_made (T : Txt K mg) : CalX P w K mg base 5 "_law_made" (sp__law_made K mg) := by
  refine T.d__law_made.calX (k := 4) sc__law_made (by intro vs H Q E h; unfold sp__law_made at h; split at h <;> first | rfl | exact h.elim) fun f cdv A outer s H vs Q E hr h => ?_
  refine ⟨_, (pss_cons (ps_if (pt_cmpR (op_eqA hr) (pv 0) pe_int (nomark _))
    (pss_one (ps_ret (pe_xMk (m_Few T) hr (by decide) (by rfl) (fun σ => passAt (takes_of rfl rfl rfl rfl) σ) (pa_cons (pv 1) pa_nil))))
    pss_nil)
    (pss_cons (ps_if (pt_cmpR (op_eqA hr) (pv 0) pe_int (nomark _))
    (pss_one (ps_ret (pe_xMk (m_Loose T) hr (by decide) (by rfl) (fun σ => passAt (takes_of rfl rfl rfl rfl) σ) (pa_cons (pv 1) pa_nil))))
    pss_nil)
    (pss_one (ps_ret (pe_xMk (m_Start T) hr (by decide) (by rfl) (fun σ => passAt (takes_of rfl rfl rfl rfl) σ) (pa_cons (pv 1) pa_nil)))))), ?_⟩
  try simp only [cxOf_K, cxOf_K', cxOf_mg, cxOf_mg']
  unfold sp__law_made at h
  split at h
  case h_2 => exact h.elim
  rename_i w v
  rw [show L2.start ["_law_way", "_law_thing_here"] [V.int w, v] = [some (V.int w), some (v)] from rfl]
  obtain ⟨h0, h2, h⟩ := h
  obtain rfl | rfl | rfl : w = 0 ∨ w = 1 ∨ w = 2 := by omega
  · walk_at "sa"
    intro x dx nx nd ne
    have sx := same_made (C := cA mg "Few") nx nd ne
    refine ⟨dx, upd_same, ?_⟩
    rcases h with ⟨hb, q⟩ | ⟨t, rfl, h1, h3, q⟩
    · exact .inl ⟨hb.same sx, fun d H' s' e => q d H' (sx.trans s') e⟩
    · refine .inr ⟨t, rfl, h1, h3, fun H' k e => ⟨rfl, ?_⟩⟩
      walk_at "sts"
      exact q x dx _ (Same.made nx nd k) e
  · walk_at "sa"
    intro x dx nx nd ne
    have sx := same_made (C := cA mg "Loose") nx nd ne
    refine ⟨dx, upd_same, ?_⟩
    rcases h with ⟨hb, q⟩ | ⟨t, rfl, h1, h3, q⟩
    · exact .inl ⟨hb.same sx, fun d H' s' e => q d H' (sx.trans s') e⟩
    · refine .inr ⟨t, rfl, h1, h3, fun H' k e => ⟨rfl, ?_⟩⟩
      walk_at "sts"
      exact q x dx _ (Same.made nx nd k) e
  · walk_at "sa"
    intro x dx nx nd ne
    have sx := same_made (C := cA mg "Start") nx nd ne
    refine ⟨dx, upd_same, ?_⟩
    rcases h with ⟨hb, q⟩ | ⟨t, rfl, h1, h3, q⟩
    · exact .inl ⟨hb.same sx, fun d H' s' e => q d H' (sx.trans s') e⟩
    · refine .inr ⟨t, rfl, h1, h3, fun H' k e => ⟨rfl, ?_⟩⟩
      walk_at "sts"
      exact q x dx _ (Same.made nx nd k) e
def sp__law_asked (K : PySem.W.Frag) (mg : Str → Option Value) : Sp := fun vs H Q _ => match vs with | [.int w, v] => 0 ≤ w ∧ w ≤ 2 ∧ ((BadW K H v (plLo w) (plHi w) ∧ ∀ H1, Same H H1 → NewT H1 [.non, .int 0] Q) ∨ ∃ t, v = .int t ∧ plLo w ≤ t ∧ t ≤ plHi w ∧ ∀ x dx H1, Same H H1 → H1 x = some (.ins (cA mg (plC w)) dx [(plF w, .int t)]) → NewT H1 [.ref x, .non] Q) | _ => False
theorem q__law_asked {H : Hp} {Q : VK} {E : XK} {w : Int} {v : V} (q : 0 ≤ w ∧ w ≤ 2 ∧ ((BadW K H v (plLo w) (plHi w) ∧ ∀ H1, Same H H1 → NewT H1 [.non, .int 0] Q) ∨ ∃ t, v = .int t ∧ plLo w ≤ t ∧ t ≤ plHi w ∧ ∀ x dx H1, Same H H1 → H1 x = some (.ins (cA mg (plC w)) dx [(plF w, .int t)]) → NewT H1 [.ref x, .non] Q)) : sp__law_asked K mg [.int w, v] H Q E := q
local macro_rules | `(tactic| walk_at "op") => `(tactic| with_reducible refine q__law_asked ?_)
theorem c__law_asked (T : Txt K mg) : Cal P w K mg base 6 "_law_asked" (sp__law_asked K mg) := by
  refine T.d__law_asked.cal (k := 5) sc__law_asked (by intro vs H Q E h; unfold sp__law_asked at h; split at h <;> first | rfl | exact h.elim) fun f cdv A outer s H vs Q E hr h => ?_
  refine ⟨_, (pss_cons (ps_set (i := 2) sc__law_asked.nd rfl (.inl rfl) pe_non)
    (pss_cons (ps_set (i := 3) sc__law_asked.nd rfl (.inl rfl) pe_non)
    (pss_cons (ps_try_asT (i := 4) (tb := fun W => (tAsg (tCallS (sp__law_made K mg) (fun σ => WE W σ) (tCons (tVar 0) (tCons (tVar 1) tNil))) (gName 2))) (ts := fun xa xcls xd => (tAsg (tOp (rIx K) (tLst (tCons (tOp (rI0 fun i j => .int (i - j)) (tC (.int 0)) (tC (.int 1))) (tCons (tXf xa xcls xd (cA mg "NoPlan") "place" (tVar 4)) tNil))) (tCB aInt1 (tCons (tAndV (tCB (rIsS K xa xcls xd) (tCons (tVar 4) (tCons (tC (.ref (cA mg "SpeakError"))) tNil))) (tCB (rIsS K xa xcls xd) (tCons (tVar 4) (tCons (tC (.ty "ValueError")) tNil)))) tNil))) (gName 3))) rfl rfl sc__law_asked.nd rfl rfl rfl ⟨rfl, by decide, .inl T.m_NoPlan⟩ takes0 (fun W pn xe tk po => by exact (pss_one (ps_set (i := 2) sc__law_asked.nd rfl (.inl rfl) (pe_xS (c__law_made T) hr (by decide) (by rfl) (fun σ => passAt tk σ) (pa_cons (pv 0) (pa_cons (pv 1) pa_nil)))))) (fun a oe cls d pn hz hf => by exact (pss_one (ps_set (i := 3) sc__law_asked.nd rfl (.inl rfl) (pe_ix ix_seq (pe_lst (pa_cons (pe_op op_sub pe_int pe_int) (pa_cons (pe_xf (ExcC.xf T.z_NoPlan) T.na_NoPlan_place hz hf (pv 4)) pa_nil))) (pe_callTy call_int1A (by rfl) T.n_int (by decide +kernel) (pa_cons (pe_and (pe_callB (call_isS hz hf) (by rfl) T.n_isinstance (by decide +kernel) (pa_cons (pv 4) (pa_cons (pe_glob (v := .ref (cA mg "SpeakError")) (by rfl) T.m_SpeakError rfl) pa_nil))) (pe_one (pe_callB (call_isS hz hf) (by rfl) T.n_isinstance (by decide +kernel) (pa_cons (pv 4) (pa_cons (pe_ty "ValueError" (by rfl) T.n_ValueError (by decide +kernel)) pa_nil))))) pa_nil)) (fun _ _ => rfl))))))
    (pss_one (ps_ret (pe_tup (pa_cons (pv 2) (pa_cons (pv 3) pa_nil)))))))), ?_⟩
  try simp only [cxOf_K, cxOf_K', cxOf_mg, cxOf_mg']
  unfold sp__law_asked at h
  split at h
  case h_2 => exact h.elim
  rename_i w v
  rw [show L2.start ["_law_way", "_law_thing_here", "_law_plan", "_law_place", "e"] [V.int w, v] = [some (V.int w), some (v), none, none, none] from rfl]
  obtain ⟨h0, h2, ⟨hb, q⟩ | ⟨t, rfl, h1, h3, q⟩⟩ := h
  · walk_at "sts"
    refine ⟨h0, h2, .inl ⟨hb, fun d H' s' e => ?_⟩⟩
    refine L_asT (T.y_NoPlan.exm T.e_NoPlan_NoPlan) fun a na => ?_
    walk_at "sts"
    refine L_xf ?_
    walk_at "sts"
    refine ⟨rfl, rfl, d, _, _, rfl, e, rfl, ?_⟩
    walk_at "sts"
    walk_at "nw"
    rename_i p1 hp1 H1 s1 e1
    walk_at "sts"
    refine L_isS (fun dd z => ⟨_, by cases z; exact s1 _ _ e⟩) T.z_NoPlan (.own _) (kit_ref T.e_NoPlan_NoPlan T.y_SpeakError T.e_NoPlan_SpeakError) ?_
    walk_at "sts"
    refine L_isS (fun dd z => ⟨_, by cases z; exact s1 _ _ e⟩) T.z_NoPlan (.ty _) (kit_typ (by decide +kernel) T.et_NoPlan_ValueError) ?_
    walk_at "sa"
    intro na1
    walk_at "sts"
    exact L_nw (q _ (s'.trans (s1.trans (same_new na1)))).at
  · walk_at "sts"
    refine ⟨h0, h2, .inr ⟨t, rfl, h1, h3, fun x dx H1 s1 e1 => ?_⟩⟩
    walk_at "sts"
    exact L_nw (q x dx _ s1 e1).at
def sp__law_good (K : PySem.W.Frag) (mg : Str → Option Value) : Sp := fun vs H Q _ => match vs with | [.int w, .int t, .ref x] => ∃ dx, 0 ≤ w ∧ w ≤ 2 ∧ H x = some (.ins (cA mg (plC w)) dx [(plF w, .int t)]) ∧ 0 ≤ t ∧ t ≤ 100 ∧ ∀ H1, Same H H1 → Q (.bl true) H1 | _ => False
theorem q__law_good {H : Hp} {Q : VK} {E : XK} {w : Int} {t : Int} {x : Addr} (q : ∃ dx, 0 ≤ w ∧ w ≤ 2 ∧ H x = some (.ins (cA mg (plC w)) dx [(plF w, .int t)]) ∧ 0 ≤ t ∧ t ≤ 100 ∧ ∀ H1, Same H H1 → Q (.bl true) H1) : sp__law_good K mg [.int w, .int t, .ref x] H Q E := q
local macro_rules | `(tactic| walk_at "op") => `(tactic| with_reducible refine q__law_good ?_)
theorem c__law_good (T : Txt K mg) : Cal P w K mg base 2 "_law_good" (sp__law_good K mg) := by
  refine T.d__law_good.cal (k := 1) sc__law_good (by intro vs H Q E h; unfold sp__law_good at h; split at h <;> first | rfl | exact h.elim) fun f cdv A outer s H vs Q E hr h => ?_
  refine ⟨_, (pss_cons (ps_set (i := 3) sc__law_good.nd rfl (.inl rfl) (pe_lst (pa_cons (pe_callB call_isi (by rfl) T.n_isinstance (by decide +kernel) (pa_cons (pv 2) (pa_cons (pe_glob (v := .ref (cA mg "Plan")) (by rfl) T.m_Plan rfl) pa_nil))) (pa_cons (pe_callB call_isi (by rfl) T.n_isinstance (by decide +kernel) (pa_cons (pv 2) (pa_cons (pe_glob (v := .ref (cA mg "Few")) (by rfl) T.m_Few rfl) pa_nil))) (pa_cons (pe_callB call_isi (by rfl) T.n_isinstance (by decide +kernel) (pa_cons (pv 2) (pa_cons (pe_glob (v := .ref (cA mg "Loose")) (by rfl) T.m_Loose rfl) pa_nil))) (pa_cons (pe_callB call_isi (by rfl) T.n_isinstance (by decide +kernel) (pa_cons (pv 2) (pa_cons (pe_glob (v := .ref (cA mg "Start")) (by rfl) T.m_Start rfl) pa_nil))) pa_nil))))))
    (pss_cons (ps_if (pt_cmpR (op_neA hr) (pv 3) (pe_op op_addA (pe_lst (pa_cons pe_bl pa_nil)) (pe_lc (own := [("_law_k", 5)]) (g := (gName 5)) (tt := tYes) (te := (tOp (aEq K) (tVar 0) (tVar 5))) rfl sc__law_good.nd (pi_range1 (by rfl) T.n_range (pa_cons pe_int pa_nil)) (blkOk_by (N := ["_law_way", "_law_thing_here", "_law_plan", "_law_kinds", "_law_levels", "_law_k"]) (sc := defScope s__law_good) (by decide +kernel)) (fun _ _ _ _ _ => by exact (pg_name (i := 5) sc__law_good.nd rfl (.inl rfl))) (fun _ _ _ _ _ => pts_nil) (fun _ _ _ _ _ => by exact (pe_cmpR (op_eqA hr) (pv 0) (pv 5) (nomark _))))) (nomark _))
    (pss_one (ps_ret pe_bl))
    pss_nil)
    (pss_cons (ps_if (PW.pt (pw_or (PW.pt (pw_and (pt_cmpR (op_eqA hr) (pv 0) pe_int (nomark _)) (pw_and1 (pt_cmpR (op_neA hr) (pe_fld (pv 2) rfl) (pv 1) (nomark _))))) (pw_or1 (PW.pt (pw_and (pt_cmpR op_ltA (pv 0) pe_int (nomark _)) (pw_and1 (pt_cmpR (op_neA hr) (pe_fld (pv 2) rfl) (pv 1) (nomark _))))))))
    (pss_one (ps_ret pe_bl))
    pss_nil)
    (pss_cons (ps_for PassesOwn.never rfl (pi_range1 (by rfl) T.n_range (pa_cons pe_int pa_nil)) (pg_name (i := 4) sc__law_good.nd rfl (.inl rfl))
    (pss_one (ps_if (pt_cmpR op_notNA (PE.or (pe_mt (c_Few_need_levels T) hr (by decide) (pv 2) (pa_cons (pv 4) pa_nil)) (PE.or (pe_mt (c_Loose_need_levels T) hr (by decide) (pv 2) (pa_cons (pv 4) pa_nil)) (pe_mt (c_Start_need_levels T) hr (by decide) (pv 2) (pa_cons (pv 4) pa_nil)))) pe_non (nomark _))
    (pss_one (ps_ret pe_bl))
    pss_nil)))
    (pss_one (ps_ret (pe_cmpR (op_eqA hr) (PE.or (pe_mt0 (c_Few_text T) hr (by decide) (pv 2)) (PE.or (pe_mt0 (c_Loose_text T) hr (by decide) (pv 2)) (pe_mt0 (c_Start_text T) hr (by decide) (pv 2)))) (pe_op op_addA (pe_ix ix_seq (pe_lst (pa_cons pe_str (pa_cons pe_str (pa_cons pe_str pa_nil)))) (pv 0) (fun _ _ => rfl)) (pe_callTy call_str1A (by rfl) T.n_str (by decide +kernel) (pa_cons (pv 1) pa_nil))) (nomark _)))))))), ?_⟩
  try simp only [cxOf_K, cxOf_K', cxOf_mg, cxOf_mg']
  unfold sp__law_good at h
  split at h
  case h_2 => exact h.elim
  rename_i w t x
  rw [show L2.start ["_law_way", "_law_thing_here", "_law_plan", "_law_kinds", "_law_levels", "_law_k"] [V.int w, V.int t, V.ref x] = [some (V.int w), some (V.int t), some (V.ref x), none, none, none] from rfl]
  obtain ⟨dx, h0, h2, hx, t0, t1, q⟩ := h
  obtain rfl | rfl | rfl : w = 0 ∨ w = 1 ∨ w = 2 := by omega
  · have hx : H x = some (.ins (cA mg "Few") dx [("many", .int t)]) := hx
    have ty : ∀ H', Same H H' → TyX K H' (.ref x) (.ref (cA mg "Few")) := fun H' s => tyx_I (s _ _ hx) T.k_Few T.ic_Few
    walk_at "sts"
    refine L_isC (ty _ (Same.refl _)) (kit_own T.e_Few_Few T.ct_Plan T.e_Few_Plan) ?_
    walk_at "sts"
    refine L_isC (ty _ (Same.refl _)) (kit_own T.e_Few_Few T.ct_Few T.e_Few_Few) ?_
    walk_at "sts"
    refine L_isC (ty _ (Same.refl _)) (kit_own T.e_Few_Few T.ct_Loose T.e_Few_Loose) ?_
    walk_at "sts"
    refine L_isC (ty _ (Same.refl _)) (kit_own T.e_Few_Few T.ct_Start T.e_Few_Start) ?_
    walk_at "sts"
    walk_at "nw"
    rename_i p1 hp1 H1 s1 e1
    walk_at "sts"
    walk_at "nw"
    rename_i p2 hp2 H2 s2 e2
    walk_at "sts"
    refine L_r1 (by omega) (by omega) ?_
    refine lc_fm walk_range (fun i => some (.bl (decide ((0 : Int) = 0 + (i : Int))))) (by omega) (fun _ _ => True.intro) ?_ ?_
    · rintro i x1 Ha Hb R R' hi sm ⟨rfl, rfl⟩ q1 q2
      walk_at "sts"
      refine ⟨rfl, ?_⟩
      walk_at "sts"
      exact q1 _ _ rfl (Same.refl _)
    intro p3 H3 hp3 s3 e3
    rw [show (List.range (3 : Int).toNat).filterMap (fun i : Nat => some (V.bl (decide ((0 : Int) = 0 + (i : Int))))) = [.bl true, .bl false, .bl false] from rfl] at e3
    refine L_addL (s3 _ _ e2) e3 (sz_dec (by decide)) ?_
    walk_at "nwp"
    rename_i p4 hp4 H4 s4 e4
    walk_at "sts"
    refine L_neR (d := .list [.bool true, .bool true, .bool false, .bool false]) (.lst (.of ((s2.trans (s3.trans s4)) _ _ e1)) (.cons (.bl _) (.cons (.bl _) (.cons (.bl _) (.cons (.bl _) .nil))))) (.lst (.of e4) (.cons (.bl _) (.cons (.bl _) (.cons (.bl _) (.cons (.bl _) .nil))))) (by decide) ?_
    have s04 : Same H H4 := s1.trans (s2.trans (s3.trans s4))
    have hx4 := s04 _ _ hx
    walk_at "sa"
    refine L_r1 (by omega) (by omega) ?_
    refine f_range (fun i σ' H' => H' = H4 ∧ ∃ v : Option V, σ' = [some (.int 0), some (.int t), some (.ref x), some (.ref p1), v, none]) ⟨rfl, _, rfl⟩ ?_ ?_
    · rintro i σ' H5 hi ⟨rfl, v, rfl⟩
      walk_at "sts"
      refine L_orl ?_
      walk_at "sts"
      refine L_methv hx4 rfl ?_
      walk_at "sts"
      exact ⟨rfl, _, rfl⟩
    · rintro σ' H5 ⟨rfl, v, rfl⟩
      walk_at "sts"
      refine L_orl ?_
      walk_at "sts"
      refine L_methv hx4 rfl ?_
      walk_at "sts"
      refine ⟨dx, t, hx4, t0, t1, ?_⟩
      walk_at "sts"
      walk_at "nw"
      rename_i p6 hp6 H6 s6 e6
      walk_at "sa"
      refine L_str1 (by omega) ?_
      refine L_addS (txt_short _ (by decide) t0 t1) ?_
      walk_at "sts"
      rw [decide_eq_true rfl]
      exact q _ (s04.trans s6)
  · have hx : H x = some (.ins (cA mg "Loose") dx [("many", .int t)]) := hx
    have ty : ∀ H', Same H H' → TyX K H' (.ref x) (.ref (cA mg "Loose")) := fun H' s => tyx_I (s _ _ hx) T.k_Loose T.ic_Loose
    walk_at "sts"
    refine L_isC (ty _ (Same.refl _)) (kit_own T.e_Loose_Loose T.ct_Plan T.e_Loose_Plan) ?_
    walk_at "sts"
    refine L_isC (ty _ (Same.refl _)) (kit_own T.e_Loose_Loose T.ct_Few T.e_Loose_Few) ?_
    walk_at "sts"
    refine L_isC (ty _ (Same.refl _)) (kit_own T.e_Loose_Loose T.ct_Loose T.e_Loose_Loose) ?_
    walk_at "sts"
    refine L_isC (ty _ (Same.refl _)) (kit_own T.e_Loose_Loose T.ct_Start T.e_Loose_Start) ?_
    walk_at "sts"
    walk_at "nw"
    rename_i p1 hp1 H1 s1 e1
    walk_at "sts"
    walk_at "nw"
    rename_i p2 hp2 H2 s2 e2
    walk_at "sts"
    refine L_r1 (by omega) (by omega) ?_
    refine lc_fm walk_range (fun i => some (.bl (decide ((1 : Int) = 0 + (i : Int))))) (by omega) (fun _ _ => True.intro) ?_ ?_
    · rintro i x1 Ha Hb R R' hi sm ⟨rfl, rfl⟩ q1 q2
      walk_at "sts"
      refine ⟨rfl, ?_⟩
      walk_at "sts"
      exact q1 _ _ rfl (Same.refl _)
    intro p3 H3 hp3 s3 e3
    rw [show (List.range (3 : Int).toNat).filterMap (fun i : Nat => some (V.bl (decide ((1 : Int) = 0 + (i : Int))))) = [.bl false, .bl true, .bl false] from rfl] at e3
    refine L_addL (s3 _ _ e2) e3 (sz_dec (by decide)) ?_
    walk_at "nwp"
    rename_i p4 hp4 H4 s4 e4
    walk_at "sts"
    refine L_neR (d := .list [.bool true, .bool false, .bool true, .bool false]) (.lst (.of ((s2.trans (s3.trans s4)) _ _ e1)) (.cons (.bl _) (.cons (.bl _) (.cons (.bl _) (.cons (.bl _) .nil))))) (.lst (.of e4) (.cons (.bl _) (.cons (.bl _) (.cons (.bl _) (.cons (.bl _) .nil))))) (by decide) ?_
    have s04 : Same H H4 := s1.trans (s2.trans (s3.trans s4))
    have hx4 := s04 _ _ hx
    walk_at "sa"
    refine L_r1 (by omega) (by omega) ?_
    refine f_range (fun i σ' H' => H' = H4 ∧ ∃ v : Option V, σ' = [some (.int 1), some (.int t), some (.ref x), some (.ref p1), v, none]) ⟨rfl, _, rfl⟩ ?_ ?_
    · rintro i σ' H5 hi ⟨rfl, v, rfl⟩
      walk_at "sts"
      refine L_orr ?_
      refine L_orl ?_
      walk_at "sts"
      refine L_methv hx4 rfl ?_
      walk_at "sts"
      exact ⟨rfl, _, rfl⟩
    · rintro σ' H5 ⟨rfl, v, rfl⟩
      walk_at "sts"
      refine L_orr ?_
      refine L_orl ?_
      walk_at "sts"
      refine L_methv hx4 rfl ?_
      walk_at "sts"
      refine ⟨dx, t, hx4, t0, t1, ?_⟩
      walk_at "sts"
      walk_at "nw"
      rename_i p6 hp6 H6 s6 e6
      walk_at "sa"
      refine L_str1 (by omega) ?_
      refine L_addS (txt_short _ (by decide) t0 t1) ?_
      walk_at "sts"
      rw [decide_eq_true rfl]
      exact q _ (s04.trans s6)
  · have hx : H x = some (.ins (cA mg "Start") dx [("step", .int t)]) := hx
    have ty : ∀ H', Same H H' → TyX K H' (.ref x) (.ref (cA mg "Start")) := fun H' s => tyx_I (s _ _ hx) T.k_Start T.ic_Start
    walk_at "sts"
    refine L_isC (ty _ (Same.refl _)) (kit_own T.e_Start_Start T.ct_Plan T.e_Start_Plan) ?_
    walk_at "sts"
    refine L_isC (ty _ (Same.refl _)) (kit_own T.e_Start_Start T.ct_Few T.e_Start_Few) ?_
    walk_at "sts"
    refine L_isC (ty _ (Same.refl _)) (kit_own T.e_Start_Start T.ct_Loose T.e_Start_Loose) ?_
    walk_at "sts"
    refine L_isC (ty _ (Same.refl _)) (kit_own T.e_Start_Start T.ct_Start T.e_Start_Start) ?_
    walk_at "sts"
    walk_at "nw"
    rename_i p1 hp1 H1 s1 e1
    walk_at "sts"
    walk_at "nw"
    rename_i p2 hp2 H2 s2 e2
    walk_at "sts"
    refine L_r1 (by omega) (by omega) ?_
    refine lc_fm walk_range (fun i => some (.bl (decide ((2 : Int) = 0 + (i : Int))))) (by omega) (fun _ _ => True.intro) ?_ ?_
    · rintro i x1 Ha Hb R R' hi sm ⟨rfl, rfl⟩ q1 q2
      walk_at "sts"
      refine ⟨rfl, ?_⟩
      walk_at "sts"
      exact q1 _ _ rfl (Same.refl _)
    intro p3 H3 hp3 s3 e3
    rw [show (List.range (3 : Int).toNat).filterMap (fun i : Nat => some (V.bl (decide ((2 : Int) = 0 + (i : Int))))) = [.bl false, .bl false, .bl true] from rfl] at e3
    refine L_addL (s3 _ _ e2) e3 (sz_dec (by decide)) ?_
    walk_at "nwp"
    rename_i p4 hp4 H4 s4 e4
    walk_at "sts"
    refine L_neR (d := .list [.bool true, .bool false, .bool false, .bool true]) (.lst (.of ((s2.trans (s3.trans s4)) _ _ e1)) (.cons (.bl _) (.cons (.bl _) (.cons (.bl _) (.cons (.bl _) .nil))))) (.lst (.of e4) (.cons (.bl _) (.cons (.bl _) (.cons (.bl _) (.cons (.bl _) .nil))))) (by decide) ?_
    have s04 : Same H H4 := s1.trans (s2.trans (s3.trans s4))
    have hx4 := s04 _ _ hx
    walk_at "sa"
    refine L_r1 (by omega) (by omega) ?_
    refine f_range (fun i σ' H' => H' = H4 ∧ ∃ v : Option V, σ' = [some (.int 2), some (.int t), some (.ref x), some (.ref p1), v, none]) ⟨rfl, _, rfl⟩ ?_ ?_
    · rintro i σ' H5 hi ⟨rfl, v, rfl⟩
      walk_at "sts"
      refine L_orr ?_
      refine L_orr ?_
      walk_at "sts"
      refine L_methv hx4 rfl ?_
      walk_at "sts"
      exact ⟨rfl, _, rfl⟩
    · rintro σ' H5 ⟨rfl, v, rfl⟩
      walk_at "sts"
      refine L_orr ?_
      refine L_orr ?_
      walk_at "sts"
      refine L_methv hx4 rfl ?_
      walk_at "sts"
      refine ⟨dx, t, hx4, t0, t1, ?_⟩
      walk_at "sts"
      walk_at "nw"
      rename_i p6 hp6 H6 s6 e6
      walk_at "sa"
      refine L_str1 (by omega) ?_
      refine L_addS (txt_short _ (by decide) t0 t1) ?_
      walk_at "sts"
      rw [decide_eq_true rfl]
      exact q _ (s04.trans s6)
def sp_law (K : PySem.W.Frag) (mg : Str → Option Value) : Sp := fun vs H Q _ => match vs with | [.ref a] => ∃ ns : List Int, SqL K H a (ns.map V.int) ∧ ns.length ≤ 63 ∧ (∀ z ∈ ns, Builtin.Int.intBits z ≤ 1048576) ∧ ∀ H', Q (.bl true) H' | _ => False
theorem q_law {H : Hp} {Q : VK} {E : XK} {a : Addr} (q : ∃ ns : List Int, SqL K H a (ns.map V.int) ∧ ns.length ≤ 63 ∧ (∀ z ∈ ns, Builtin.Int.intBits z ≤ 1048576) ∧ ∀ H', Q (.bl true) H') : sp_law K mg [.ref a] H Q E := q
local macro_rules | `(tactic| walk_at "op") => `(tactic| with_reducible refine q_law ?_)
theorem c_law (T : Txt K mg) {f : Addr} {fd : FuncData} (F : Fun K "law" "law" s_law f fd) : FnOk P w K mg base CX0 7 f fd ["_law_script"] (sp_law K mg) := by
  refine F.ok (k := 6) sc_law (by intro vs H Q E h; unfold sp_law at h; split at h <;> first | rfl | exact h.elim) fun cdv A outer s H vs Q E hr h => ?_
  refine ⟨_, (pss_cons (ps_for PassesOwn.never rfl (pi_range1 (by rfl) T.n_range (pa_cons (pe_callB (call_max2A rfl) (by rfl) T.n_max (by decide +kernel) (pa_cons pe_int (pa_cons (pe_callB (call_min2A rfl) (by rfl) T.n_min (by decide +kernel) (pa_cons (pe_callB call_lenA (by rfl) T.n_len (by decide +kernel) (pa_cons (pv 0) pa_nil)) (pa_cons pe_int pa_nil))) pa_nil))) pa_nil)) (pg_name (i := 1) sc_law.nd rfl (.inl rfl))
    (pss_cons (ps_set (i := 2) sc_law.nd rfl (.inl rfl) (pe_c (c__law_cell T) hr (by decide) (by rfl) (pa_cons (pv 0) (pa_cons (pv 1) pa_nil))))
    (pss_cons (ps_set (i := 3) sc_law.nd rfl (.inl rfl) (pe_c (c__law_thing T) hr (by decide) (by rfl) (pa_cons (pe_op op_fdivW (pv 2) pe_int) pa_nil)))
    (pss_cons (ps_set (i := 4) sc_law.nd rfl (.inl rfl) (pe_op op_mod (pv 2) pe_int))
    (pss_cons (ps_asg (pe_c (c__law_asked T) hr (by decide) (by rfl) (pa_cons (pv 4) (pa_cons (pv 3) pa_nil))) (pg_tup rfl (pgs_cons (pg_name (i := 5) sc_law.nd rfl (.inl rfl)) (pgs_cons (pg_name (i := 6) sc_law.nd rfl (.inl rfl)) pgs_nil))))
    (pss_cons (ps_set (i := 7) sc_law.nd rfl (.inl rfl) (pe_callTy call_int1A (by rfl) T.n_int (by decide +kernel) (pa_cons (pe_cmpR (op_eqA hr) (pv 4) pe_int (nomark _)) pa_nil)))
    (pss_one (ps_if (PW.pt (pw_and (pt_val (pe_c (c__law_whole T) hr (by decide) (by rfl) (pa_cons (pv 3) pa_nil))) (pw_and1 (pt_chain op_leA op_leA (pv 7) (pv 3) (pe_ix ix_seq (pe_lst (pa_cons pe_int (pa_cons pe_int pa_nil))) (pv 7) (fun _ _ => rfl))))))
    (pss_one (ps_if (PW.pt (pw_or (pt_cmpR op_notNA (pv 6) pe_non (nomark _)) (pw_or1 (pt_not (pt_val (pe_c (c__law_good T) hr (by decide) (by rfl) (pa_cons (pv 4) (pa_cons (pv 3) (pa_cons (pv 5) pa_nil)))))))))
    (pss_one (ps_ret pe_bl))
    pss_nil))
    (pss_one (ps_if (PW.pt (pw_or (pt_cmpR op_notNA (pv 5) pe_non (nomark _)) (pw_or (pt_cmpR (op_neA hr) (pv 6) pe_int (nomark _)) (pw_or1 (pt_not (pt_val (pe_c (c__law_whole T) hr (by decide) (by rfl) (pa_cons (pv 6) pa_nil))))))))
    (pss_one (ps_ret pe_bl))
    pss_nil))))))))))
    (pss_one (ps_ret pe_bl))), ?_⟩
  try simp only [cxOf_K, cxOf_K', cxOf_mg, cxOf_mg']
  unfold sp_law at h
  split at h
  case h_2 => exact h.elim
  rename_i a
  rw [show L2.start ["_law_script", "_law_k", "_law_cell_here", "_law_thing_here", "_law_way", "_law_plan", "_law_place", "_law_low"] [V.ref a] = [some (V.ref a), none, none, none, none, none, none, none] from rfl]
  obtain ⟨ns, hS, hl, hbits, q⟩ := h
  walk_at "sts"
  refine L_lenL hS ?_
  walk_at "sts"
  rw [List.length_map]
  refine L_r1 (by omega) (by omega) ?_
  refine f_range (fun i σ' H' => Same H H' ∧ ∃ v1 v2 v3 v4 v5 v6 v7 : Option V, σ' = [some (.ref a), v1, v2, v3, v4, v5, v6, v7]) ⟨Same.refl _, _, _, _, _, _, _, _, rfl⟩ ?_ ?_
  · rintro i σ' H0 hi ⟨s0, v1, v2, v3, v4, v5, v6, v7, rfl⟩
    walk_at "sts"
    refine ⟨ns, s0.seq hS, by omega, by omega, ?_⟩
    walk_at "sa"
    generalize cellAt ns (0 + (i : Int)) (7919 * (0 + (i : Int)) + 13) = c
    intro v H1 s1 hv
    walk_at "sa"
    have w0 : 0 ≤ c % 3 := Int.emod_nonneg _ (by decide)
    have w2 : c % 3 ≤ 2 := by omega
    generalize c % 3 = w at w0 w2
    refine ⟨w0, w2, ?_⟩
    by_cases hg : ∃ t, v = .int t ∧ plLo w ≤ t ∧ t ≤ plHi w
    · obtain ⟨t, rfl, t0, t1⟩ := hg
      refine .inr ⟨t, rfl, t0, t1, fun x dx H2 s2 ex p3 H3 hp3 s3 e3 => ?_⟩
      walk_at "sts"
      refine L_gTup (.of e3) rfl ?_
      obtain rfl | rfl | rfl : w = 0 ∨ w = 1 ∨ w = 2 := by omega
      · have t0 : (0 : Int) ≤ t := t0
        have t1 : t ≤ (24 : Int) := t1
        walk_at "sa"
        rw [show (if decide ((0 : Int) = 2) = true then (1 : Int) else 0) = 0 from rfl]
        refine .inl ⟨t, rfl, ?_⟩
        walk_at "sts"
        refine L_dT t0 ?_
        walk_at "sts"
        walk_at "nw"
        rename_i p4 hp4 H4 s4 e4
        walk_at "sa"
        refine L_ndF rfl ?_
        walk_at "sts"
        refine ⟨dx, w0, w2, (s3.trans s4) _ _ ex, by omega, by omega, fun H5 s5 => ?_⟩
        walk_at "sts"
        exact ⟨s0.trans (s1.trans (s2.trans (s3.trans (s4.trans s5)))), _, _, _, _, _, _, _, rfl⟩
      · have t0 : (0 : Int) ≤ t := t0
        have t1 : t ≤ (24 : Int) := t1
        walk_at "sa"
        rw [show (if decide ((1 : Int) = 2) = true then (1 : Int) else 0) = 0 from rfl]
        refine .inl ⟨t, rfl, ?_⟩
        walk_at "sts"
        refine L_dT t0 ?_
        walk_at "sts"
        walk_at "nw"
        rename_i p4 hp4 H4 s4 e4
        walk_at "sa"
        refine L_ndF rfl ?_
        walk_at "sts"
        refine ⟨dx, w0, w2, (s3.trans s4) _ _ ex, by omega, by omega, fun H5 s5 => ?_⟩
        walk_at "sts"
        exact ⟨s0.trans (s1.trans (s2.trans (s3.trans (s4.trans s5)))), _, _, _, _, _, _, _, rfl⟩
      · have t0 : (1 : Int) ≤ t := t0
        have t1 : t ≤ (100 : Int) := t1
        walk_at "sa"
        rw [show (if decide ((2 : Int) = 2) = true then (1 : Int) else 0) = 1 from rfl]
        refine .inl ⟨t, rfl, ?_⟩
        walk_at "sts"
        refine L_dT t0 ?_
        walk_at "sts"
        walk_at "nw"
        rename_i p4 hp4 H4 s4 e4
        walk_at "sa"
        refine L_ndF rfl ?_
        walk_at "sts"
        refine ⟨dx, w0, w2, (s3.trans s4) _ _ ex, by omega, by omega, fun H5 s5 => ?_⟩
        walk_at "sts"
        exact ⟨s0.trans (s1.trans (s2.trans (s3.trans (s4.trans s5)))), _, _, _, _, _, _, _, rfl⟩
    · have hb : BadW K H1 v (plLo w) (plHi w) := by
        rcases hv with ⟨t, rfl⟩ | hv
        · exact badw_int fun z => hg ⟨t, rfl, z⟩
        · exact hv.bad
      refine .inl ⟨hb, fun H2 s2 p3 H3 hp3 s3 e3 => ?_⟩
      walk_at "sts"
      refine L_gTup (.of e3) rfl ?_
      obtain rfl | rfl | rfl : w = 0 ∨ w = 1 ∨ w = 2 := by omega
      · walk_at "sa"
        rw [show (if decide ((0 : Int) = 2) = true then (1 : Int) else 0) = 0 from rfl]
        rcases hv with ⟨t, rfl⟩ | hv
        · refine .inl ⟨t, rfl, ?_⟩
          walk_at "sts"
          refine L_d (fun c1 => ?_) (fun c1 => ?_)
          · walk_at "sts"
            walk_at "nw"
            rename_i p4 hp4 H4 s4 e4
            walk_at "sa"
            refine L_dF (fun c2 => hg ⟨t, rfl, c1, c2⟩) ?_
            walk_at "sts"
            refine L_ndF rfl ?_
            walk_at "sts"
            refine L_ndF rfl ?_
            walk_at "sts"
            refine .inl ⟨0, rfl, ?_⟩
            walk_at "sts"
            exact ⟨s0.trans (s1.trans (s2.trans (s3.trans s4))), _, _, _, _, _, _, _, rfl⟩
          · walk_at "sts"
            refine L_ndF rfl ?_
            walk_at "sts"
            refine L_ndF rfl ?_
            walk_at "sts"
            refine .inl ⟨0, rfl, ?_⟩
            walk_at "sts"
            exact ⟨s0.trans (s1.trans (s2.trans s3)), _, _, _, _, _, _, _, rfl⟩
        · refine .inr ⟨hv.same (s2.trans s3), ?_⟩
          walk_at "sts"
          refine L_ndF rfl ?_
          walk_at "sts"
          refine L_ndF rfl ?_
          walk_at "sts"
          refine .inl ⟨0, rfl, ?_⟩
          walk_at "sts"
          exact ⟨s0.trans (s1.trans (s2.trans s3)), _, _, _, _, _, _, _, rfl⟩
      · walk_at "sa"
        rw [show (if decide ((1 : Int) = 2) = true then (1 : Int) else 0) = 0 from rfl]
        rcases hv with ⟨t, rfl⟩ | hv
        · refine .inl ⟨t, rfl, ?_⟩
          walk_at "sts"
          refine L_d (fun c1 => ?_) (fun c1 => ?_)
          · walk_at "sts"
            walk_at "nw"
            rename_i p4 hp4 H4 s4 e4
            walk_at "sa"
            refine L_dF (fun c2 => hg ⟨t, rfl, c1, c2⟩) ?_
            walk_at "sts"
            refine L_ndF rfl ?_
            walk_at "sts"
            refine L_ndF rfl ?_
            walk_at "sts"
            refine .inl ⟨0, rfl, ?_⟩
            walk_at "sts"
            exact ⟨s0.trans (s1.trans (s2.trans (s3.trans s4))), _, _, _, _, _, _, _, rfl⟩
          · walk_at "sts"
            refine L_ndF rfl ?_
            walk_at "sts"
            refine L_ndF rfl ?_
            walk_at "sts"
            refine .inl ⟨0, rfl, ?_⟩
            walk_at "sts"
            exact ⟨s0.trans (s1.trans (s2.trans s3)), _, _, _, _, _, _, _, rfl⟩
        · refine .inr ⟨hv.same (s2.trans s3), ?_⟩
          walk_at "sts"
          refine L_ndF rfl ?_
          walk_at "sts"
          refine L_ndF rfl ?_
          walk_at "sts"
          refine .inl ⟨0, rfl, ?_⟩
          walk_at "sts"
          exact ⟨s0.trans (s1.trans (s2.trans s3)), _, _, _, _, _, _, _, rfl⟩
      · walk_at "sa"
        rw [show (if decide ((2 : Int) = 2) = true then (1 : Int) else 0) = 1 from rfl]
        rcases hv with ⟨t, rfl⟩ | hv
        · refine .inl ⟨t, rfl, ?_⟩
          walk_at "sts"
          refine L_d (fun c1 => ?_) (fun c1 => ?_)
          · walk_at "sts"
            walk_at "nw"
            rename_i p4 hp4 H4 s4 e4
            walk_at "sa"
            refine L_dF (fun c2 => hg ⟨t, rfl, c1, c2⟩) ?_
            walk_at "sts"
            refine L_ndF rfl ?_
            walk_at "sts"
            refine L_ndF rfl ?_
            walk_at "sts"
            refine .inl ⟨0, rfl, ?_⟩
            walk_at "sts"
            exact ⟨s0.trans (s1.trans (s2.trans (s3.trans s4))), _, _, _, _, _, _, _, rfl⟩
          · walk_at "sts"
            refine L_ndF rfl ?_
            walk_at "sts"
            refine L_ndF rfl ?_
            walk_at "sts"
            refine .inl ⟨0, rfl, ?_⟩
            walk_at "sts"
            exact ⟨s0.trans (s1.trans (s2.trans s3)), _, _, _, _, _, _, _, rfl⟩
        · refine .inr ⟨hv.same (s2.trans s3), ?_⟩
          walk_at "sts"
          refine L_ndF rfl ?_
          walk_at "sts"
          refine L_ndF rfl ?_
          walk_at "sts"
          refine .inl ⟨0, rfl, ?_⟩
          walk_at "sts"
          exact ⟨s0.trans (s1.trans (s2.trans s3)), _, _, _, _, _, _, _, rfl⟩
  · rintro σ' H0 ⟨s0, v1, v2, v3, v4, v5, v6, v7, rfl⟩
    walk_at "sts"
    exact q _
end
theorem txt_mk {K : PySem.W.Frag} {h : Heap} {mg : Str → Option Value} (X : K.In h) (G : h.Ns mainGlobals mg)
    (z_n_bool : PySem.W.nsIn K mainGlobals "bool" = some none)
    (z_n_int : PySem.W.nsIn K mainGlobals "int" = some none)
    (z_n_isinstance : PySem.W.nsIn K mainGlobals "isinstance" = some none)
    (z_n_len : PySem.W.nsIn K mainGlobals "len" = some none)
    {C_SpeakError : Addr} (aC_SpeakError : PySem.W.nsIn K mainGlobals "SpeakError" = some (some (.ref C_SpeakError)))
    (bi0_SpeakError : PySem.W.readsIn K C_SpeakError (.type "type") = true) (bi1_SpeakError : PySem.W.specialIn K (.ref C_SpeakError) "__getattribute__" = some (some (.builtin "type.__getattribute__"))) (bi2_SpeakError : PySem.W.findCls K (.ref C_SpeakError) (.type "type") "__init__" = some (.val (.builtin "ValueError.__init__")))
    {C_NoPlan : Addr} (aC_NoPlan : PySem.W.nsIn K mainGlobals "NoPlan" = some (some (.ref C_NoPlan)))
    (ox_NoPlan : ∃ nm q N bs bm sn sub ab col dd k0 k1 k2 k3 k5, K.lookup C_NoPlan = some (excClassObj nm q C_NoPlan N bs bm true sn sub ab col dd k0 k1 k2 k3 k5 "ValueError.__new__") ∧ PySem.HandSPX.refsVE bm = true) (o0_NoPlan : PySem.W.findIn K (.ref C_NoPlan) "__setattr__" = some (some (.builtin "object.__setattr__"))) (o1_NoPlan : PySem.W.subIn K (.ref C_NoPlan) (.type "BaseException") = some true) (o2_NoPlan : PySem.W.typeIn K (.ref C_NoPlan) = some (.type "type")) (o3_NoPlan : PySem.W.keepIn K (.ref C_NoPlan) = true)
    (na_NoPlan_place : PySem.W.findIn K (.ref C_NoPlan) "place" = some none)
    {C_Few : Addr} (aC_Few : PySem.W.nsIn K mainGlobals "Few" = some (some (.ref C_Few)))
    (pg_Few : PySem.W.plainGet K C_Few Str.empty = true) (hd_Few : PySem.W.hasDictIn K C_Few = true) (po_Few : PySem.W.plainOver K C_Few = true) (sa_Few : PySem.W.findIn K (.ref C_Few) "__setattr__" = some (some (.builtin "object.__setattr__"))) (mk_Few : PySem.W.makesIn K C_Few = true) (kc_Few : PySem.W.keepIn K (.ref C_Few) = true)
    (na_Few_many : PySem.W.findIn K (.ref C_Few) "many" = some none)
    {u_g_MOST_DRAWN : Value} (z_g_MOST_DRAWN : PySem.W.nsIn K mainGlobals "MOST_DRAWN" = some (some u_g_MOST_DRAWN)) (y_g_MOST_DRAWN : RelV (.int 24) u_g_MOST_DRAWN)
    {C_Loose : Addr} (aC_Loose : PySem.W.nsIn K mainGlobals "Loose" = some (some (.ref C_Loose)))
    (pg_Loose : PySem.W.plainGet K C_Loose Str.empty = true) (hd_Loose : PySem.W.hasDictIn K C_Loose = true) (po_Loose : PySem.W.plainOver K C_Loose = true) (sa_Loose : PySem.W.findIn K (.ref C_Loose) "__setattr__" = some (some (.builtin "object.__setattr__"))) (mk_Loose : PySem.W.makesIn K C_Loose = true) (kc_Loose : PySem.W.keepIn K (.ref C_Loose) = true)
    (na_Loose_many : PySem.W.findIn K (.ref C_Loose) "many" = some none)
    {C_Start : Addr} (aC_Start : PySem.W.nsIn K mainGlobals "Start" = some (some (.ref C_Start)))
    (pg_Start : PySem.W.plainGet K C_Start Str.empty = true) (hd_Start : PySem.W.hasDictIn K C_Start = true) (po_Start : PySem.W.plainOver K C_Start = true) (sa_Start : PySem.W.findIn K (.ref C_Start) "__setattr__" = some (some (.builtin "object.__setattr__"))) (mk_Start : PySem.W.makesIn K C_Start = true) (kc_Start : PySem.W.keepIn K (.ref C_Start) = true)
    (na_Start_step : PySem.W.findIn K (.ref C_Start) "step" = some none)
    {u_g_MOST_STEP : Value} (z_g_MOST_STEP : PySem.W.nsIn K mainGlobals "MOST_STEP" = some (some u_g_MOST_STEP)) (y_g_MOST_STEP : RelV (.int 100) u_g_MOST_STEP)
    (z_n_str : PySem.W.nsIn K mainGlobals "str" = some none)
    (z_n_ValueError : PySem.W.nsIn K mainGlobals "ValueError" = some none)
    (yb_NoPlan : PySem.W.subIn K (.ref C_NoPlan) (.type "BaseException") = some true) (yi_NoPlan : PySem.W.isClsIn K C_NoPlan = true) (yt_NoPlan : PySem.W.typeIn K (.ref C_NoPlan) = some (.type "type"))
    (z0_NoPlan : PySem.W.findIn K (.ref C_NoPlan) "__getattribute__" = some (some (.builtin "BaseException.__getattribute__"))) (z1_NoPlan : PySem.W.findIn K (.ref C_NoPlan) "__getattr__" = some none) (z2_NoPlan : PySem.W.subIn K (.ref C_NoPlan) (.type "BaseException") = some true) (z3_NoPlan : PySem.W.hasDictIn K C_NoPlan = true) (z4_NoPlan : PySem.W.findIn K (.ref C_NoPlan) "__class__" = some (some (.builtin "object.__class__"))) (z5_NoPlan : PySem.W.specialIn K (.builtin "object.__class__") "__get__" = some (some (.builtin "getset_descriptor.__get__"))) (z6_NoPlan : PySem.W.takesIn K (.builtin "object.__class__") = some true) (z7_NoPlan : PySem.W.mroIn K C_NoPlan (.type "object") = some true)
    (z_n_range : PySem.W.nsIn K mainGlobals "range" = some none)
    {C_Plan : Addr} (aC_Plan : PySem.W.nsIn K mainGlobals "Plan" = some (some (.ref C_Plan)))
    (z_n_max : PySem.W.nsIn K mainGlobals "max" = some none)
    (z_n_min : PySem.W.nsIn K mainGlobals "min" = some none)
    (yb_SpeakError : PySem.W.subIn K (.ref C_SpeakError) (.type "BaseException") = some true) (yi_SpeakError : PySem.W.isClsIn K C_SpeakError = true) (yt_SpeakError : PySem.W.typeIn K (.ref C_SpeakError) = some (.type "type"))
    (es_NoPlan_NoPlan : PySem.W.subIn K (.ref C_NoPlan) (.ref C_NoPlan) = some true)
    (es_NoPlan_SpeakError : PySem.W.subIn K (.ref C_NoPlan) (.ref C_SpeakError) = some true)
    (et_NoPlan_ValueError : PySem.W.subIn K (.ref C_NoPlan) (.type "ValueError") = some true)
    (ic0_Few : PySem.W.findIn K (.ref C_Few) "__class__" = some (some (.builtin "object.__class__"))) (ic1_Few : PySem.W.specialIn K (.builtin "object.__class__") "__get__" = some (some (.builtin "getset_descriptor.__get__"))) (ic2_Few : PySem.W.takesIn K (.builtin "object.__class__") = some true) (ic3_Few : PySem.W.mroIn K C_Few (.type "object") = some true)
    (ic0_Start : PySem.W.findIn K (.ref C_Start) "__class__" = some (some (.builtin "object.__class__"))) (ic1_Start : PySem.W.specialIn K (.builtin "object.__class__") "__get__" = some (some (.builtin "getset_descriptor.__get__"))) (ic2_Start : PySem.W.takesIn K (.builtin "object.__class__") = some true) (ic3_Start : PySem.W.mroIn K C_Start (.type "object") = some true)
    (ic0_Loose : PySem.W.findIn K (.ref C_Loose) "__class__" = some (some (.builtin "object.__class__"))) (ic1_Loose : PySem.W.specialIn K (.builtin "object.__class__") "__get__" = some (some (.builtin "getset_descriptor.__get__"))) (ic2_Loose : PySem.W.takesIn K (.builtin "object.__class__") = some true) (ic3_Loose : PySem.W.mroIn K C_Loose (.type "object") = some true)
    (cti_Plan : PySem.W.isClsIn K C_Plan = true) (ctt_Plan : PySem.W.typeIn K (.ref C_Plan) = some (.type "type"))
    (cti_Few : PySem.W.isClsIn K C_Few = true) (ctt_Few : PySem.W.typeIn K (.ref C_Few) = some (.type "type"))
    (cti_Start : PySem.W.isClsIn K C_Start = true) (ctt_Start : PySem.W.typeIn K (.ref C_Start) = some (.type "type"))
    (cti_Loose : PySem.W.isClsIn K C_Loose = true) (ctt_Loose : PySem.W.typeIn K (.ref C_Loose) = some (.type "type"))
    (es_Few_Plan : PySem.W.subIn K (.ref C_Few) (.ref C_Plan) = some true)
    (es_Few_Few : PySem.W.subIn K (.ref C_Few) (.ref C_Few) = some true)
    (es_Few_Loose : PySem.W.subIn K (.ref C_Few) (.ref C_Loose) = some false)
    (es_Few_Start : PySem.W.subIn K (.ref C_Few) (.ref C_Start) = some false)
    (es_Loose_Plan : PySem.W.subIn K (.ref C_Loose) (.ref C_Plan) = some true)
    (es_Loose_Few : PySem.W.subIn K (.ref C_Loose) (.ref C_Few) = some false)
    (es_Loose_Loose : PySem.W.subIn K (.ref C_Loose) (.ref C_Loose) = some true)
    (es_Loose_Start : PySem.W.subIn K (.ref C_Loose) (.ref C_Start) = some false)
    (es_Start_Plan : PySem.W.subIn K (.ref C_Start) (.ref C_Plan) = some true)
    (es_Start_Few : PySem.W.subIn K (.ref C_Start) (.ref C_Few) = some false)
    (es_Start_Loose : PySem.W.subIn K (.ref C_Start) (.ref C_Loose) = some false)
    (es_Start_Start : PySem.W.subIn K (.ref C_Start) (.ref C_Start) = some true)
    {f_is_whole : Addr} {od_is_whole an_is_whole : Option Addr} {sl_is_whole : Array (Option Value)} {oc_is_whole kV_is_whole dc_is_whole pm_is_whole cd_is_whole ct_is_whole : Value}
    (a_is_whole : PySem.W.nsIn K mainGlobals "is_whole" = some (some (.ref f_is_whole))) (l_is_whole : K.lookup f_is_whole = some ⟨oc_is_whole, od_is_whole, .func (PySem.W.fnOf "is_whole" "is_whole" (defArgs s_is_whole) (defBody s_is_whole) (defScope s_is_whole) .none kV_is_whole dc_is_whole pm_is_whole an_is_whole cd_is_whole ct_is_whole), sl_is_whole⟩) (c_is_whole : PySem.W.codeIn K cd_is_whole "is_whole" = true) (k_is_whole : PySem.W.keepIn K (.ref f_is_whole) = true)
    {f__law_cell : Addr} {od__law_cell an__law_cell : Option Addr} {sl__law_cell : Array (Option Value)} {oc__law_cell kV__law_cell dc__law_cell pm__law_cell cd__law_cell ct__law_cell : Value}
    (a__law_cell : PySem.W.nsIn K mainGlobals "_law_cell" = some (some (.ref f__law_cell))) (l__law_cell : K.lookup f__law_cell = some ⟨oc__law_cell, od__law_cell, .func (PySem.W.fnOf "_law_cell" "_law_cell" (defArgs s__law_cell) (defBody s__law_cell) (defScope s__law_cell) .none kV__law_cell dc__law_cell pm__law_cell an__law_cell cd__law_cell ct__law_cell), sl__law_cell⟩) (c__law_cell : PySem.W.codeIn K cd__law_cell "_law_cell" = true) (k__law_cell : PySem.W.keepIn K (.ref f__law_cell) = true)
    {f_NoPlan___init__ : Addr} {od_NoPlan___init__ an_NoPlan___init__ : Option Addr} {sl_NoPlan___init__ : Array (Option Value)} {oc_NoPlan___init__ kV_NoPlan___init__ dc_NoPlan___init__ pm_NoPlan___init__ cd_NoPlan___init__ ct_NoPlan___init__ : Value}
    (a_NoPlan___init__ : PySem.W.findIn K (.ref C_NoPlan) "__init__" = some (some (.ref f_NoPlan___init__))) (i_NoPlan___init__ : PySem.W.isFn K (.ref f_NoPlan___init__) = true) (l_NoPlan___init__ : K.lookup f_NoPlan___init__ = some ⟨oc_NoPlan___init__, od_NoPlan___init__, .func (PySem.W.fnOf "__init__" "NoPlan.__init__" (defArgs s_NoPlan___init__) (defBody s_NoPlan___init__) (defScope s_NoPlan___init__) .none kV_NoPlan___init__ dc_NoPlan___init__ pm_NoPlan___init__ an_NoPlan___init__ cd_NoPlan___init__ ct_NoPlan___init__), sl_NoPlan___init__⟩) (c_NoPlan___init__ : PySem.W.codeIn K cd_NoPlan___init__ "NoPlan.__init__" = true) (k_NoPlan___init__ : PySem.W.keepIn K (.ref f_NoPlan___init__) = true)
    {f_Few___init__ : Addr} {od_Few___init__ an_Few___init__ : Option Addr} {sl_Few___init__ : Array (Option Value)} {oc_Few___init__ kV_Few___init__ dc_Few___init__ pm_Few___init__ cd_Few___init__ ct_Few___init__ : Value}
    (a_Few___init__ : PySem.W.findIn K (.ref C_Few) "__init__" = some (some (.ref f_Few___init__))) (i_Few___init__ : PySem.W.isFn K (.ref f_Few___init__) = true) (l_Few___init__ : K.lookup f_Few___init__ = some ⟨oc_Few___init__, od_Few___init__, .func (PySem.W.fnOf "__init__" "Few.__init__" (defArgs s_Few___init__) (defBody s_Few___init__) (defScope s_Few___init__) .none kV_Few___init__ dc_Few___init__ pm_Few___init__ an_Few___init__ cd_Few___init__ ct_Few___init__), sl_Few___init__⟩) (c_Few___init__ : PySem.W.codeIn K cd_Few___init__ "Few.__init__" = true) (k_Few___init__ : PySem.W.keepIn K (.ref f_Few___init__) = true)
    {f_Loose___init__ : Addr} {od_Loose___init__ an_Loose___init__ : Option Addr} {sl_Loose___init__ : Array (Option Value)} {oc_Loose___init__ kV_Loose___init__ dc_Loose___init__ pm_Loose___init__ cd_Loose___init__ ct_Loose___init__ : Value}
    (a_Loose___init__ : PySem.W.findIn K (.ref C_Loose) "__init__" = some (some (.ref f_Loose___init__))) (i_Loose___init__ : PySem.W.isFn K (.ref f_Loose___init__) = true) (l_Loose___init__ : K.lookup f_Loose___init__ = some ⟨oc_Loose___init__, od_Loose___init__, .func (PySem.W.fnOf "__init__" "Loose.__init__" (defArgs s_Loose___init__) (defBody s_Loose___init__) (defScope s_Loose___init__) .none kV_Loose___init__ dc_Loose___init__ pm_Loose___init__ an_Loose___init__ cd_Loose___init__ ct_Loose___init__), sl_Loose___init__⟩) (c_Loose___init__ : PySem.W.codeIn K cd_Loose___init__ "Loose.__init__" = true) (k_Loose___init__ : PySem.W.keepIn K (.ref f_Loose___init__) = true)
    {f_Start___init__ : Addr} {od_Start___init__ an_Start___init__ : Option Addr} {sl_Start___init__ : Array (Option Value)} {oc_Start___init__ kV_Start___init__ dc_Start___init__ pm_Start___init__ cd_Start___init__ ct_Start___init__ : Value}
    (a_Start___init__ : PySem.W.findIn K (.ref C_Start) "__init__" = some (some (.ref f_Start___init__))) (i_Start___init__ : PySem.W.isFn K (.ref f_Start___init__) = true) (l_Start___init__ : K.lookup f_Start___init__ = some ⟨oc_Start___init__, od_Start___init__, .func (PySem.W.fnOf "__init__" "Start.__init__" (defArgs s_Start___init__) (defBody s_Start___init__) (defScope s_Start___init__) .none kV_Start___init__ dc_Start___init__ pm_Start___init__ an_Start___init__ cd_Start___init__ ct_Start___init__), sl_Start___init__⟩) (c_Start___init__ : PySem.W.codeIn K cd_Start___init__ "Start.__init__" = true) (k_Start___init__ : PySem.W.keepIn K (.ref f_Start___init__) = true)
    {f_Few_text : Addr} {od_Few_text an_Few_text : Option Addr} {sl_Few_text : Array (Option Value)} {oc_Few_text kV_Few_text dc_Few_text pm_Few_text cd_Few_text ct_Few_text : Value}
    (a_Few_text : PySem.W.findIn K (.ref C_Few) "text" = some (some (.ref f_Few_text))) (i_Few_text : PySem.W.isFn K (.ref f_Few_text) = true) (l_Few_text : K.lookup f_Few_text = some ⟨oc_Few_text, od_Few_text, .func (PySem.W.fnOf "text" "Few.text" (defArgs s_Few_text) (defBody s_Few_text) (defScope s_Few_text) .none kV_Few_text dc_Few_text pm_Few_text an_Few_text cd_Few_text ct_Few_text), sl_Few_text⟩) (c_Few_text : PySem.W.codeIn K cd_Few_text "Few.text" = true) (k_Few_text : PySem.W.keepIn K (.ref f_Few_text) = true)
    {f_Few_need_levels : Addr} {od_Few_need_levels an_Few_need_levels : Option Addr} {sl_Few_need_levels : Array (Option Value)} {oc_Few_need_levels kV_Few_need_levels dc_Few_need_levels pm_Few_need_levels cd_Few_need_levels ct_Few_need_levels : Value}
    (a_Few_need_levels : PySem.W.findIn K (.ref C_Few) "need_levels" = some (some (.ref f_Few_need_levels))) (i_Few_need_levels : PySem.W.isFn K (.ref f_Few_need_levels) = true) (l_Few_need_levels : K.lookup f_Few_need_levels = some ⟨oc_Few_need_levels, od_Few_need_levels, .func (PySem.W.fnOf "need_levels" "Plan.need_levels" (defArgs s_Few_need_levels) (defBody s_Few_need_levels) (defScope s_Few_need_levels) .none kV_Few_need_levels dc_Few_need_levels pm_Few_need_levels an_Few_need_levels cd_Few_need_levels ct_Few_need_levels), sl_Few_need_levels⟩) (c_Few_need_levels : PySem.W.codeIn K cd_Few_need_levels "Plan.need_levels" = true) (k_Few_need_levels : PySem.W.keepIn K (.ref f_Few_need_levels) = true)
    {f_Loose_text : Addr} {od_Loose_text an_Loose_text : Option Addr} {sl_Loose_text : Array (Option Value)} {oc_Loose_text kV_Loose_text dc_Loose_text pm_Loose_text cd_Loose_text ct_Loose_text : Value}
    (a_Loose_text : PySem.W.findIn K (.ref C_Loose) "text" = some (some (.ref f_Loose_text))) (i_Loose_text : PySem.W.isFn K (.ref f_Loose_text) = true) (l_Loose_text : K.lookup f_Loose_text = some ⟨oc_Loose_text, od_Loose_text, .func (PySem.W.fnOf "text" "Loose.text" (defArgs s_Loose_text) (defBody s_Loose_text) (defScope s_Loose_text) .none kV_Loose_text dc_Loose_text pm_Loose_text an_Loose_text cd_Loose_text ct_Loose_text), sl_Loose_text⟩) (c_Loose_text : PySem.W.codeIn K cd_Loose_text "Loose.text" = true) (k_Loose_text : PySem.W.keepIn K (.ref f_Loose_text) = true)
    {f_Loose_need_levels : Addr} {od_Loose_need_levels an_Loose_need_levels : Option Addr} {sl_Loose_need_levels : Array (Option Value)} {oc_Loose_need_levels kV_Loose_need_levels dc_Loose_need_levels pm_Loose_need_levels cd_Loose_need_levels ct_Loose_need_levels : Value}
    (a_Loose_need_levels : PySem.W.findIn K (.ref C_Loose) "need_levels" = some (some (.ref f_Loose_need_levels))) (i_Loose_need_levels : PySem.W.isFn K (.ref f_Loose_need_levels) = true) (l_Loose_need_levels : K.lookup f_Loose_need_levels = some ⟨oc_Loose_need_levels, od_Loose_need_levels, .func (PySem.W.fnOf "need_levels" "Plan.need_levels" (defArgs s_Loose_need_levels) (defBody s_Loose_need_levels) (defScope s_Loose_need_levels) .none kV_Loose_need_levels dc_Loose_need_levels pm_Loose_need_levels an_Loose_need_levels cd_Loose_need_levels ct_Loose_need_levels), sl_Loose_need_levels⟩) (c_Loose_need_levels : PySem.W.codeIn K cd_Loose_need_levels "Plan.need_levels" = true) (k_Loose_need_levels : PySem.W.keepIn K (.ref f_Loose_need_levels) = true)
    {f_Start_text : Addr} {od_Start_text an_Start_text : Option Addr} {sl_Start_text : Array (Option Value)} {oc_Start_text kV_Start_text dc_Start_text pm_Start_text cd_Start_text ct_Start_text : Value}
    (a_Start_text : PySem.W.findIn K (.ref C_Start) "text" = some (some (.ref f_Start_text))) (i_Start_text : PySem.W.isFn K (.ref f_Start_text) = true) (l_Start_text : K.lookup f_Start_text = some ⟨oc_Start_text, od_Start_text, .func (PySem.W.fnOf "text" "Start.text" (defArgs s_Start_text) (defBody s_Start_text) (defScope s_Start_text) .none kV_Start_text dc_Start_text pm_Start_text an_Start_text cd_Start_text ct_Start_text), sl_Start_text⟩) (c_Start_text : PySem.W.codeIn K cd_Start_text "Start.text" = true) (k_Start_text : PySem.W.keepIn K (.ref f_Start_text) = true)
    {f_Start_need_levels : Addr} {od_Start_need_levels an_Start_need_levels : Option Addr} {sl_Start_need_levels : Array (Option Value)} {oc_Start_need_levels kV_Start_need_levels dc_Start_need_levels pm_Start_need_levels cd_Start_need_levels ct_Start_need_levels : Value}
    (a_Start_need_levels : PySem.W.findIn K (.ref C_Start) "need_levels" = some (some (.ref f_Start_need_levels))) (i_Start_need_levels : PySem.W.isFn K (.ref f_Start_need_levels) = true) (l_Start_need_levels : K.lookup f_Start_need_levels = some ⟨oc_Start_need_levels, od_Start_need_levels, .func (PySem.W.fnOf "need_levels" "Plan.need_levels" (defArgs s_Start_need_levels) (defBody s_Start_need_levels) (defScope s_Start_need_levels) .none kV_Start_need_levels dc_Start_need_levels pm_Start_need_levels an_Start_need_levels cd_Start_need_levels ct_Start_need_levels), sl_Start_need_levels⟩) (c_Start_need_levels : PySem.W.codeIn K cd_Start_need_levels "Plan.need_levels" = true) (k_Start_need_levels : PySem.W.keepIn K (.ref f_Start_need_levels) = true)
    {f__law_whole : Addr} {od__law_whole an__law_whole : Option Addr} {sl__law_whole : Array (Option Value)} {oc__law_whole kV__law_whole dc__law_whole pm__law_whole cd__law_whole ct__law_whole : Value}
    (a__law_whole : PySem.W.nsIn K mainGlobals "_law_whole" = some (some (.ref f__law_whole))) (l__law_whole : K.lookup f__law_whole = some ⟨oc__law_whole, od__law_whole, .func (PySem.W.fnOf "_law_whole" "_law_whole" (defArgs s__law_whole) (defBody s__law_whole) (defScope s__law_whole) .none kV__law_whole dc__law_whole pm__law_whole an__law_whole cd__law_whole ct__law_whole), sl__law_whole⟩) (c__law_whole : PySem.W.codeIn K cd__law_whole "_law_whole" = true) (k__law_whole : PySem.W.keepIn K (.ref f__law_whole) = true)
    {f__law_thing : Addr} {od__law_thing an__law_thing : Option Addr} {sl__law_thing : Array (Option Value)} {oc__law_thing kV__law_thing dc__law_thing pm__law_thing cd__law_thing ct__law_thing : Value}
    (a__law_thing : PySem.W.nsIn K mainGlobals "_law_thing" = some (some (.ref f__law_thing))) (l__law_thing : K.lookup f__law_thing = some ⟨oc__law_thing, od__law_thing, .func (PySem.W.fnOf "_law_thing" "_law_thing" (defArgs s__law_thing) (defBody s__law_thing) (defScope s__law_thing) .none kV__law_thing dc__law_thing pm__law_thing an__law_thing cd__law_thing ct__law_thing), sl__law_thing⟩) (c__law_thing : PySem.W.codeIn K cd__law_thing "_law_thing" = true) (k__law_thing : PySem.W.keepIn K (.ref f__law_thing) = true)
    {f__law_made : Addr} {od__law_made an__law_made : Option Addr} {sl__law_made : Array (Option Value)} {oc__law_made kV__law_made dc__law_made pm__law_made cd__law_made ct__law_made : Value}
    (a__law_made : PySem.W.nsIn K mainGlobals "_law_made" = some (some (.ref f__law_made))) (l__law_made : K.lookup f__law_made = some ⟨oc__law_made, od__law_made, .func (PySem.W.fnOf "_law_made" "_law_made" (defArgs s__law_made) (defBody s__law_made) (defScope s__law_made) .none kV__law_made dc__law_made pm__law_made an__law_made cd__law_made ct__law_made), sl__law_made⟩) (c__law_made : PySem.W.codeIn K cd__law_made "_law_made" = true) (k__law_made : PySem.W.keepIn K (.ref f__law_made) = true)
    {f__law_asked : Addr} {od__law_asked an__law_asked : Option Addr} {sl__law_asked : Array (Option Value)} {oc__law_asked kV__law_asked dc__law_asked pm__law_asked cd__law_asked ct__law_asked : Value}
    (a__law_asked : PySem.W.nsIn K mainGlobals "_law_asked" = some (some (.ref f__law_asked))) (l__law_asked : K.lookup f__law_asked = some ⟨oc__law_asked, od__law_asked, .func (PySem.W.fnOf "_law_asked" "_law_asked" (defArgs s__law_asked) (defBody s__law_asked) (defScope s__law_asked) .none kV__law_asked dc__law_asked pm__law_asked an__law_asked cd__law_asked ct__law_asked), sl__law_asked⟩) (c__law_asked : PySem.W.codeIn K cd__law_asked "_law_asked" = true) (k__law_asked : PySem.W.keepIn K (.ref f__law_asked) = true)
    {f__law_good : Addr} {od__law_good an__law_good : Option Addr} {sl__law_good : Array (Option Value)} {oc__law_good kV__law_good dc__law_good pm__law_good cd__law_good ct__law_good : Value}
    (a__law_good : PySem.W.nsIn K mainGlobals "_law_good" = some (some (.ref f__law_good))) (l__law_good : K.lookup f__law_good = some ⟨oc__law_good, od__law_good, .func (PySem.W.fnOf "_law_good" "_law_good" (defArgs s__law_good) (defBody s__law_good) (defScope s__law_good) .none kV__law_good dc__law_good pm__law_good an__law_good cd__law_good ct__law_good), sl__law_good⟩) (c__law_good : PySem.W.codeIn K cd__law_good "_law_good" = true) (k__law_good : PySem.W.keepIn K (.ref f__law_good) = true)
    {f_law : Addr} {od_law an_law : Option Addr} {sl_law : Array (Option Value)} {oc_law kV_law dc_law pm_law cd_law ct_law : Value}
    (a_law : PySem.W.nsIn K mainGlobals "law" = some (some (.ref f_law))) (l_law : K.lookup f_law = some ⟨oc_law, od_law, .func (PySem.W.fnOf "law" "law" (defArgs s_law) (defBody s_law) (defScope s_law) .none kV_law dc_law pm_law an_law cd_law ct_law), sl_law⟩) (c_law : PySem.W.codeIn K cd_law "law" = true) (k_law : PySem.W.keepIn K (.ref f_law) = true) : Txt K mg := by
  have e_SpeakError : cA mg "SpeakError" = C_SpeakError := cA_of (PySem.W.mg_of X G aC_SpeakError)
  have e_NoPlan : cA mg "NoPlan" = C_NoPlan := cA_of (PySem.W.mg_of X G aC_NoPlan)
  have e_Few : cA mg "Few" = C_Few := cA_of (PySem.W.mg_of X G aC_Few)
  have e_Loose : cA mg "Loose" = C_Loose := cA_of (PySem.W.mg_of X G aC_Loose)
  have e_Start : cA mg "Start" = C_Start := cA_of (PySem.W.mg_of X G aC_Start)
  have e_Plan : cA mg "Plan" = C_Plan := cA_of (PySem.W.mg_of X G aC_Plan)
  exact ⟨(PySem.W.mg_none_of X G z_n_bool), (PySem.W.mg_none_of X G z_n_int), (PySem.W.mg_none_of X G z_n_isinstance), (PySem.W.mg_none_of X G z_n_len), (by rw [e_SpeakError]; exact PySem.W.mg_of X G aC_SpeakError), (by rw [e_SpeakError]; exact ⟨bi0_SpeakError, bi1_SpeakError, bi2_SpeakError⟩), (by rw [e_NoPlan]; exact PySem.W.mg_of X G aC_NoPlan), (by rw [e_NoPlan]; exact ⟨ox_NoPlan, o0_NoPlan, o1_NoPlan, o2_NoPlan, o3_NoPlan⟩), (by rw [e_NoPlan]; exact na_NoPlan_place), (by rw [e_Few]; exact PySem.W.mg_of X G aC_Few), (by rw [e_Few]; exact ⟨pg_Few, hd_Few, po_Few, sa_Few⟩), (by rw [e_Few]; exact na_Few_many), (⟨_, PySem.W.mg_of X G z_g_MOST_DRAWN, y_g_MOST_DRAWN⟩), (by rw [e_Loose]; exact PySem.W.mg_of X G aC_Loose), (by rw [e_Loose]; exact ⟨pg_Loose, hd_Loose, po_Loose, sa_Loose⟩), (by rw [e_Loose]; exact na_Loose_many), (by rw [e_Start]; exact PySem.W.mg_of X G aC_Start), (by rw [e_Start]; exact ⟨pg_Start, hd_Start, po_Start, sa_Start⟩), (by rw [e_Start]; exact na_Start_step), (⟨_, PySem.W.mg_of X G z_g_MOST_STEP, y_g_MOST_STEP⟩), (PySem.W.mg_none_of X G z_n_str), (PySem.W.mg_none_of X G z_n_ValueError), (by rw [e_NoPlan]; exact ⟨yb_NoPlan, yi_NoPlan, yt_NoPlan⟩), (by rw [e_NoPlan]; exact ⟨z0_NoPlan, z1_NoPlan, z2_NoPlan, z3_NoPlan, z4_NoPlan, z5_NoPlan, z6_NoPlan, z7_NoPlan⟩), (PySem.W.mg_none_of X G z_n_range), (by rw [e_Plan]; exact PySem.W.mg_of X G aC_Plan), (PySem.W.mg_none_of X G z_n_max), (PySem.W.mg_none_of X G z_n_min), (by rw [e_SpeakError]; exact ⟨yb_SpeakError, yi_SpeakError, yt_SpeakError⟩), (by rw [e_NoPlan]; exact es_NoPlan_NoPlan), (by rw [e_NoPlan, e_SpeakError]; exact es_NoPlan_SpeakError), (by rw [e_NoPlan]; exact et_NoPlan_ValueError), (by rw [e_Few]; exact ⟨ic0_Few, ic1_Few, ic2_Few, ic3_Few⟩), (by rw [e_Start]; exact ⟨ic0_Start, ic1_Start, ic2_Start, ic3_Start⟩), (by rw [e_Loose]; exact ⟨ic0_Loose, ic1_Loose, ic2_Loose, ic3_Loose⟩), (by rw [e_Plan]; exact ⟨cti_Plan, ctt_Plan⟩), (by rw [e_Few]; exact ⟨cti_Few, ctt_Few⟩), (by rw [e_Start]; exact ⟨cti_Start, ctt_Start⟩), (by rw [e_Loose]; exact ⟨cti_Loose, ctt_Loose⟩), (by rw [e_Few, e_Plan]; exact es_Few_Plan), (by rw [e_Few]; exact es_Few_Few), (by rw [e_Few, e_Loose]; exact es_Few_Loose), (by rw [e_Few, e_Start]; exact es_Few_Start), (by rw [e_Loose, e_Plan]; exact es_Loose_Plan), (by rw [e_Loose, e_Few]; exact es_Loose_Few), (by rw [e_Loose]; exact es_Loose_Loose), (by rw [e_Loose, e_Start]; exact es_Loose_Start), (by rw [e_Start, e_Plan]; exact es_Start_Plan), (by rw [e_Start, e_Few]; exact es_Start_Few), (by rw [e_Start, e_Loose]; exact es_Start_Loose), (by rw [e_Start]; exact es_Start_Start), (⟨f_is_whole, _, fun_mk (st := s_is_whole) l_is_whole c_is_whole k_is_whole, PySem.W.mg_of X G a_is_whole, (fun_mk (st := s_is_whole) l_is_whole c_is_whole k_is_whole).binds (ps := ["thing", "low", "high"]) fun _ _ _ _ _ _ us hl => match us, hl with | [_, _, _], _ => rfl⟩), (⟨f__law_cell, _, fun_mk (st := s__law_cell) l__law_cell c__law_cell k__law_cell, PySem.W.mg_of X G a__law_cell, (fun_mk (st := s__law_cell) l__law_cell c__law_cell k__law_cell).binds (ps := ["_law_script", "_law_k"]) fun _ _ _ _ _ _ us hl => match us, hl with | [_, _], _ => rfl⟩), (by rw [e_NoPlan]; exact ⟨f_NoPlan___init__, _, fun_mk (st := s_NoPlan___init__) l_NoPlan___init__ c_NoPlan___init__ k_NoPlan___init__, a_NoPlan___init__, i_NoPlan___init__, (fun_mk (st := s_NoPlan___init__) l_NoPlan___init__ c_NoPlan___init__ k_NoPlan___init__).binds (ps := ["self", "place"]) fun _ _ _ _ _ _ us hl => match us, hl with | [_, _], _ => rfl⟩), (by rw [e_Few]; exact ⟨f_Few___init__, _, fun_mk (st := s_Few___init__) l_Few___init__ c_Few___init__ k_Few___init__, ⟨mk_Few, a_Few___init__, i_Few___init__, kc_Few⟩, (fun_mk (st := s_Few___init__) l_Few___init__ c_Few___init__ k_Few___init__).binds (ps := ["self", "many"]) fun _ _ _ _ _ _ us hl => match us, hl with | [_, _], _ => rfl⟩), (by rw [e_Loose]; exact ⟨f_Loose___init__, _, fun_mk (st := s_Loose___init__) l_Loose___init__ c_Loose___init__ k_Loose___init__, ⟨mk_Loose, a_Loose___init__, i_Loose___init__, kc_Loose⟩, (fun_mk (st := s_Loose___init__) l_Loose___init__ c_Loose___init__ k_Loose___init__).binds (ps := ["self", "many"]) fun _ _ _ _ _ _ us hl => match us, hl with | [_, _], _ => rfl⟩), (by rw [e_Start]; exact ⟨f_Start___init__, _, fun_mk (st := s_Start___init__) l_Start___init__ c_Start___init__ k_Start___init__, ⟨mk_Start, a_Start___init__, i_Start___init__, kc_Start⟩, (fun_mk (st := s_Start___init__) l_Start___init__ c_Start___init__ k_Start___init__).binds (ps := ["self", "step"]) fun _ _ _ _ _ _ us hl => match us, hl with | [_, _], _ => rfl⟩), (by rw [e_Few]; exact ⟨f_Few_text, _, fun_mk (st := s_Few_text) l_Few_text c_Few_text k_Few_text, ⟨a_Few_text, i_Few_text, k_Few_text⟩, (fun_mk (st := s_Few_text) l_Few_text c_Few_text k_Few_text).binds (ps := ["self"]) fun _ _ _ _ _ _ us hl => match us, hl with | [_], _ => rfl⟩), (by rw [e_Few]; exact ⟨f_Few_need_levels, _, fun_mk (st := s_Few_need_levels) l_Few_need_levels c_Few_need_levels k_Few_need_levels, ⟨a_Few_need_levels, i_Few_need_levels, k_Few_need_levels⟩, (fun_mk (st := s_Few_need_levels) l_Few_need_levels c_Few_need_levels k_Few_need_levels).binds (ps := ["self", "levels"]) fun _ _ _ _ _ _ us hl => match us, hl with | [_, _], _ => rfl⟩), (by rw [e_Loose]; exact ⟨f_Loose_text, _, fun_mk (st := s_Loose_text) l_Loose_text c_Loose_text k_Loose_text, ⟨a_Loose_text, i_Loose_text, k_Loose_text⟩, (fun_mk (st := s_Loose_text) l_Loose_text c_Loose_text k_Loose_text).binds (ps := ["self"]) fun _ _ _ _ _ _ us hl => match us, hl with | [_], _ => rfl⟩), (by rw [e_Loose]; exact ⟨f_Loose_need_levels, _, fun_mk (st := s_Loose_need_levels) l_Loose_need_levels c_Loose_need_levels k_Loose_need_levels, ⟨a_Loose_need_levels, i_Loose_need_levels, k_Loose_need_levels⟩, (fun_mk (st := s_Loose_need_levels) l_Loose_need_levels c_Loose_need_levels k_Loose_need_levels).binds (ps := ["self", "levels"]) fun _ _ _ _ _ _ us hl => match us, hl with | [_, _], _ => rfl⟩), (by rw [e_Start]; exact ⟨f_Start_text, _, fun_mk (st := s_Start_text) l_Start_text c_Start_text k_Start_text, ⟨a_Start_text, i_Start_text, k_Start_text⟩, (fun_mk (st := s_Start_text) l_Start_text c_Start_text k_Start_text).binds (ps := ["self"]) fun _ _ _ _ _ _ us hl => match us, hl with | [_], _ => rfl⟩), (by rw [e_Start]; exact ⟨f_Start_need_levels, _, fun_mk (st := s_Start_need_levels) l_Start_need_levels c_Start_need_levels k_Start_need_levels, ⟨a_Start_need_levels, i_Start_need_levels, k_Start_need_levels⟩, (fun_mk (st := s_Start_need_levels) l_Start_need_levels c_Start_need_levels k_Start_need_levels).binds (ps := ["self", "levels"]) fun _ _ _ _ _ _ us hl => match us, hl with | [_, _], _ => rfl⟩), (⟨f__law_whole, _, fun_mk (st := s__law_whole) l__law_whole c__law_whole k__law_whole, PySem.W.mg_of X G a__law_whole, (fun_mk (st := s__law_whole) l__law_whole c__law_whole k__law_whole).binds (ps := ["_law_found"]) fun _ _ _ _ _ _ us hl => match us, hl with | [_], _ => rfl⟩), (⟨f__law_thing, _, fun_mk (st := s__law_thing) l__law_thing c__law_thing k__law_thing, PySem.W.mg_of X G a__law_thing, (fun_mk (st := s__law_thing) l__law_thing c__law_thing k__law_thing).binds (ps := ["_law_cell_here"]) fun _ _ _ _ _ _ us hl => match us, hl with | [_], _ => rfl⟩), (⟨f__law_made, _, fun_mk (st := s__law_made) l__law_made c__law_made k__law_made, PySem.W.mg_of X G a__law_made, (fun_mk (st := s__law_made) l__law_made c__law_made k__law_made).binds (ps := ["_law_way", "_law_thing_here"]) fun _ _ _ _ _ _ us hl => match us, hl with | [_, _], _ => rfl⟩), (⟨f__law_asked, _, fun_mk (st := s__law_asked) l__law_asked c__law_asked k__law_asked, PySem.W.mg_of X G a__law_asked, (fun_mk (st := s__law_asked) l__law_asked c__law_asked k__law_asked).binds (ps := ["_law_way", "_law_thing_here"]) fun _ _ _ _ _ _ us hl => match us, hl with | [_, _], _ => rfl⟩), (⟨f__law_good, _, fun_mk (st := s__law_good) l__law_good c__law_good k__law_good, PySem.W.mg_of X G a__law_good, (fun_mk (st := s__law_good) l__law_good c__law_good k__law_good).binds (ps := ["_law_way", "_law_thing_here", "_law_plan"]) fun _ _ _ _ _ _ us hl => match us, hl with | [_, _, _], _ => rfl⟩), (⟨f_law, _, fun_mk (st := s_law) l_law c_law k_law, PySem.W.mg_of X G a_law, (fun_mk (st := s_law) l_law c_law k_law).binds (ps := ["_law_script"]) fun _ _ _ _ _ _ us hl => match us, hl with | [_], _ => rfl⟩)⟩
theorem law_mk {P : Program} {w : World} {K : PySem.W.Frag} {mg : Str → Option Value} {fa : Addr} (T : Txt K mg) (hfa : mg "law" = some (.ref fa)) :
    ∃ fd : FuncData, (∀ (s : Shared) (v : Value), BindsTo s fd ⟨[v], []⟩ [("_law_script", v)]) ∧ ∀ base : Heap, K.In base → base.Ns mainGlobals mg → FnOk P w K mg base CX0 7 fa fd ["_law_script"] (sp_law K mg) := by
  obtain ⟨f, fd, F, hm, b⟩ := T.d_law.ex
  have e := hfa.symm.trans hm
  cases e
  refine ⟨fd, fun s v => ?_, fun base _ _ => c_law T F⟩
  obtain ⟨oc, od, kV, doc, pm, an, cdv, ct, osl, rfl, lk, hcd⟩ := F.ex
  exact .of_eq rfl
end My
open PySem PySem.W PyProof.Rows
set_option maxRecDepth 100000 in
set_option maxHeartbeats 0 in
theorem PySem.Challenge.cw_fewspeak_k24_plans_refused_holds : PySem.Challenge.rw_fewspeak_k24_plans_refused.Holds := by
  w_on; o_law; k_head; (case hw => w_witness2)
  k_fill
  refine L2.walk_ofB (l := PySem.Challenge.rw_fewspeak_k24_plans_refused) (n := 63) (k := 7) (x := "_law_script") (CX := fun _ => L2.CX0) (sp := fun w => My.sp_law _ (fun _ => none)) rfl (by decide) rfl ⟨rfl, by decide, by decide⟩ (fun w h Y => PySem.W.kIn_of Y) ?F (fun _ _ a ns hl hb _ hS => ⟨ns, hS, hl, hb, fun _ => rfl⟩) (fun _ _ _ _ _ h => h)
  case F =>
    intro w mg fa h KX G hmg
    refine' My.law_mk (My.txt_mk KX G ?z_n_bool ?z_n_int ?z_n_isinstance ?z_n_len ?aC_SpeakError ?bi0_SpeakError ?bi1_SpeakError ?bi2_SpeakError ?aC_NoPlan ?ox_NoPlan ?o0_NoPlan ?o1_NoPlan ?o2_NoPlan ?o3_NoPlan ?na_NoPlan_place ?aC_Few ?pg_Few ?hd_Few ?po_Few ?sa_Few ?mk_Few ?kc_Few ?na_Few_many ?z_g_MOST_DRAWN ?y_g_MOST_DRAWN ?aC_Loose ?pg_Loose ?hd_Loose ?po_Loose ?sa_Loose ?mk_Loose ?kc_Loose ?na_Loose_many ?aC_Start ?pg_Start ?hd_Start ?po_Start ?sa_Start ?mk_Start ?kc_Start ?na_Start_step ?z_g_MOST_STEP ?y_g_MOST_STEP ?z_n_str ?z_n_ValueError ?yb_NoPlan ?yi_NoPlan ?yt_NoPlan ?z0_NoPlan ?z1_NoPlan ?z2_NoPlan ?z3_NoPlan ?z4_NoPlan ?z5_NoPlan ?z6_NoPlan ?z7_NoPlan ?z_n_range ?aC_Plan ?z_n_max ?z_n_min ?yb_SpeakError ?yi_SpeakError ?yt_SpeakError ?es_NoPlan_NoPlan ?es_NoPlan_SpeakError ?et_NoPlan_ValueError ?ic0_Few ?ic1_Few ?ic2_Few ?ic3_Few ?ic0_Start ?ic1_Start ?ic2_Start ?ic3_Start ?ic0_Loose ?ic1_Loose ?ic2_Loose ?ic3_Loose ?cti_Plan ?ctt_Plan ?cti_Few ?ctt_Few ?cti_Start ?ctt_Start ?cti_Loose ?ctt_Loose ?es_Few_Plan ?es_Few_Few ?es_Few_Loose ?es_Few_Start ?es_Loose_Plan ?es_Loose_Few ?es_Loose_Loose ?es_Loose_Start ?es_Start_Plan ?es_Start_Few ?es_Start_Loose ?es_Start_Start ?a_is_whole ?l_is_whole ?c_is_whole ?k_is_whole ?a__law_cell ?l__law_cell ?c__law_cell ?k__law_cell ?a_NoPlan___init__ ?i_NoPlan___init__ ?l_NoPlan___init__ ?c_NoPlan___init__ ?k_NoPlan___init__ ?a_Few___init__ ?i_Few___init__ ?l_Few___init__ ?c_Few___init__ ?k_Few___init__ ?a_Loose___init__ ?i_Loose___init__ ?l_Loose___init__ ?c_Loose___init__ ?k_Loose___init__ ?a_Start___init__ ?i_Start___init__ ?l_Start___init__ ?c_Start___init__ ?k_Start___init__ ?a_Few_text ?i_Few_text ?l_Few_text ?c_Few_text ?k_Few_text ?a_Few_need_levels ?i_Few_need_levels ?l_Few_need_levels ?c_Few_need_levels ?k_Few_need_levels ?a_Loose_text ?i_Loose_text ?l_Loose_text ?c_Loose_text ?k_Loose_text ?a_Loose_need_levels ?i_Loose_need_levels ?l_Loose_need_levels ?c_Loose_need_levels ?k_Loose_need_levels ?a_Start_text ?i_Start_text ?l_Start_text ?c_Start_text ?k_Start_text ?a_Start_need_levels ?i_Start_need_levels ?l_Start_need_levels ?c_Start_need_levels ?k_Start_need_levels ?a__law_whole ?l__law_whole ?c__law_whole ?k__law_whole ?a__law_thing ?l__law_thing ?c__law_thing ?k__law_thing ?a__law_made ?l__law_made ?c__law_made ?k__law_made ?a__law_asked ?l__law_asked ?c__law_asked ?k__law_asked ?a__law_good ?l__law_good ?c__law_good ?k__law_good ?a_law ?l_law ?c_law ?k_law) hmg
    (case z_n_bool => k_is)
    (case z_n_int => k_is)
    (case z_n_isinstance => k_is)
    (case z_n_len => k_is)
    (case aC_SpeakError => k_is)
    (case bi0_SpeakError => k_is)
    (case bi1_SpeakError => k_is)
    (case bi2_SpeakError => k_is)
    (case aC_NoPlan => k_is)
    (case ox_NoPlan => first | exact ⟨_, _, _, _, _, _, _, _, _, _, _, _, _, _, _, by k_is, by first | rfl | decide +kernel | k_is⟩ | exact ⟨_, _, _, _, _, _, _, _, _, _, _, _, _, _, _, rfl, by first | rfl | decide +kernel⟩)
    (case o0_NoPlan => k_is)
    (case o1_NoPlan => k_is)
    (case o2_NoPlan => k_is)
    (case o3_NoPlan => k_is)
    (case na_NoPlan_place => k_is)
    (case aC_Few => k_is)
    (case pg_Few => k_is)
    (case hd_Few => k_is)
    (case po_Few => k_is)
    (case sa_Few => k_is)
    (case mk_Few => k_is)
    (case kc_Few => k_is)
    (case na_Few_many => k_is)
    (case z_g_MOST_DRAWN => k_is)
    (case y_g_MOST_DRAWN => exact ⟨_, rfl⟩)
    (case aC_Loose => k_is)
    (case pg_Loose => k_is)
    (case hd_Loose => k_is)
    (case po_Loose => k_is)
    (case sa_Loose => k_is)
    (case mk_Loose => k_is)
    (case kc_Loose => k_is)
    (case na_Loose_many => k_is)
    (case aC_Start => k_is)
    (case pg_Start => k_is)
    (case hd_Start => k_is)
    (case po_Start => k_is)
    (case sa_Start => k_is)
    (case mk_Start => k_is)
    (case kc_Start => k_is)
    (case na_Start_step => k_is)
    (case z_g_MOST_STEP => k_is)
    (case y_g_MOST_STEP => exact ⟨_, rfl⟩)
    (case z_n_str => k_is)
    (case z_n_ValueError => k_is)
    (case yb_NoPlan => k_is)
    (case yi_NoPlan => k_is)
    (case yt_NoPlan => k_is)
    (case z0_NoPlan => k_is)
    (case z1_NoPlan => k_is)
    (case z2_NoPlan => k_is)
    (case z3_NoPlan => k_is)
    (case z4_NoPlan => k_is)
    (case z5_NoPlan => k_is)
    (case z6_NoPlan => k_is)
    (case z7_NoPlan => k_is)
    (case z_n_range => k_is)
    (case aC_Plan => k_is)
    (case z_n_max => k_is)
    (case z_n_min => k_is)
    (case yb_SpeakError => k_is)
    (case yi_SpeakError => k_is)
    (case yt_SpeakError => k_is)
    (case es_NoPlan_NoPlan => first | rfl | k_is)
    (case es_NoPlan_SpeakError => first | rfl | k_is)
    (case et_NoPlan_ValueError => first | rfl | k_is)
    (case ic0_Few => k_is)
    (case ic1_Few => k_is)
    (case ic2_Few => k_is)
    (case ic3_Few => k_is)
    (case ic0_Start => k_is)
    (case ic1_Start => k_is)
    (case ic2_Start => k_is)
    (case ic3_Start => k_is)
    (case ic0_Loose => k_is)
    (case ic1_Loose => k_is)
    (case ic2_Loose => k_is)
    (case ic3_Loose => k_is)
    (case cti_Plan => k_is)
    (case ctt_Plan => k_is)
    (case cti_Few => k_is)
    (case ctt_Few => k_is)
    (case cti_Start => k_is)
    (case ctt_Start => k_is)
    (case cti_Loose => k_is)
    (case ctt_Loose => k_is)
    (case es_Few_Plan => first | rfl | k_is)
    (case es_Few_Few => first | rfl | k_is)
    (case es_Few_Loose => first | rfl | k_is)
    (case es_Few_Start => first | rfl | k_is)
    (case es_Loose_Plan => first | rfl | k_is)
    (case es_Loose_Few => first | rfl | k_is)
    (case es_Loose_Loose => first | rfl | k_is)
    (case es_Loose_Start => first | rfl | k_is)
    (case es_Start_Plan => first | rfl | k_is)
    (case es_Start_Few => first | rfl | k_is)
    (case es_Start_Loose => first | rfl | k_is)
    (case es_Start_Start => first | rfl | k_is)
    (case a_is_whole => k_is)
    (case l_is_whole => k_is)
    (case c_is_whole => k_is)
    (case k_is_whole => k_is)
    (case a__law_cell => k_is)
    (case l__law_cell => k_is)
    (case c__law_cell => k_is)
    (case k__law_cell => k_is)
    (case a_NoPlan___init__ => k_is)
    (case i_NoPlan___init__ => k_is)
    (case l_NoPlan___init__ => k_is)
    (case c_NoPlan___init__ => k_is)
    (case k_NoPlan___init__ => k_is)
    (case a_Few___init__ => k_is)
    (case i_Few___init__ => k_is)
    (case l_Few___init__ => k_is)
    (case c_Few___init__ => k_is)
    (case k_Few___init__ => k_is)
    (case a_Loose___init__ => k_is)
    (case i_Loose___init__ => k_is)
    (case l_Loose___init__ => k_is)
    (case c_Loose___init__ => k_is)
    (case k_Loose___init__ => k_is)
    (case a_Start___init__ => k_is)
    (case i_Start___init__ => k_is)
    (case l_Start___init__ => k_is)
    (case c_Start___init__ => k_is)
    (case k_Start___init__ => k_is)
    (case a_Few_text => k_is)
    (case i_Few_text => k_is)
    (case l_Few_text => k_is)
    (case c_Few_text => k_is)
    (case k_Few_text => k_is)
    (case a_Few_need_levels => k_is)
    (case i_Few_need_levels => k_is)
    (case l_Few_need_levels => k_is)
    (case c_Few_need_levels => k_is)
    (case k_Few_need_levels => k_is)
    (case a_Loose_text => k_is)
    (case i_Loose_text => k_is)
    (case l_Loose_text => k_is)
    (case c_Loose_text => k_is)
    (case k_Loose_text => k_is)
    (case a_Loose_need_levels => k_is)
    (case i_Loose_need_levels => k_is)
    (case l_Loose_need_levels => k_is)
    (case c_Loose_need_levels => k_is)
    (case k_Loose_need_levels => k_is)
    (case a_Start_text => k_is)
    (case i_Start_text => k_is)
    (case l_Start_text => k_is)
    (case c_Start_text => k_is)
    (case k_Start_text => k_is)
    (case a_Start_need_levels => k_is)
    (case i_Start_need_levels => k_is)
    (case l_Start_need_levels => k_is)
    (case c_Start_need_levels => k_is)
    (case k_Start_need_levels => k_is)
    (case a__law_whole => k_is)
    (case l__law_whole => k_is)
    (case c__law_whole => k_is)
    (case k__law_whole => k_is)
    (case a__law_thing => k_is)
    (case l__law_thing => k_is)
    (case c__law_thing => k_is)
    (case k__law_thing => k_is)
    (case a__law_made => k_is)
    (case l__law_made => k_is)
    (case c__law_made => k_is)
    (case k__law_made => k_is)
    (case a__law_asked => k_is)
    (case l__law_asked => k_is)
    (case c__law_asked => k_is)
    (case k__law_asked => k_is)
    (case a__law_good => k_is)
    (case l__law_good => k_is)
    (case c__law_good => k_is)
    (case k__law_good => k_is)
    (case a_law => k_is)
    (case l_law => k_is)
    (case c_law => k_is)
    (case k_law => k_is)
#print axioms PySem.Challenge.cw_fewspeak_k24_plans_refused_holds

