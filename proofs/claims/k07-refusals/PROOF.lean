import PyProof.Rows.All
import Wide.All
import OpenK.AllK
import Wide.FinOn
import HandS.ForMost
import HandS.Exc
import HandS.TryOnly
import HandS.ExcOwn
import HandS.WordsExc
import HandS.Wide
import HandS.IsInst
import HandS.EndBits
import HandS.Conv
import HandS.Style
import HandS.TupAny
import HandS.Evl
import HandS.Walk
import HandS.ExcIs
import HandS.ExcInit
import HandS.ExcField
import HandS.ExcValue
import KE.KExcIs
import HandS.Text
import PySem.Challenge.RW_fewspeak_k07_refusals_apart
set_option Elab.async false
set_option linter.all false
set_option maxRecDepth 100000
set_option maxHeartbeats 4000000
namespace Kt
open PySem PySem.Spec PyProof.Rows L2
/-- a def of the top, as it stands behind the top -/
structure DefAt (K : PySem.W.Frag) (mg : Str → Option Value) (x : Str) (st : Stmt) (ps : List Str) : Prop where
  ex : ∃ (f : Addr) (fd : FuncData), Fun K x x st f fd ∧ mg x = some (.ref f) ∧ Binds K fd ps []
/-- a method of the class at C -/
structure MethAt (K : PySem.W.Frag) (C : Addr) (m qual : Str) (st : Stmt) (ps : List Str) : Prop where
  ex : ∃ (f : Addr) (fd : FuncData), Fun K m qual st f fd ∧ Meth K C m f ∧ Binds K fd ps []
structure InitAt (K : PySem.W.Frag) (C : Addr) (qual : Str) (st : Stmt) (ps : List Str) : Prop where
  ex : ∃ (f : Addr) (fd : FuncData), Fun K "__init__" qual st f fd ∧ Mk K C f ∧ Binds K fd ps []
/-- the class that a name of the module holds -/
def cA (mg : Str → Option Value) (x : Str) : Addr := match mg x with | some (.ref a) => a | _ => 0
theorem cA_of {mg : Str → Option Value} {x : Str} {a : Addr} (h : mg x = some (.ref a)) : cA mg x = a := by unfold cA; rw [h]
/-- a def that may be called by its name; a method of the class at C; a class that may be made -/
structure Cal (P : Program) (w : World) (K : PySem.W.Frag) (mg : Str → Option Value) (base : Heap) (k : Nat) (x : Str) (sp : Sp) : Prop where
  ex : ∃ (f : Addr) (fd : FuncData) (ps : List Str), FnOk P w K mg base CX0 k f fd ps sp ∧ mg x = some (.ref f) ∧ PySem.W.keepIn K (.ref f) = true ∧ Binds K fd ps []
structure Met (P : Program) (w : World) (K : PySem.W.Frag) (mg : Str → Option Value) (base : Heap) (k : Nat) (C : Addr) (m : Str) (sp : Sp) : Prop where
  ex : ∃ (f : Addr) (fd : FuncData) (ps : List Str), Cls K C ∧ Meth K C m f ∧ FnOk P w K mg base CX0 k f fd ps sp ∧ Binds K fd ps []
structure Mak (P : Program) (w : World) (K : PySem.W.Frag) (mg : Str → Option Value) (base : Heap) (k : Nat) (x : Str) (C : Addr) (sp : Sp) : Prop where
  ex : ∃ (f : Addr) (fd : FuncData) (ps : List Str), Mk K C f ∧ FnOk P w K mg base CX0 k f fd ps sp ∧ mg x = some (.ref C) ∧ Binds K fd ps []
section
variable {P : Program} {w : World} {K : PySem.W.Frag} {mg : Str → Option Value} {base : Heap}
theorem DefAt.cal {x : Str} {st : Stmt} {N ps : List Str} {k : Nat} {sp : Sp} (d : DefAt K mg x st ps) (S : FnScope N ps (defScope st)) (len : ∀ vs H Q E, sp vs H Q E → vs.length = ps.length)
    (hbody : ∀ (f : Addr) (cdv : Value) (A : Around) (outer : List Env) (s : Shared) (H : Hp) (vs : List V) (Q : VK) (E : XK), Room k (A.deeper (envOfC x (defScope st) s.heap.objs.size f cdv)) → sp vs H Q E →
      ∃ t, PSs (cxOf CX0 P w K mg base N x (defScope st) f cdv A outer s H E).nox (defBody st) t ∧ t { nx := fun _ H' => Q .non H', rt := Q } (start N vs) H) : Cal P w K mg base (k + 1) x sp := by
  obtain ⟨f, fd, F, hm, b⟩ := d.ex
  exact ⟨f, fd, ps, F.ok S len (hbody f), hm, F.kp, b⟩
theorem MethAt.met {C : Addr} {m qual : Str} {st : Stmt} {N ps : List Str} {k : Nat} {sp : Sp} (c : Cls K C) (d : MethAt K C m qual st ps) (S : FnScope N ps (defScope st)) (len : ∀ vs H Q E, sp vs H Q E → vs.length = ps.length)
    (hbody : ∀ (f : Addr) (cdv : Value) (A : Around) (outer : List Env) (s : Shared) (H : Hp) (vs : List V) (Q : VK) (E : XK), Room k (A.deeper (envOfC qual (defScope st) s.heap.objs.size f cdv)) → sp vs H Q E →
      ∃ t, PSs (cxOf CX0 P w K mg base N qual (defScope st) f cdv A outer s H E).nox (defBody st) t ∧ t { nx := fun _ H' => Q .non H', rt := Q } (start N vs) H) : Met P w K mg base (k + 1) C m sp := by
  obtain ⟨f, fd, F, hm, b⟩ := d.ex
  exact ⟨f, fd, ps, c, hm, F.ok S len (hbody f), b⟩
theorem InitAt.mak {x : Str} {C : Addr} {qual : Str} {st : Stmt} {N ps : List Str} {k : Nat} {sp : Sp} (hx : mg x = some (.ref C)) (d : InitAt K C qual st ps) (S : FnScope N ps (defScope st)) (len : ∀ vs H Q E, sp vs H Q E → vs.length = ps.length)
    (hbody : ∀ (f : Addr) (cdv : Value) (A : Around) (outer : List Env) (s : Shared) (H : Hp) (vs : List V) (Q : VK) (E : XK), Room k (A.deeper (envOfC qual (defScope st) s.heap.objs.size f cdv)) → sp vs H Q E →
      ∃ t, PSs (cxOf CX0 P w K mg base N qual (defScope st) f cdv A outer s H E).nox (defBody st) t ∧ t { nx := fun _ H' => Q .non H', rt := Q } (start N vs) H) : Mak P w K mg base (k + 1) x C sp := by
  obtain ⟨f, fd, F, hm, b⟩ := d.ex
  exact ⟨f, fd, ps, hm, F.ok S len (hbody f), hx, b⟩
/-- a def that may raise -/
structure CalX (P : Program) (w : World) (K : PySem.W.Frag) (mg : Str → Option Value) (base : Heap) (k : Nat) (x : Str) (sp : Sp) : Prop where
  ex : ∃ (f : Addr) (fd : FuncData) (ps : List Str), FnOk P w K mg base (L2.CX P w) k f fd ps sp ∧ mg x = some (.ref f) ∧ PySem.W.keepIn K (.ref f) = true ∧ Binds K fd ps []
theorem DefAt.calX {x : Str} {st : Stmt} {N ps : List Str} {k : Nat} {sp : Sp} (d : DefAt K mg x st ps) (S : FnScope N ps (defScope st)) (len : ∀ vs H Q E, sp vs H Q E → vs.length = ps.length)
    (hbody : ∀ (f : Addr) (cdv : Value) (A : Around) (outer : List Env) (s : Shared) (H : Hp) (vs : List V) (Q : VK) (E : XK), Room k (A.deeper (envOfC x (defScope st) s.heap.objs.size f cdv)) → sp vs H Q E →
      ∃ t, PSs (cxOf (L2.CX P w) P w K mg base N x (defScope st) f cdv A outer s H E) (defBody st) t ∧ t { nx := fun _ H' => Q .non H', rt := Q } (start N vs) H) : CalX P w K mg base (k + 1) x sp := by
  obtain ⟨f, fd, F, hm, b⟩ := d.ex
  exact ⟨f, fd, ps, F.okX S len (hbody f), hm, F.kp, b⟩
end
section
variable {X : Cx} {k j : Nat} {C : Addr} {x m : Str} {sp : Sp} {p pos apos : Pos} {e o : Expr} {es : List Expr} {ta : TE} {t : TA}
theorem pe_c (c : Cal X.prog X.w X.K X.mg X.base k x sp) (hr : Room j X.A) (hk : k ≤ j) (hg : Gl X x) (ha : PA X (e :: es) t)
    (hdb : (x == ("__debug__" : Str)) = false := by decide) (he : starEach (e :: es) X.env = (false, eval e X.env) :: starEach es X.env := by rfl) (hpl : (backTo pos (starEach es X.env)).any (·.1) = false := by rfl) :
    PE X (.Call (.Name x p) (e :: es) [] pos) (tCall sp [] E0 t) := by
  obtain ⟨f, fd, ps, F, hm, kp, b⟩ := c.ex
  exact pe_call F (hr.mono hk) hg hm kp b .nil pass0 ha hdb he hpl
theorem pe_c0 (c : Cal X.prog X.w X.K X.mg X.base k x sp) (hr : Room j X.A) (hk : k ≤ j) (hg : Gl X x)
    (hdb : (x == ("__debug__" : Str)) = false := by decide) :
    PE X (.Call (.Name x p) [] [] pos) (tCall sp [] E0 tNil) := by
  obtain ⟨f, fd, ps, F, hm, kp, b⟩ := c.ex
  exact pe_call0 F (hr.mono hk) hg hm kp b .nil pass0 hdb
theorem pe_mk (c : Mak X.prog X.w X.K X.mg X.base k x C sp) (hr : Room j X.A) (hk : k + 1 ≤ j) (hg : Gl X x) (ha : PA X (e :: es) t)
    (hdb : (x == ("__debug__" : Str)) = false := by decide) (he : starEach (e :: es) X.env = (false, eval e X.env) :: starEach es X.env := by rfl) (hpl : (backTo pos (starEach es X.env)).any (·.1) = false := by rfl) :
    PE X (.Call (.Name x p) (e :: es) [] pos) (tMake C sp [] E0 t) := by
  obtain ⟨f, fd, ps, M, F, hm, b⟩ := c.ex
  exact pe_make M F (hr.mono hk) hg hm b .nil pass0 ha hdb he hpl
theorem pe_mt {pl : Sem Bool} (c : Met X.prog X.w X.K X.mg X.base k C m sp) (hr : Room j X.A) (hk : k ≤ j) (he : PE X o ta) (ha : PA X (e :: es) t)
    (hst : starEach (e :: es) X.env = (false, eval e X.env) :: starEach es X.env := by rfl) (hpl : (backTo pos (starEach es X.env)).any (·.1) = false := by rfl)
    (ht : eval (.Call (.Attribute o m apos) (e :: es) [] pos) X.env = (do
      let ov ← eval o X.env
      standAt apos.atName
      let (f, first) ← holding [ov] (getMethod ov m pl)
      callWith pos f first (backTo pos (starEach (e :: es) X.env)) (backToKw pos (keywordEach [] X.env))) := by rfl) :
    PE X (.Call (.Attribute o m apos) (e :: es) [] pos) (tMeth C m sp [] E0 ta t) := by
  obtain ⟨f, fd, ps, hc, hm, F, b⟩ := c.ex
  exact pe_meth (pl := pl) he hc hm F (hr.mono hk) b .nil pass0 ha hst hpl ht
theorem pe_mt0 {pl : Sem Bool} (c : Met X.prog X.w X.K X.mg X.base k C m sp) (hr : Room j X.A) (hk : k ≤ j) (he : PE X o ta)
    (ht : eval (.Call (.Attribute o m apos) [] [] pos) X.env = (do
      let ov ← eval o X.env
      standAt apos.atName
      let (f, first) ← holding [ov] (getMethod ov m pl)
      callWith pos f first (backTo pos (starEach [] X.env)) (backToKw pos (keywordEach [] X.env))) := by rfl) :
    PE X (.Call (.Attribute o m apos) [] [] pos) (tMeth C m sp [] E0 ta tNil) := by
  obtain ⟨f, fd, ps, hc, hm, F, b⟩ := c.ex
  exact pe_meth0 (pl := pl) he hc hm F (hr.mono hk) b .nil pass0 ht
/-- a call of a def that may raise, where nothing is raised -/
theorem pe_x0 (c : CalX X.prog X.w X.K X.mg X.base k x sp) (hr : Room j X.A) (hk : k ≤ j) (hg : Gl X x) (ha : PA X (e :: es) t)
    (hdb : (x == ("__debug__" : Str)) = false := by decide) (he : starEach (e :: es) X.env = (false, eval e X.env) :: starEach es X.env := by rfl) (hpl : (backTo pos (starEach es X.env)).any (·.1) = false := by rfl) :
    PE X (.Call (.Name x p) (e :: es) [] pos) (tCall sp [] E0 t) := by
  obtain ⟨f, fd, ps, F, hm, kp, b⟩ := c.ex
  exact pe_call F (hr.mono hk) hg hm kp b .nil passL ha hdb he hpl
end
/-- a built-in class as a value -/
theorem pe_ty {X : Cx} {x : Str} {pos : Pos} (n : String) (hg : Gl X x) (hm : X.mg x = none) (hv : bootBuiltins x = some (.type n)) (hn : x ≠ "__name__" := by decide) (hdb : (x == ("__debug__" : Str)) = false := by decide) : PE X (.Name x pos) (tC (.ty n)) :=
  pe_bltn hg hm hv rfl hn hdb
/-- a constant of the module -/
theorem pe_gc {X : Cx} {x : Str} {pos : Pos} {v : V} (hg : Gl X x) (h : ∃ u, X.mg x = some u ∧ RelV v u) (hdb : (x == ("__debug__" : Str)) = false := by decide) : PE X (.Name x pos) (tC v) := by
  obtain ⟨u, h1, h2⟩ := h
  exact pe_glob hg h1 h2 hdb
/-! ### heaps -/
theorem hp_new {H : Hp} {a b : Addr} {o o' : HO} (h : H a = none) (h' : H b = some o') : upd H a o b = some o' := by
  rw [upd_ne (ne_of_none h' h)]; exact h'
theorem hp_same {H H' : Hp} {b : Addr} {o : HO} (e : Same H H') (h : H b = some o) : H' b = some o := e b o h
theorem same_upd {H H' : Hp} {a : Addr} {o : HO} (e : Same H H') (h : H' a = none) : Same H (upd H' a o) := fun b o' q => hp_new h (e b o' q)
theorem same_new {H : Hp} {a : Addr} {o : HO} (h : H a = none) : Same H (upd H a o) := fun b o' q => hp_new h q
theorem cxOf_K {CX : CXT} {P : Program} {w : World} {K : PySem.W.Frag} {mg : Str → Option Value} {base : Heap} {N : List Str} {qual : Str} {scope : Scope} {f : Addr} {cd : Value} {A : Around} {outer : List Env} {s : Shared} {H : Hp} {E : XK} : (cxOf CX P w K mg base N qual scope f cd A outer s H E).nox.K = K := rfl
theorem cxOf_K' {CX : CXT} {P : Program} {w : World} {K : PySem.W.Frag} {mg : Str → Option Value} {base : Heap} {N : List Str} {qual : Str} {scope : Scope} {f : Addr} {cd : Value} {A : Around} {outer : List Env} {s : Shared} {H : Hp} {E : XK} : (cxOf CX P w K mg base N qual scope f cd A outer s H E).K = K := rfl
theorem cxOf_mg {CX : CXT} {P : Program} {w : World} {K : PySem.W.Frag} {mg : Str → Option Value} {base : Heap} {N : List Str} {qual : Str} {scope : Scope} {f : Addr} {cd : Value} {A : Around} {outer : List Env} {s : Shared} {H : Hp} {E : XK} : (cxOf CX P w K mg base N qual scope f cd A outer s H E).nox.mg = mg := rfl
theorem cxOf_mg' {CX : CXT} {P : Program} {w : World} {K : PySem.W.Frag} {mg : Str → Option Value} {base : Heap} {N : List Str} {qual : Str} {scope : Scope} {f : Addr} {cd : Value} {A : Around} {outer : List Env} {s : Shared} {H : Hp} {E : XK} : (cxOf CX P w K mg base N qual scope f cd A outer s H E).mg = mg := rfl
/-- a new tuple, a new list: all that stood stands -/
def NewT (H : Hp) (xs : List V) (Q : VK) : Prop := ∀ p H', H p = none → Same H H' → H' p = some (.tup xs) → Q (.ref p) H'
def NewL (H : Hp) (xs : List V) (Q : VK) : Prop := ∀ p H', H p = none → Same H H' → H' p = some (.lst xs) → Q (.ref p) H'
theorem NewT.at {H : Hp} {xs : List V} {Q : VK} (q : NewT H xs Q) (p : Addr) (h : H p = none) : Q (.ref p) (upd H p (.tup xs)) := q p _ h (same_new h) upd_same
theorem NewL.at {H : Hp} {xs : List V} {Q : VK} (q : NewL H xs Q) (p : Addr) (h : H p = none) : Q (.ref p) (upd H p (.lst xs)) := q p _ h (same_new h) upd_same
theorem NewT.of {H H' : Hp} {xs : List V} {Q : VK} (q : NewT H xs Q) (e : Same H H') : NewT H' xs Q := fun p H2 h s x => q p H2 (e.free h) (e.trans s) x
theorem NewL.of {H H' : Hp} {xs : List V} {Q : VK} (q : NewL H xs Q) (e : Same H H') : NewL H' xs Q := fun p H2 h s x => q p H2 (e.free h) (e.trans s) x
/-! ### readings by name -/
section
variable {X : Cx}
def aAdd (K : PySem.W.Frag) : R2 := fun x y H Q => rI0 (fun i j => .int (i + j)) x y H Q ∨ (∃ i j, x = .str i ∧ y = .str j ∧ i.length + j.length ≤ sizeLine ∧ Q (.str (i ++ j)) H) ∨ rCat x y H Q ∨ rCatA K x y H Q
theorem op_addA : OpR X (binaryOp .Add) (aAdd X.K) := op_add.or (op_add_str.or (op_cat.or op_catA))
def aMul : R2 := fun x y H Q => rI CMulW (fun i j => .int (i * j)) x y H Q ∨ rRep x y H Q
theorem op_mulA : OpR X (binaryOp .Mult) aMul := op_mulW.or op_rep
def aEq (K : PySem.W.Frag) : R2 := fun x y H Q => rEq x y H Q ∨ rEqD K x y H Q
theorem op_eqA {k : Nat} (hr : Room k X.A) : OpR X (compareOp .Eq) (aEq X.K) := op_eq.or (op_eqD hr.units)
def aNe (K : PySem.W.Frag) : R2 := fun x y H Q => rNe x y H Q ∨ rNeD K x y H Q
theorem op_neA {k : Nat} (hr : Room k X.A) : OpR X (compareOp .NotEq) (aNe X.K) := op_ne.or (op_neD hr.units)
def aLe : R2 := fun x y H Q => rI0 (fun i j => .bl (decide (i ≤ j))) x y H Q ∨ ∃ i j, x = .str i ∧ y = .str j ∧ Q (.bl (!decide (j.cps.toList < i.cps.toList))) H
theorem op_leA : OpR X (compareOp .LtE) aLe := op_le.or op_le_str
def aLt : R2 := fun x y H Q => rI0 (fun i j => .bl (decide (i < j))) x y H Q ∨ ∃ i j, x = .str i ∧ y = .str j ∧ Q (.bl (decide (i.cps.toList < j.cps.toList))) H
theorem op_ltA : OpR X (compareOp .Lt) aLt := op_lt.or op_lt_str
def aIn (K : PySem.W.Frag) : R2 := fun x y H Q => (∃ (c : Nat) (z : Str), x = .str ⟨#[c]⟩ ∧ y = .str z ∧ Q (.bl (decide (c ∈ z.cps.toList))) H) ∨ rIn K false x y H Q
theorem op_inA : OpR X (compareOp .In) (aIn X.K) := op_in_sign.or op_in_seq
def aNotIn (K : PySem.W.Frag) : R2 := fun x y H Q => (∃ (c : Nat) (z : Str), x = .str ⟨#[c]⟩ ∧ y = .str z ∧ Q (.bl (!decide (c ∈ z.cps.toList))) H) ∨ rIn K true x y H Q
theorem op_notInA : OpR X (compareOp .NotIn) (aNotIn X.K) := op_notIn_sign.or op_notIn_seq
def aLen (K : PySem.W.Frag) : List V → Hp → VK → Prop := fun xs H Q => (∃ p ys, xs = [.ref p] ∧ (SqL K H p ys ∨ SqT K H p ys) ∧ Q (.int ys.length) H) ∨ (∃ z, xs = [.str z] ∧ z.length ≤ sizeLine ∧ Q (.int z.length) H) ∨ (∃ a kvs, xs = [V.ref a] ∧ H a = some (.dK kvs) ∧ Q (.int kvs.length) H)
theorem call_lenA : CallR X (.builtin "len") (aLen X.K) := call_len_seq.or (call_len_str.or call_lenD)
def aAbs : List V → Hp → VK → Prop := fun xs H Q => ∃ i, xs = [.int i] ∧ Q (.int (if i < 0 then -i else i)) H
theorem call_absA : CallR X (.builtin "abs") aAbs := call_abs
def aMax2 : List V → Hp → VK → Prop := fun xs H Q => ∃ i j, xs = [.int i, .int j] ∧ Q (.int (if j > i then j else i)) H
theorem call_max2A (hc : X.calm = true) : CallR X (.builtin "max") aMax2 := call_max2 hc
def aMin2 : List V → Hp → VK → Prop := fun xs H Q => ∃ i j, xs = [.int i, .int j] ∧ Q (.int (if j < i then j else i)) H
theorem call_min2A (hc : X.calm = true) : CallR X (.builtin "min") aMin2 := call_min2 hc
def aInt1 : List V → Hp → VK → Prop := fun xs H Q => (∃ i, xs = [.int i] ∧ Q (.int i) H) ∨ ∃ k, xs = [.bl k] ∧ Q (.int (if k then 1 else 0)) H
theorem call_int1A : CallR X (.type "int") aInt1 := call_int1
def aStr1 : List V → Hp → VK → Prop := fun xs H Q => ∃ i, xs = [.int i] ∧ i.natAbs.log2 < 1920 ∧ Q (.str (toString i)) H
theorem call_str1A : CallR X (.type "str") aStr1 := call_str_int
def aList1 (K : PySem.W.Frag) : List V → Hp → VK → Prop := fun xs H Q => ∃ p ys, xs = [.ref p] ∧ (SqL K H p ys ∨ SqT K H p ys) ∧ ∀ l, H l = none → Q (.ref l) (upd H l (.lst ys))
theorem call_list1A : CallR X (.type "list") (aList1 X.K) := call_list_of
def aTuple1 (K : PySem.W.Frag) : List V → Hp → VK → Prop := fun xs H Q => ∃ p ys, xs = [.ref p] ∧ ((SqL K H p ys ∧ ∀ l, H l = none → Q (.ref l) (upd H l (.tup ys))) ∨ (SqT K H p ys ∧ Q (.ref p) H))
theorem call_tuple1A : CallR X (.type "tuple") (aTuple1 X.K) := call_tuple_of
def aTru (K : PySem.W.Frag) (ta : TE) : TT := fun σ H Q => ta σ H fun x H' => ∃ k, TruV K x H' k ∧ Q k H'
theorem pt_tru {a : Expr} {ta : TE} (ha : PE X a ta) (he : ∀ whole, isTrue a X.env whole = (do let v ← whole; standAt a.pos; holding [v] (truthy v))) : PT X a (aTru X.K ta) := pt_truth ha he
def aIsN : R2 := fun x y H Q => y = .non ∧ Q (.bl (decide (x = .non))) H
theorem op_isNA : OpR X (compareOp .Is) aIsN := op_isN
def aNotN : R2 := fun x y H Q => y = .non ∧ Q (.bl (!decide (x = .non))) H
theorem op_notNA : OpR X (compareOp .IsNot) aNotN := op_notN
end
/-! ### one step of a reading -/
section
variable {K : PySem.W.Frag} {σ : L2.St} {H : Hp} {N B C : L2.St → Hp → Prop} {R : VK} {t u : TS} {c d : TT} {ta tb te tc : TE} {tr : TA} {Q : VK} {g : TG} {i j : Nat} {v x y : V} {r r' : R2}
theorem L_seq (h : t ⟨u ⟨N, R, B, C⟩, R, B, C⟩ σ H) : tSeq t u ⟨N, R, B, C⟩ σ H := h
theorem L_next (h : N σ H) : tNext ⟨N, R, B, C⟩ σ H := h
theorem L_brk (h : B σ H) : tBreak ⟨N, R, B, C⟩ σ H := h
theorem L_cont (h : C σ H) : tCont ⟨N, R, B, C⟩ σ H := h
theorem L_ret (h : te σ H R) : tRet te ⟨N, R, B, C⟩ σ H := h
theorem L_retN (h : R .non H) : tRetN ⟨N, R, B, C⟩ σ H := h
theorem L_drop (h : te σ H fun _ H1 => N σ H1) : tDrop te ⟨N, R, B, C⟩ σ H := h
theorem L_asg (h : te σ H fun x H1 => g x σ H1 N) : tAsg te g ⟨N, R, B, C⟩ σ H := h
theorem L_gname {Q : L2.St → Hp → Prop} (h : Q (σ.set i (some v)) H) : gName i v σ H Q := h
theorem L_aug {ti : TIp} (hx : σ[i]? = some (some x)) (h : te σ H fun y H1 => ti x y H1 fun z H2 => N (σ.set i (some z)) H2) : tAug i te ti ⟨N, R, B, C⟩ σ H := ⟨x, hx, h⟩
theorem L_ipI {f : Int → Int → Int} {a b : Int} (h : Q (.int (f a b)) H) : ipI f (.int a) (.int b) H Q := ⟨a, b, rfl, rfl, h⟩
theorem L_ifS (h : c σ H fun b H1 => if b = true then t ⟨N, R, B, C⟩ σ H1 else u ⟨N, R, B, C⟩ σ H1) : tIfS c t u ⟨N, R, B, C⟩ σ H := h
theorem L_par (h : tr σ H fun vs H1 => ∃ v w, vs = [v, w] ∧ N ((σ.set i (some v)).set j (some w)) H1) : tPar i j tr ⟨N, R, B, C⟩ σ H := h
theorem L_par3 {l : Nat} (h : tr σ H fun vs H1 => ∃ u v w, vs = [u, v, w] ∧ N (((σ.set i (some u)).set j (some v)).set l (some w)) H1) : tPar3 i j l tr ⟨N, R, B, C⟩ σ H := h
theorem L_vs2 {Q : V → V → Prop} (h : Q x y) : ∃ v w, [x, y] = [v, w] ∧ Q v w := ⟨x, y, rfl, h⟩
theorem L_vs3 {z : V} {Q : V → V → V → Prop} (h : Q x y z) : ∃ u v w, [x, y, z] = [u, v, w] ∧ Q u v w := ⟨x, y, z, rfl, h⟩
theorem L_var (h : σ[i]? = some (some v)) (q : Q v H) : tVar i σ H Q := ⟨v, h, q⟩
theorem L_c (q : Q v H) : tC v σ H Q := q
theorem L_op (h : ta σ H fun x H1 => tb σ H1 fun y H2 => r x y H2 Q) : tOp r ta tb σ H Q := h
theorem L_un {r : V → Hp → VK → Prop} (h : ta σ H fun x H1 => r x H1 Q) : tUn r ta σ H Q := h
theorem L_rU {g : Int → V} {i : Int} (q : Q (g i) H) : rU g (.int i) H Q := ⟨i, rfl, q⟩
theorem L_I0 {g : Int → Int → V} {i j : Int} (q : Q (g i j) H) : rI0 g (.int i) (.int j) H Q := ⟨i, j, rfl, rfl, q⟩
theorem L_I {C : Int → Int → Prop} {g : Int → Int → V} {i j : Int} (hc : C i j) (q : Q (g i j) H) : rI C g (.int i) (.int j) H Q := ⟨i, j, rfl, rfl, hc, q⟩
theorem L_addI {i j : Int} (q : Q (.int (i + j)) H) : aAdd K (.int i) (.int j) H Q := .inl ⟨i, j, rfl, rfl, q⟩
theorem L_addS {a b : Str} (hl : a.length + b.length ≤ sizeLine) (q : Q (.str (a ++ b)) H) : aAdd K (.str a) (.str b) H Q := .inr (.inl ⟨a, b, rfl, rfl, hl, q⟩)
theorem L_addL {a b : Addr} {xs ys : List V} (ha : H a = some (.lst xs)) (hb : H b = some (.lst ys)) (hl : xs.length + ys.length ≤ sizeLine) (q : ∀ p, H p = none → Q (.ref p) (upd H p (.lst (xs ++ ys)))) : aAdd K (.ref a) (.ref b) H Q := .inr (.inr (.inl ⟨a, b, xs, ys, rfl, rfl, ha, hb, hl, q⟩))
theorem L_mulI {i j : Int} (hc : CMulW i j) (q : Q (.int (i * j)) H) : aMul (.int i) (.int j) H Q := .inl ⟨i, j, rfl, rfl, hc, q⟩
theorem L_eqI {i j : Int} (q : Q (.bl (decide (i = j))) H) : aEq K (.int i) (.int j) H Q := .inl ⟨rfl, by rw [show decide (V.int i = V.int j) = decide (i = j) by simp]; exact q⟩
theorem L_eqS {i j : Str} (q : Q (.bl (decide (i = j))) H) : aEq K (.str i) (.str j) H Q := .inl ⟨rfl, by rw [show decide (V.str i = V.str j) = decide (i = j) by simp]; exact q⟩
theorem L_eqB {i j : Bool} (q : Q (.bl (decide (i = j))) H) : aEq K (.bl i) (.bl j) H Q := .inl ⟨rfl, by rw [show decide (V.bl i = V.bl j) = decide (i = j) by simp]; exact q⟩
theorem L_neI {i j : Int} (q : Q (.bl (!decide (i = j))) H) : aNe K (.int i) (.int j) H Q := .inl ⟨rfl, by rw [show decide (V.int i = V.int j) = decide (i = j) by simp]; exact q⟩
theorem L_neS {i j : Str} (q : Q (.bl (!decide (i = j))) H) : aNe K (.str i) (.str j) H Q := .inl ⟨rfl, by rw [show decide (V.str i = V.str j) = decide (i = j) by simp]; exact q⟩
theorem L_eqD {d e : PyData} (hx : Dp K H x d) (hy : Dp K H y e) (sd : SeqAt.shaped d = true) (se : SeqAt.shaped e = true) (q : Q (.bl (PyData.eqv d e)) H) : aEq K x y H Q := .inr ⟨d, e, hx, hy, sd, se, q⟩
theorem L_neD {d e : PyData} (hx : Dp K H x d) (hy : Dp K H y e) (sd : SeqAt.shaped d = true) (se : SeqAt.shaped e = true) (q : Q (.bl (!PyData.eqv d e)) H) : aNe K x y H Q := .inr ⟨d, e, hx, hy, sd, se, q⟩
theorem L_leI {i j : Int} (q : Q (.bl (decide (i ≤ j))) H) : aLe (.int i) (.int j) H Q := .inl ⟨i, j, rfl, rfl, q⟩
theorem L_leS {i j : Str} (q : Q (.bl (!decide (j.cps.toList < i.cps.toList))) H) : aLe (.str i) (.str j) H Q := .inr ⟨i, j, rfl, rfl, q⟩
theorem L_ltI {i j : Int} (q : Q (.bl (decide (i < j))) H) : aLt (.int i) (.int j) H Q := .inl ⟨i, j, rfl, rfl, q⟩
theorem L_isN (q : Q (.bl (decide (x = .non))) H) : aIsN x .non H Q := ⟨rfl, q⟩
theorem L_notN (q : Q (.bl (!decide (x = .non))) H) : aNotN x .non H Q := ⟨rfl, q⟩
theorem L_inC {a : Nat} {z : Str} (q : Q (.bl (decide (a ∈ z.cps.toList))) H) : aIn K (.str ⟨#[a]⟩) (.str z) H Q := .inl ⟨a, z, rfl, rfl, q⟩
theorem L_notInC {a : Nat} {z : Str} (q : Q (.bl (!decide (a ∈ z.cps.toList))) H) : aNotIn K (.str ⟨#[a]⟩) (.str z) H Q := .inl ⟨a, z, rfl, rfl, q⟩
theorem L_fld {f : Str} (h : ta σ H fun x H1 => ∃ a C dx fs v, x = .ref a ∧ H1 a = some (.ins C dx fs) ∧ Cls K C ∧ NoAttr K C f ∧ fs.lookup f = some v ∧ Q v H1) : tFld K ta f σ H Q := h
theorem L_fldv {a C dx : Addr} {fs : List (Str × V)} {f : Str} {Q : V → Prop} (h : H a = some (.ins C dx fs)) (cl : Cls K C) (n : NoAttr K C f) (l : fs.lookup f = some v) (q : Q v) :
    ∃ a' C dx fs v, V.ref a = V.ref a' ∧ H a' = some (.ins C dx fs) ∧ Cls K C ∧ NoAttr K C f ∧ fs.lookup f = some v ∧ Q v := ⟨a, C, dx, fs, v, rfl, h, cl, n, l, q⟩
theorem L_tTest {Q : Bool → Hp → Prop} (h : te σ H fun x H' => ∃ k, x = .bl k ∧ Q k H') : tTest te σ H Q := h
theorem L_tB {Q : Bool → Hp → Prop} (h : te σ H fun x H' => ∃ k, x = .bl k ∧ Q k H') : tB te σ H Q := h
theorem L_k {b : Bool} {Q : Bool → Prop} (q : Q b) : ∃ k, V.bl b = V.bl k ∧ Q k := ⟨b, rfl, q⟩
theorem L_tru {Q : Bool → Hp → Prop} (h : te σ H fun x H' => ∃ k, TruV K x H' k ∧ Q k H') : aTru K te σ H Q := h
theorem L_truB {b : Bool} {Q : Bool → Prop} (q : Q b) : ∃ k, TruV K (.bl b) H k ∧ Q k := ⟨b, rfl, q⟩
theorem L_truI {i : Int} {Q : Bool → Prop} (q : Q (i != 0)) : ∃ k, TruV K (.int i) H k ∧ Q k := ⟨_, rfl, q⟩
theorem L_and {Q : Bool → Hp → Prop} (h : c σ H fun b H1 => if b = true then d σ H1 Q else Q false H1) : tAnd c d σ H Q := h
theorem L_or {Q : Bool → Hp → Prop} (h : c σ H fun b H1 => if b = true then Q true H1 else d σ H1 Q) : tOr c d σ H Q := h
theorem L_not {Q : Bool → Hp → Prop} (h : c σ H fun b H1 => Q (!b) H1) : tNot c σ H Q := h
theorem L_andV (h : ta σ H fun x H1 => ∃ c, x = .bl c ∧ if c = true then tb σ H1 Q else Q (.bl false) H1) : tAndV ta tb σ H Q := h
theorem L_orV (h : ta σ H fun x H1 => ∃ c, x = .bl c ∧ if c = true then Q (.bl true) H1 else tb σ H1 Q) : tOrV ta tb σ H Q := h
theorem L_notV (h : ta σ H fun x H1 => ∃ c, x = .bl c ∧ Q (.bl (!c)) H1) : tNotV ta σ H Q := h
theorem L_ifE (h : c σ H fun b H1 => if b = true then ta σ H1 Q else tb σ H1 Q) : tIf c ta tb σ H Q := h
theorem L_chain (h : ta σ H fun x H1 => tb σ H1 fun y H2 => r x y H2 fun z H3 => ∃ k, z = .bl k ∧ (if k = true then tc σ H3 fun w' H4 => r' y w' H4 Q else Q (.bl false) H3)) : tChain r r' ta tb tc σ H Q := h
theorem L_T {A B : Prop} (a : A) : if true = true then A else B := by rw [if_pos rfl]; exact a
theorem L_F {A B : Prop} (b : B) : if false = true then A else B := by rw [if_neg Bool.false_ne_true]; exact b
theorem L_dT {p : Prop} [Decidable p] {A B : Prop} (h : p) (a : A) : if decide p = true then A else B := by rw [decide_eq_true h]; exact L_T a
theorem L_dF {p : Prop} [Decidable p] {A B : Prop} (h : ¬ p) (b : B) : if decide p = true then A else B := by rw [decide_eq_false h]; exact L_F b
theorem L_d {p : Prop} [Decidable p] {A B : Prop} (a : p → A) (b : ¬ p → B) : if decide p = true then A else B := by
  by_cases h : p
  · exact L_dT h (a h)
  · exact L_dF h (b h)
theorem L_nd {p : Prop} [Decidable p] {A B : Prop} (a : ¬ p → A) (b : p → B) : if (!decide p) = true then A else B := by
  by_cases h : p
  · rw [decide_eq_true h]; exact L_F (b h)
  · rw [decide_eq_false h]; exact L_T (a h)
theorem L_ndT {p : Prop} [Decidable p] {A B : Prop} (h : ¬ p) (a : A) : if (!decide p) = true then A else B := by rw [decide_eq_false h]; exact L_T a
theorem L_ndF {p : Prop} [Decidable p] {A B : Prop} (h : p) (b : B) : if (!decide p) = true then A else B := by rw [decide_eq_true h]; exact L_F b
theorem L_b {k : Bool} {A B : Prop} (a : k = true → A) (b : k = false → B) : if k = true then A else B := by
  cases k with
  | true => exact L_T (a rfl)
  | false => exact L_F (b rfl)
theorem L_nT {A B : Prop} (b : B) : if (!true) = true then A else B := L_F b
theorem L_nF {A B : Prop} (a : A) : if (!false) = true then A else B := L_T a
theorem L_nil {Q : List V → Hp → Prop} (q : Q [] H) : tNil σ H Q := q
theorem L_cons {Q : List V → Hp → Prop} (h : ta σ H fun x H1 => tr σ H1 fun xs H2 => Q (x :: xs) H2) : tCons ta tr σ H Q := h
theorem L_tup (h : tr σ H fun xs H1 => xs.length ≤ sizeLine ∧ ∀ p, H1 p = none → Q (.ref p) (upd H1 p (.tup xs))) : tTup tr σ H Q := h
theorem L_lst (h : tr σ H fun xs H1 => xs.length ≤ sizeLine ∧ ∀ p, H1 p = none → Q (.ref p) (upd H1 p (.lst xs))) : tLst tr σ H Q := h
theorem L_new {n : Nat} {R : Prop} (hl : n ≤ sizeLine) (q : R) : n ≤ sizeLine ∧ R := ⟨hl, q⟩
theorem L_call {sp : Sp} {E : XK} (h : tr σ H fun vs H1 => sp vs H1 Q E) : tCall sp [] E tr σ H Q := by
  unfold tCall
  simp only [List.append_nil]
  exact h
theorem L_cb {r : List V → Hp → VK → Prop} (h : tr σ H fun vs H1 => r vs H1 Q) : tCB r tr σ H Q := h
theorem L_lenL {a : Addr} {xs : List V} (h : SqL K H a xs) (q : Q (.int xs.length) H) : aLen K [.ref a] H Q := .inl ⟨a, xs, rfl, .inl h, q⟩
theorem L_lenT {a : Addr} {xs : List V} (h : SqT K H a xs) (q : Q (.int xs.length) H) : aLen K [.ref a] H Q := .inl ⟨a, xs, rfl, .inr h, q⟩
theorem L_lenS {z : Str} (h : z.length ≤ sizeLine) (q : Q (.int z.length) H) : aLen K [.str z] H Q := .inr (.inl ⟨z, rfl, h, q⟩)
theorem L_abs {i : Int} (q : Q (.int (if i < 0 then -i else i)) H) : aAbs [.int i] H Q := ⟨i, rfl, q⟩
theorem L_max2 {i j : Int} (q : Q (.int (max i j)) H) : aMax2 [.int i, .int j] H Q := ⟨i, j, rfl, by rw [show (if j > i then j else i) = max i j by omega]; exact q⟩
theorem L_min2 {i j : Int} (q : Q (.int (min i j)) H) : aMin2 [.int i, .int j] H Q := ⟨i, j, rfl, by rw [show (if j < i then j else i) = min i j by omega]; exact q⟩
theorem L_int1 {i : Int} (q : Q (.int i) H) : aInt1 [.int i] H Q := .inl ⟨i, rfl, q⟩
theorem L_int1B {k : Bool} (q : Q (.int (if k then 1 else 0)) H) : aInt1 [.bl k] H Q := .inr ⟨k, rfl, q⟩
theorem L_isi {a n : String} {b : Bool} (hx : TyX K H x (.type a)) (hk : kitB a n = some b) (q : Q (.bl b) H) : rIsi K [x, .ty n] H Q := ⟨x, .ty n, .type a, .type n, b, rfl, .ty n, hx, kit_ty hk, q⟩
theorem L_ixL {p : Addr} {xs : List V} {i : Int} (h : SqL K H p xs) (ha : atI xs i = some v) (q : Q v H) : rIx K (.ref p) (.int i) H Q := .inl ⟨p, xs, i, v, rfl, rfl, h, ha, q⟩
theorem L_ixT {p : Addr} {xs : List V} {i : Int} (h : SqT K H p xs) (ha : atI xs i = some v) (q : Q v H) : rIx K (.ref p) (.int i) H Q := .inr (.inl ⟨p, xs, i, v, rfl, rfl, h, ha, q⟩)
theorem L_ixS {z : Str} {i : Int} {a : Nat} (h : z.length ≤ sizeLine) (ha : atI z.cps.toList i = some a) (q : Q (.str ⟨#[a]⟩) H) : rIx K (.str z) (.int i) H Q := .inr (.inr ⟨z, i, a, rfl, rfl, h, ha, q⟩)
theorem L_bm {T : String} {r : V → List V → Hp → VK → Prop} (h : te σ H fun x H1 => tyV K T x H1 ∧ tr σ H1 fun xs H2 => r x xs H2 Q) : tBM K T r te tr σ H Q := h
theorem L_tyL {a : Addr} {xs : List V} {R : Prop} (h : SqL K H a xs) (q : R) : tyV K "list" (.ref a) H ∧ R := ⟨.inl ⟨rfl, xs, h⟩, q⟩
theorem L_app {a : Addr} {xs : List V} (h : H a = some (.lst xs)) (hl : xs.length < sizeLine) (q : Q .non (upd H a (.lst (xs ++ [v])))) : rAppend (.ref a) [v] H Q := ⟨a, xs, v, rfl, rfl, h, hl, q⟩
theorem L_sum {a : Addr} {ns : List Int} (h : SqL K H a (ns.map V.int)) (q : Q (.int ns.sum) H) : rSum K [.ref a] H Q := ⟨a, ns, rfl, h, q⟩
theorem L_while (W : Nat → L2.St → Hp → Prop) (h0 : ∃ m, W m σ H) (hs : ∀ m σ H, W m σ H → c σ H fun b H1 => if b = true then ∃ M : L2.St → Hp → Prop, (∀ σ' H', M σ' H' → ∃ m', m' < m ∧ W m' σ' H') ∧ t ⟨M, R, N, M⟩ σ H1 else N σ H1) : tWhile c t ⟨N, R, B, C⟩ σ H := ⟨W, h0, hs⟩
theorem L_N {W : Nat → L2.St → Hp → Prop} {m : Nat} (h : t ⟨fun σ' H' => ∃ m', m' < m ∧ W m' σ' H', R, N, fun σ' H' => ∃ m', m' < m ∧ W m' σ' H'⟩ σ H) :
    ∃ M : L2.St → Hp → Prop, (∀ σ' H', M σ' H' → ∃ m', m' < m ∧ W m' σ' H') ∧ t ⟨M, R, N, M⟩ σ H := ⟨_, fun _ _ h => h, h⟩
theorem L_cut {Mid : L2.St → Hp → Prop} (h : t ⟨Mid, R, B, C⟩ σ H) (k : ∀ σ' H', Mid σ' H' → u ⟨N, R, B, C⟩ σ' H') : Evl.tCut t u ⟨N, R, B, C⟩ σ H := ⟨Mid, h, k⟩
theorem L_for {wi : TI} (h : wi σ H fun J H1 => ∃ W : Nat → Nat → L2.St → Hp → Prop, (∃ m, W 0 m σ H1) ∧ ∀ i m σ H, W i m σ H →
      (J.stop i H ∧ N σ H) ∨ (J.go i H ∧ ∃ M : L2.St → Hp → Prop, (∀ σ' H', M σ' H' → ∃ m', m' < m ∧ W (i + 1) m' σ' H') ∧ ∀ x H', J.yld i H x H' → g x σ H' fun σ2 H2 => t ⟨M, R, N, M⟩ σ2 H2)) : tFor wi g t ⟨N, R, B, C⟩ σ H := h
theorem L_iRng1 {R : It → Hp → Prop} (h : tr σ H fun vs H1 => ∃ j : Int, vs = [.int j] ∧ -(2 ^ 62) ≤ j ∧ j < 2 ^ 62 ∧ R (Itr 0 j.toNat) H1) : iRng1 tr σ H R := h
theorem L_iRng2 {R : It → Hp → Prop} (h : tr σ H fun vs H1 => ∃ i j : Int, vs = [.int i, .int j] ∧ (-(2 ^ 62) ≤ i ∧ i < 2 ^ 62 ∧ -(2 ^ 62) ≤ j ∧ j < 2 ^ 62) ∧ R (Itr i (j - i).toNat) H1) : iRng2 tr σ H R := h
theorem L_iList {R : It → Hp → Prop} (h : te σ H fun x H1 => ∃ a, x = .ref a ∧ (∃ xs, SqL K H1 a xs) ∧ R (Itl K a) H1) : iList K te σ H R := h
theorem L_iTup {R : It → Hp → Prop} (h : te σ H fun x H1 => ∃ a, x = .ref a ∧ (∃ xs, SqT K H1 a xs) ∧ R (Itt K a) H1) : iTup K te σ H R := h
theorem L_r1 {n : Int} {R : Int → Prop} (h1 : -(2 ^ 62) ≤ n) (h2 : n < 2 ^ 62) (q : R n) : ∃ j : Int, [V.int n] = [V.int j] ∧ -(2 ^ 62) ≤ j ∧ j < 2 ^ 62 ∧ R j := ⟨n, rfl, h1, h2, q⟩
theorem L_r2 {a n : Int} {R : Int → Int → Prop} (h : -(2 ^ 62) ≤ a ∧ a < 2 ^ 62 ∧ -(2 ^ 62) ≤ n ∧ n < 2 ^ 62) (q : R a n) : ∃ i j : Int, [V.int a, V.int n] = [V.int i, V.int j] ∧ (-(2 ^ 62) ≤ i ∧ i < 2 ^ 62 ∧ -(2 ^ 62) ≤ j ∧ j < 2 ^ 62) ∧ R i j := ⟨a, n, rfl, h, q⟩
theorem L_rl {a : Addr} {xs : List V} {R : Addr → Prop} (h : SqL K H a xs) (q : R a) : ∃ b, V.ref a = V.ref b ∧ (∃ xs, SqL K H b xs) ∧ R b := ⟨a, rfl, ⟨xs, h⟩, q⟩
theorem L_rt {a : Addr} {xs : List V} {R : Addr → Prop} (h : SqT K H a xs) (q : R a) : ∃ b, V.ref a = V.ref b ∧ (∃ xs, SqT K H b xs) ∧ R b := ⟨a, rfl, ⟨xs, h⟩, q⟩
end
theorem sz_dec {n : Nat} (h : n ≤ 1000000) : n ≤ sizeLine := Nat.le_trans h (by decide)
theorem sz_lt {n : Nat} (h : n < 1000000) : n < sizeLine := Nat.lt_of_lt_of_le h (by decide)
/-! ### sizes of ints -/
/-- less than n bits -/
def Bd (n : Nat) (i : Int) : Prop := i.natAbs < 2 ^ n
theorem Bd.mono {n m : Nat} {i : Int} (h : Bd n i) (hm : n ≤ m) : Bd m i := Nat.lt_of_lt_of_le h (Nat.pow_le_pow_right (by decide) hm)
theorem Bd.mul {n m : Nat} {i j : Int} (h : Bd n i) (k : Bd m j) : Bd (n + m) (i * j) := wide_lt h k
theorem Bd.add {n m : Nat} {i j : Int} (h : Bd n i) (k : Bd m j) : Bd (max n m + 1) (i + j) := by
  have a := h.mono (Nat.le_max_left n m)
  have b := k.mono (Nat.le_max_right n m)
  unfold Bd at *
  rw [Nat.pow_succ]
  have := Int.natAbs_add_le i j
  omega
theorem Bd.neg {n : Nat} {i : Int} (h : Bd n i) : Bd n (-i) := by unfold Bd at *; rw [Int.natAbs_neg]; exact h
theorem Bd.sub {n m : Nat} {i j : Int} (h : Bd n i) (k : Bd m j) : Bd (max n m + 1) (i - j) := by
  rw [Int.sub_eq_add_neg]; exact h.add k.neg
theorem Bd.cmul {n m : Nat} {i j : Int} (h : Bd n i) (k : Bd m j) (hz : n + m + 2 ≤ 1000000 := by decide) : CMulW i j :=
  wide_mul (h.mono (Nat.le_succ n)) (k.mono (Nat.le_succ m)) (Nat.succ_pos _) (Nat.succ_pos _) (by omega)
theorem Bd.cdiv {n : Nat} {i j : Int} (k : Bd n j) (h : 0 < j) (hz : n + 1 ≤ 9000 := by decide) : CDivW i j := wide_div h (k.mono (Nat.le_succ n)) (Nat.succ_pos _) hz
theorem bd_lit {i : Int} (h : -4294967296 < i ∧ i < 4294967296) : Bd 32 i := by
  unfold Bd
  have : (2 : Nat) ^ 32 = 4294967296 := by decide
  omega
theorem bd_64 {i : Int} (h : -18446744073709551616 < i ∧ i < 18446744073709551616) : Bd 64 i := by
  unfold Bd
  have : (2 : Nat) ^ 64 = 18446744073709551616 := by decide
  omega
/-- an item of the script, or what stands in its place -/
def cellAt (ns : List Int) (k d : Int) : Int := if k < (ns.length : Int) then ns.getD k.toNat 0 else d
theorem cellAt_in {ns : List Int} {k d : Int} (h0 : 0 ≤ k) (h : k < (ns.length : Int)) : atI (ns.map V.int) k = some (V.int (cellAt ns k d)) := by
  obtain ⟨j, rfl⟩ : ∃ j : Nat, k = (j : Int) := ⟨k.toNat, by omega⟩
  have hl : j < ns.length := by omega
  unfold cellAt
  rw [if_pos h]
  refine atI_nat ?_
  rw [List.getElem?_map, List.getElem?_eq_getElem hl]
  simp [List.getD, List.getElem?_eq_getElem hl]
theorem cellAt_out {ns : List Int} {k d : Int} (h : ¬ k < (ns.length : Int)) : cellAt ns k d = d := if_neg h
theorem cellAt_mem {ns : List Int} {k d : Int} (h0 : 0 ≤ k) : cellAt ns k d ∈ ns ∨ cellAt ns k d = d := by
  unfold cellAt
  split
  · rename_i h
    have hl : k.toNat < ns.length := by omega
    left
    simp [List.getD, List.getElem?_eq_getElem hl]
  · exact .inr rfl
theorem _root_.L2.Same.seqT {K : PySem.W.Frag} {H H' : Hp} {a : Addr} {xs : List V} (e : Same H H') (h : SqT K H a xs) : SqT K H' a xs := by
  rcases h with (h | ⟨o, h⟩) | h
  · exact .inl (.inl (e _ _ h))
  · exact .inl (.inr ⟨o, e _ _ h⟩)
  · exact .inr h
/-! ### what is walked: more -/
section
variable {K : PySem.W.Frag} {σ : L2.St} {H : Hp} {te : TE} {tr : TA} {Q : VK} {g : TG} {tt : TT}
theorem L_yes {Q : Bool → Hp → Prop} (q : Q true H) : tYes σ H Q := q
theorem L_iZip {R : It → Hp → Prop} (h : tr σ H fun vs H1 => ∃ a b xs ys, vs = [.ref a, .ref b] ∧ SqL K H1 a xs ∧ SqL K H1 b ys ∧ R (Itz K a b) H1) : iZip K tr σ H R := h
theorem L_iEnum {R : It → Hp → Prop} (h : tr σ H fun vs H1 => ∃ a xs, vs = [.ref a] ∧ SqL K H1 a xs ∧ R (Ite K a) H1) : iEnum K tr σ H R := h
theorem L_iStr {R : It → Hp → Prop} (h : te σ H fun v H1 => ∃ x, v = .str x ∧ R (Its x) H1) : iStr te σ H R := h
theorem L_iRng3 {R : It → Hp → Prop} (h : tr σ H fun vs H1 => ∃ (i j c : Int) (n : Nat), vs = [.int i, .int j, .int c] ∧ RgC i j c n ∧ R (Itc i c n) H1) : iRng3 tr σ H R := h
theorem L_rz {a b : Addr} {xs ys : List V} {R : Addr → Addr → Prop} (h1 : SqL K H a xs) (h2 : SqL K H b ys) (q : R a b) : ∃ a' b' xs ys, [V.ref a, V.ref b] = [.ref a', .ref b'] ∧ SqL K H a' xs ∧ SqL K H b' ys ∧ R a' b' := ⟨a, b, xs, ys, rfl, h1, h2, q⟩
theorem L_re {a : Addr} {xs : List V} {R : Addr → Prop} (h1 : SqL K H a xs) (q : R a) : ∃ a' xs, [V.ref a] = [.ref a'] ∧ SqL K H a' xs ∧ R a' := ⟨a, xs, rfl, h1, q⟩
theorem L_rs {z : Str} {R : Str → Prop} (q : R z) : ∃ x, V.str z = .str x ∧ R x := ⟨z, rfl, q⟩
theorem L_r3 {i j c : Int} {n : Nat} {R : Int → Int → Nat → Prop} (h : RgC i j c n) (q : R i c n) : ∃ (i' j' c' : Int) (n : Nat), [V.int i, V.int j, V.int c] = [.int i', .int j', .int c'] ∧ RgC i' j' c' n ∧ R i' c' n := ⟨i, j, c, n, rfl, h, q⟩
theorem L_lc {wi : TI} {vs : List Nat} (h : wi σ H fun J H1 => ∀ D, H1 D = none → ∃ W : Nat → Nat → Hp → Prop, (∃ m, W 0 m (upd H1 D (.lst []))) ∧ ∀ i m H, W i m H →
  (J.stop i H ∧ Q (.ref D) H) ∨ (J.go i H ∧ ∃ Nx : Hp → Prop, (∀ H', Nx H' → ∃ m', m' < m ∧ W (i + 1) m' H') ∧ ∀ x H', J.yld i H x H' → g x (wipe σ vs) H' fun σ2 H2 => wipe σ2 vs = wipe σ vs ∧ tt σ2 H2 fun b H3 =>
    if b = true then te σ2 H3 fun y H4 => ∃ acc, H4 D = some (.lst acc) ∧ acc.length < sizeLine ∧ Nx (upd H4 D (.lst (acc ++ [y]))) else Nx H3)) : tLc wi g tt te vs σ H Q := h
theorem fm_succ (f : Nat → Option V) (i : Nat) : (List.range (i + 1)).filterMap f = (List.range i).filterMap f ++ (match f i with | some y => [y] | none => []) := by
  rw [List.range_succ, List.filterMap_append]
  cases h : f i <;> simp [h]
theorem fm_len (f : Nat → Option V) (i : Nat) : ((List.range i).filterMap f).length ≤ i := by
  have := List.length_filterMap_le f (List.range i)
  simpa using this
/-- a comprehension whose things are told one by one: f i is what turn i gives, none where its test is false -/
theorem lc_fm {J : It} {n : Nat} {G : Hp → Prop} {Y : Nat → Hp → V → Hp → Prop} (w : L2.Walk J n G Y) {vs : List Nat} {Qd : Addr → Hp → Prop} (f : Nat → Option V) (hn : n ≤ 1000000) (hG : ∀ H', Same H H' → G H')
    (hs : ∀ i x H2 H' (R : V → Hp → Prop) (R' : Hp → Prop), i < n → Same H H2 → Y i H2 x H' → (∀ y H4, f i = some y → Same H2 H4 → R y H4) → (∀ H3, f i = none → Same H2 H3 → R' H3) →
      g x (wipe σ vs) H' fun σ2 H2 => wipe σ2 vs = wipe σ vs ∧ tt σ2 H2 fun b H3 => if b = true then te σ2 H3 R else R' H3)
    (q : ∀ p H', H p = none → Same H H' → H' p = some (.lst ((List.range n).filterMap f)) → Qd p H') :
    ∀ D, H D = none → ∃ W : Nat → Nat → Hp → Prop, (∃ m, W 0 m (upd H D (.lst []))) ∧ ∀ i m H, W i m H →
      (J.stop i H ∧ Qd D H) ∨ (J.go i H ∧ ∃ Nx : Hp → Prop, (∀ H', Nx H' → ∃ m', m' < m ∧ W (i + 1) m' H') ∧ ∀ x H', J.yld i H x H' → g x (wipe σ vs) H' fun σ2 H2 => wipe σ2 vs = wipe σ vs ∧ tt σ2 H2 fun b H3 =>
        if b = true then te σ2 H3 fun y H4 => ∃ acc, H4 D = some (.lst acc) ∧ acc.length < sizeLine ∧ Nx (upd H4 D (.lst (acc ++ [y]))) else Nx H3) := by
  intro D hD
  refine lc_it w (fun i H2 => Same H H2 ∧ H2 D = some (.lst ((List.range i).filterMap f))) ⟨same_new hD, upd_same⟩ (fun i H2 _ p => hG H2 p.1) ?_ (fun H2 p => q D H2 hD p.1 p.2)
  intro i x H2 H' hi ⟨p1, p2⟩ y
  refine hs i x H2 H' _ _ hi p1 y (fun y H4 e s => ?_) (fun H3 e s => ?_)
  · refine ⟨_, s _ _ p2, sz_lt (by have := fm_len f i; omega), ?_, ?_⟩
    · intro b o hb
      rw [upd_ne (ne_of_none hb hD)]
      exact s _ _ (p1 _ _ hb)
    · rw [fm_succ, e]; exact upd_same
  · refine ⟨p1.trans s, ?_⟩
    rw [fm_succ, e, List.append_nil]
    exact s _ _ p2
theorem fm_map {α : Type} (f : Nat → α) (h : α → V) (n : Nat) : (List.range n).filterMap (fun i => some (h (f i))) = ((List.range n).map f).map h := by
  rw [List.map_map]
  induction n with
  | zero => rfl
  | succ n ih => rw [fm_succ (fun i => some (h (f i))), ih, List.range_succ, List.map_append]; rfl
theorem rgC_up {i j c : Int} (hc : 0 < c) (hc2 : c < 1000000) (hi : -1000000000 ≤ i ∧ i ≤ 1000000000) (hj : -1000000000 ≤ j ∧ j ≤ 1000000000) : RgC i j c (if i < j then ((j - i - 1) / c + 1).toNat else 0) := by
  have e : Builtin.Range.rangeSize i j c = ((if i < j then ((j - i - 1) / c + 1).toNat else 0 : Nat) : Int) := by
    unfold Builtin.Range.rangeSize
    rw [if_pos (by omega)]
    split
    · have : 0 ≤ (j - i - 1) / c := Int.ediv_nonneg (by omega) (by omega)
      omega
    · rfl
  refine ⟨by omega, by omega, ?_, e⟩
  unfold Builtin.Range.small
  rw [e]
  have hz : ((if i < j then ((j - i - 1) / c + 1).toNat else 0 : Nat) : Int) * c ≤ 4000000000 ∧ ((if i < j then ((j - i - 1) / c + 1).toNat else 0 : Nat) : Int) ≤ 4000000000 ∧ 0 ≤ ((if i < j then ((j - i - 1) / c + 1).toNat else 0 : Nat) : Int) := by
    split
    · have h0 : 0 ≤ (j - i - 1) / c := Int.ediv_nonneg (by omega) (by omega)
      have h1 : (j - i - 1) / c * c ≤ j - i - 1 := Int.ediv_mul_le _ (by omega)
      have h2 : (j - i - 1) / c ≤ j - i - 1 := Int.ediv_le_self _ (by omega)
      have h3 : (((j - i - 1) / c + 1).toNat : Int) = (j - i - 1) / c + 1 := by omega
      rw [h3, Int.add_mul]
      omega
    · simp
  generalize ((if i < j then ((j - i - 1) / c + 1).toNat else 0 : Nat) : Int) = n at *
  simp only [Builtin.Range.rangeFitsLong, Bool.and_eq_true, Bool.or_eq_true, decide_eq_true_eq, beq_iff_eq]
  refine ⟨by omega, .inr ?_⟩
  rw [if_pos (by omega), Bool.and_eq_true, decide_eq_true_eq, decide_eq_true_eq]
  omega
/-- what making an instance asks -/
def MakeP (C : Addr) (sp : Sp) (E : XK) (vs : List V) (H : Hp) (Q : VK) : Prop := ∀ x dx, H x = none → H dx = none → dx ≠ x → sp (.ref x :: vs) (upd (upd H dx (.own x)) x (.ins C dx [])) (fun v H2 => v = .non ∧ Q (.ref x) H2) E
theorem L_make {C : Addr} {sp : Sp} {E : XK} (h : tr σ H fun vs H1 => MakeP C sp E vs H1 Q) : tMake C sp [] E tr σ H Q := by
  unfold tMake
  simp only [List.append_nil]
  exact h
/-- a new instance: all that stood stands -/
def NewI (H : Hp) (C : Addr) (fs : List (Str × V)) (Q : VK) : Prop := ∀ p H' dx, H p = none → Same H H' → H' p = some (.ins C dx fs) → Q (.ref p) H'
theorem L_gTup {n : Nat} {t : TGs} {a : Addr} {xs : List V} {Q : L2.St → Hp → Prop} (h : SqT K H a xs) (hn : xs.length = n) (q : t xs σ H Q) : gTup K n t (.ref a) σ H Q := ⟨a, xs, rfl, h, hn, q⟩
theorem L_gLst {n : Nat} {t : TGs} {a : Addr} {xs : List V} {Q : L2.St → Hp → Prop} (h : SqL K H a xs) (hn : xs.length = n) (q : t xs σ H Q) : gLst K n t (.ref a) σ H Q := ⟨a, xs, rfl, h, hn, q⟩
theorem L_gCons {v : V} {r : List V} {t : TG} {u : TGs} {Q : L2.St → Hp → Prop} (q : t v σ H fun σ' H' => u r σ' H' Q) : gCons t u (v :: r) σ H Q := ⟨v, r, rfl, q⟩
theorem L_gNil {Q : L2.St → Hp → Prop} (q : Q σ H) : gNil [] σ H Q := ⟨rfl, q⟩
theorem L_sub {to ti : TE} {t : TSet} {v : V} {Q : L2.St → Hp → Prop} (h : to σ H fun o H1 => ti σ H1 fun i H2 => t o i v H2 fun H3 => Q σ H3) : gSub to ti t v σ H Q := h
theorem L_setL {p : Addr} {xs : List V} {k : Int} {j : Nat} {v : V} {Q : Hp → Prop} (h : H p = some (.lst xs)) (hj : ixN xs.length k = some j) (q : Q (upd H p (.lst (xs.set j v)))) : rSetL (.ref p) (.int k) v H Q := ⟨p, xs, k, j, rfl, rfl, h, hj, q⟩
theorem ixN_of {n : Nat} {k : Int} (h0 : 0 ≤ k) (h : k < n) : ixN n k = some k.toNat := by
  unfold ixN
  rw [if_pos h0, if_pos h]
theorem L_sFld {f : Str} {ta tv : TE} {N B C' : L2.St → Hp → Prop} {R : VK} (h : tv σ H fun y H1 => ta σ H1 fun x H2 => ∃ a C dx fs, x = .ref a ∧ H2 a = some (.ins C dx fs) ∧ Cls K C ∧ NoAttr K C f ∧ fs.length < 1000 ∧ N σ (upd H2 a (.ins C dx (putF f y fs)))) : sFld K ta tv f ⟨N, R, B, C'⟩ σ H := h
theorem L_sFldv {a C dx : Addr} {fs : List (Str × V)} {f : Str} {Q : Addr → Addr → Addr → List (Str × V) → Prop} (h : H a = some (.ins C dx fs)) (cl : Cls K C) (n : NoAttr K C f) (l : fs.length < 1000) (q : Q a C dx fs) :
    ∃ a' C dx fs, V.ref a = V.ref a' ∧ H a' = some (.ins C dx fs) ∧ Cls K C ∧ NoAttr K C f ∧ fs.length < 1000 ∧ Q a' C dx fs := ⟨a, C, dx, fs, rfl, h, cl, n, l, q⟩
theorem L_repL {a : Addr} {xs : List V} {k : Int} (h : H a = some (.lst xs)) (h1 : -(2 ^ 63) ≤ k) (h2 : k < 2 ^ 63) (h3 : xs.length * k.toNat ≤ sizeLine) (q : ∀ p, H p = none → Q (.ref p) (upd H p (.lst (List.replicate k.toNat xs).flatten))) : aMul (.ref a) (.int k) H Q := .inr ⟨a, k, xs, rfl, rfl, h, h1, h2, h3, q⟩
theorem atI_int {xs : List V} {k : Int} {v : V} (h0 : 0 ≤ k) (h : xs[k.toNat]? = some v) : atI xs k = some v := by
  obtain ⟨j, rfl⟩ : ∃ j : Nat, k = (j : Int) := ⟨k.toNat, by omega⟩
  exact atI_nat h
theorem atI_ints {xs : List Int} {k : Int} (h0 : 0 ≤ k) (h : k < xs.length) : atI (xs.map V.int) k = some (.int (xs.getD k.toNat 0)) := by
  refine atI_int h0 ?_
  have hl : k.toNat < xs.length := by omega
  rw [List.getElem?_map, List.getElem?_eq_getElem hl]
  simp [List.getD, List.getElem?_eq_getElem hl]
theorem L_nw {xs : List V} {R : Prop} (q : R) (hl : xs.length ≤ 1000000 := by simp) : xs.length ≤ sizeLine ∧ R := ⟨sz_dec hl, q⟩
end
theorem fm_succ' {α : Type} (f : Nat → Option α) (i : Nat) : (List.range (i + 1)).filterMap f = (List.range i).filterMap f ++ (match f i with | some y => [y] | none => []) := by
  rw [List.range_succ, List.filterMap_append]
  cases h : f i <;> simp [h]
theorem fm_len' {α : Type} (f : Nat → Option α) (i : Nat) : ((List.range i).filterMap f).length ≤ i := by
  have := List.length_filterMap_le f (List.range i)
  simpa using this
/-! ### data as trees -/
mutual
theorem Dp_same {K : PySem.W.Frag} {H H' : Hp} (e : Same H H') : ∀ (d : PyData) {v : V}, Dp K H v d → Dp K H' v d
  | .none, _, h => by cases h; exact .non
  | .bool b, _, h => by cases h; exact .bl b
  | .int i, _, h => by cases h; exact .int i
  | .str x, _, h => by cases h; exact .str x
  | .list ds, _, h => by cases h with | lst hs ha => exact .lst (e.seq hs) (DpAll_same e ds ha)
  | .tuple ds, _, h => by cases h with | tup hs ha => exact .tup (e.seqT hs) (DpAll_same e ds ha)
  | .dict _, _, h => by cases h
theorem DpAll_same {K : PySem.W.Frag} {H H' : Hp} (e : Same H H') : ∀ (ds : List PyData) {vs : List V}, DpAll K H vs ds → DpAll K H' vs ds
  | [], _, h => by cases h; exact .nil
  | d :: ds, _, h => by cases h with | cons h1 h2 => exact .cons (Dp_same e d h1) (DpAll_same e ds h2)
end
section
variable {K : PySem.W.Frag} {H H' : Hp} {v : V} {vs : List V} {d : PyData} {ds : List PyData}
theorem _root_.L2.Dp.same (h : Dp K H v d) (e : Same H H') : Dp K H' v d := Dp_same e d h
theorem _root_.L2.DpAll.same (h : DpAll K H vs ds) (e : Same H H') : DpAll K H' vs ds := DpAll_same e ds h
theorem _root_.L2.DpAll.len : ∀ {ds : List PyData} {vs : List V}, DpAll K H vs ds → vs.length = ds.length
  | [], _, h => by cases h; rfl
  | d :: ds, _, h => by cases h with | cons h1 h2 => rw [List.length_cons, List.length_cons, h2.len]
theorem _root_.L2.DpAll.at : ∀ {ds : List PyData} {vs : List V} {i : Nat}, DpAll K H vs ds → ds[i]? = some d → ∃ v, vs[i]? = some v ∧ Dp K H v d
  | [], _, i, h, e => by simp at e
  | c :: ds, _, 0, h, e => by
    cases h with
    | cons h1 h2 =>
      rename_i v vs
      have : c = d := by simpa using e
      subst this
      exact ⟨v, by simp, h1⟩
  | c :: ds, _, i + 1, h, e => by
    cases h with
    | cons h1 h2 =>
      obtain ⟨v, q1, q2⟩ := h2.at (i := i) (by simpa using e)
      exact ⟨v, by simpa using q1, q2⟩
theorem _root_.L2.DpAll.of : ∀ {ds : List PyData} {vs : List V} {i : Nat}, DpAll K H vs ds → vs[i]? = some v → ∃ d, ds[i]? = some d ∧ Dp K H v d
  | [], _, i, h, e => by cases h; simp at e
  | c :: ds, _, 0, h, e => by
    cases h with
    | cons h1 h2 =>
      rename_i w vs
      have : w = v := by simpa using e
      subst this
      exact ⟨c, by simp, h1⟩
  | c :: ds, _, i + 1, h, e => by
    cases h with
    | cons h1 h2 =>
      obtain ⟨d, q1, q2⟩ := h2.of (i := i) (by simpa using e)
      exact ⟨d, by simpa using q1, q2⟩
theorem _root_.L2.DpAll.app : ∀ {ds es : List PyData} {vs us : List V}, DpAll K H vs ds → DpAll K H us es → DpAll K H (vs ++ us) (ds ++ es)
  | [], _, _, _, h, g => by cases h; exact g
  | d :: ds, _, _, _, h, g => by cases h with | cons h1 h2 => exact .cons h1 (h2.app g)
theorem _root_.L2.DpAll.snoc (h : DpAll K H vs ds) (g : Dp K H v d) : DpAll K H (vs ++ [v]) (ds ++ [d]) := h.app (.cons g .nil)
theorem dp_ints : ∀ (ns : List Int), DpAll K H (ns.map V.int) (ns.map PyData.int)
  | [] => .nil
  | n :: ns => .cons (.int n) (dp_ints ns)
theorem dp_strs : ∀ (ns : List Str), DpAll K H (ns.map V.str) (ns.map PyData.str)
  | [] => .nil
  | n :: ns => .cons (.str n) (dp_strs ns)
theorem of_ints : ∀ {ns : List Int} {vs : List V}, DpAll K H vs (ns.map PyData.int) → vs = ns.map V.int
  | [], _, h => by cases h; rfl
  | n :: ns, _, h => by
    cases h with
    | cons h1 h2 => cases h1; rw [of_ints h2]; rfl
theorem of_strs : ∀ {ns : List Str} {vs : List V}, DpAll K H vs (ns.map PyData.str) → vs = ns.map V.str
  | [], _, h => by cases h; rfl
  | n :: ns, _, h => by
    cases h with
    | cons h1 h2 => cases h1; rw [of_strs h2]; rfl
theorem of_tup (h : Dp K H v (.tuple ds)) : ∃ a xs, v = .ref a ∧ SqT K H a xs ∧ DpAll K H xs ds := by
  cases h with | tup h1 h2 => exact ⟨_, _, rfl, h1, h2⟩
theorem of_lst (h : Dp K H v (.list ds)) : ∃ a xs, v = .ref a ∧ SqL K H a xs ∧ DpAll K H xs ds := by
  cases h with | lst h1 h2 => exact ⟨_, _, rfl, h1, h2⟩
theorem of_int {i : Int} (h : Dp K H v (.int i)) : v = .int i := by cases h; rfl
theorem of_str {i : Str} (h : Dp K H v (.str i)) : v = .str i := by cases h; rfl
theorem of_bl {i : Bool} (h : Dp K H v (.bool i)) : v = .bl i := by cases h; rfl
theorem of_non (h : Dp K H v .none) : v = .non := by cases h; rfl
theorem of_t2 {d e : PyData} (h : Dp K H v (.tuple [d, e])) : ∃ a x y, v = .ref a ∧ SqT K H a [x, y] ∧ Dp K H x d ∧ Dp K H y e := by
  obtain ⟨a, xs, rfl, h1, h2⟩ := of_tup h
  cases h2 with
  | cons p1 p2 => cases p2 with | cons p3 p4 => cases p4; exact ⟨a, _, _, rfl, h1, p1, p3⟩
theorem of_t3 {d e f : PyData} (h : Dp K H v (.tuple [d, e, f])) : ∃ a x y z, v = .ref a ∧ SqT K H a [x, y, z] ∧ Dp K H x d ∧ Dp K H y e ∧ Dp K H z f := by
  obtain ⟨a, xs, rfl, h1, h2⟩ := of_tup h
  cases h2 with
  | cons p1 p2 => cases p2 with | cons p3 p4 => cases p4 with | cons p5 p6 => cases p6; exact ⟨a, _, _, _, rfl, h1, p1, p3, p5⟩
theorem of_t4 {d e f g : PyData} (h : Dp K H v (.tuple [d, e, f, g])) : ∃ a x y z w, v = .ref a ∧ SqT K H a [x, y, z, w] ∧ Dp K H x d ∧ Dp K H y e ∧ Dp K H z f ∧ Dp K H w g := by
  obtain ⟨a, xs, rfl, h1, h2⟩ := of_tup h
  cases h2 with
  | cons p1 p2 => cases p2 with | cons p3 p4 => cases p4 with | cons p5 p6 => cases p6 with | cons p7 p8 => cases p8; exact ⟨a, _, _, _, _, rfl, h1, p1, p3, p5, p7⟩
end
/-- the part of a heap at which P holds -/
noncomputable def rs (P : Addr → Prop) (H : Hp) : Hp := fun a => @ite _ (P a) (Classical.propDecidable _) (H a) none
theorem rs_at {P : Addr → Prop} {H : Hp} {a : Addr} {o : HO} (p : P a) (h : H a = some o) : rs P H a = some o := by unfold rs; rw [if_pos p]; exact h
theorem rs_of {P : Addr → Prop} {H : Hp} {a : Addr} {o : HO} (h : rs P H a = some o) : P a ∧ H a = some o := by
  unfold rs at h
  split at h
  · rename_i p; exact ⟨p, h⟩
  · cases h
theorem rs_same {P P' : Addr → Prop} {H H' : Hp} (h : ∀ a o, P a → H a = some o → P' a ∧ H' a = some o) : Same (rs P H) (rs P' H') := fun a o e => by
  obtain ⟨p, q⟩ := rs_of e
  obtain ⟨p', q'⟩ := h a o p q
  exact rs_at p' q'
theorem rs_sub {P : Addr → Prop} {H : Hp} : Same (rs P H) H := fun a o e => (rs_of e).2
theorem rs_in {P : Addr → Prop} {H H' : Hp} (h : ∀ a o, P a → H a = some o → H' a = some o) : Same (rs P H) H' := fun a o e => h a o (rs_of e).1 (rs_of e).2
theorem rs_all {P : Addr → Prop} {H H' : Hp} (h : ∀ a o, H a = some o → P a ∧ H' a = some o) : Same H (rs P H') := fun a o e => rs_at (h a o e).1 (h a o e).2
/-- a list that changes: what stood ahead of it stands -/
theorem same_mut {H H' : Hp} {a : Addr} {o : HO} (e : Same H H') (h : H a = none) : Same H (upd H' a o) := fun b o' q => by
  rw [upd_ne (fun z => by rw [z, h] at q; cases q)]; exact e b o' q
section
variable {K : PySem.W.Frag} {σ : L2.St} {H : Hp} {g : TG} {tt : TT} {te : TE} {tb : TS} {D : Ends} {x y : V} {Q : VK}
theorem L_rlD {v : V} {ds : List PyData} {R : Addr → Prop} (h : Dp K H v (.list ds)) (q : ∀ a, v = .ref a → R a) : ∃ b, v = V.ref b ∧ (∃ xs, SqL K H b xs) ∧ R b := by
  obtain ⟨a, xs, rfl, h1, h2⟩ := of_lst h
  exact ⟨a, rfl, ⟨xs, h1⟩, q a rfl⟩
/-- for x in a list of data -/
theorem for_dp {a : Addr} {ds : List PyData} (h : Dp K H (.ref a) (.list ds)) (Pv : Nat → L2.St → Hp → Prop) (h0 : Pv 0 σ H) (hG : ∀ i σ' H', i ≤ ds.length → Pv i σ' H' → Same H H')
    (hs : ∀ i d x σ' H', i < ds.length → ds[i]? = some d → Pv i σ' H' → Dp K H' x d → g x σ' H' fun σ2 H2 => tb { D with nx := Pv (i + 1), ct := Pv (i + 1), bk := D.nx } σ2 H2) (hd : ∀ σ' H', Pv ds.length σ' H' → D.nx σ' H') :
    ∃ W : Nat → Nat → L2.St → Hp → Prop, (∃ m, W 0 m σ H) ∧ ∀ i m σ H, W i m σ H →
      ((Itl K a).stop i H ∧ D.nx σ H) ∨ ((Itl K a).go i H ∧ ∃ N : L2.St → Hp → Prop, (∀ σ' H', N σ' H' → ∃ m', m' < m ∧ W (i + 1) m' σ' H') ∧ ∀ x H', (Itl K a).yld i H x H' → g x σ H' fun σ2 H2 => tb { D with nx := N, ct := N, bk := D.nx } σ2 H2) := by
  obtain ⟨a', xs, ea, h1, h2⟩ := of_lst h
  cases ea
  have hl := h2.len
  refine for_it walk_list Pv h0 (fun i σ' H' hi p => (hG i σ' H' (by omega) p).seq h1) (fun i x σ' H' H'' hi p ⟨e1, e2⟩ => ?_) (fun σ' H' p => hd σ' H' (by rw [← hl]; exact p))
  subst e1
  obtain ⟨d, e3, e4⟩ := h2.of e2
  exact hs i d x σ' _ (by omega) e3 p (e4.same (hG i σ' _ (by omega) p))
/-- a comprehension: what turn i gives is told as data, or none; the new list's things stand apart from it -/
theorem lc_dp {J : It} {n : Nat} {G : Hp → Prop} {Y : Nat → Hp → V → Hp → Prop} (w : L2.Walk J n G Y) {vs : List Nat} {Qd : Addr → Hp → Prop} (f : Nat → Option PyData) (hn : n ≤ 1000000) (hG : ∀ H', Same H H' → G H')
    (hs : ∀ i x p H2 H' (R : V → Hp → Prop) (R' : Hp → Prop), i < n → H p = none → Same H H2 → (∃ o, H2 p = some o) → Y i H2 x H' → (∀ y d H4, f i = some d → Same H2 H4 → Dp K (rs (· ≠ p) H4) y d → R y H4) → (∀ H3, f i = none → Same H2 H3 → R' H3) →
      g x (wipe σ vs) H' fun σ2 H2 => wipe σ2 vs = wipe σ vs ∧ tt σ2 H2 fun b H3 => if b = true then te σ2 H3 R else R' H3)
    (q : ∀ p H' vs, H p = none → Same H H' → H' p = some (.lst vs) → DpAll K (rs (· ≠ p) H') vs ((List.range n).filterMap f) → Qd p H') :
    ∀ D, H D = none → ∃ W : Nat → Nat → Hp → Prop, (∃ m, W 0 m (upd H D (.lst []))) ∧ ∀ i m H, W i m H →
      (J.stop i H ∧ Qd D H) ∨ (J.go i H ∧ ∃ Nx : Hp → Prop, (∀ H', Nx H' → ∃ m', m' < m ∧ W (i + 1) m' H') ∧ ∀ x H', J.yld i H x H' → g x (wipe σ vs) H' fun σ2 H2 => wipe σ2 vs = wipe σ vs ∧ tt σ2 H2 fun b H3 =>
        if b = true then te σ2 H3 fun y H4 => ∃ acc, H4 D = some (.lst acc) ∧ acc.length < sizeLine ∧ Nx (upd H4 D (.lst (acc ++ [y]))) else Nx H3) := by
  intro D hD
  refine lc_it w (fun i H2 => Same H H2 ∧ ∃ us, H2 D = some (.lst us) ∧ DpAll K (rs (· ≠ D) H2) us ((List.range i).filterMap f)) ⟨same_new hD, [], upd_same, .nil⟩ (fun i H2 _ p => hG H2 p.1) ?_ (fun H2 ⟨p1, us, p2, p3⟩ => q D H2 us hD p1 p2 p3)
  rintro i x H2 H' hi ⟨p1, us, p2, p3⟩ y
  refine hs i x D H2 H' _ _ hi hD p1 ⟨_, p2⟩ y (fun y d H4 e s dy => ?_) (fun H3 e s => ?_)
  · have e4 : Same (rs (· ≠ D) H2) (rs (· ≠ D) H4) := rs_same fun a o h1 h2 => ⟨h1, s _ _ h2⟩
    have e5 : Same (rs (· ≠ D) H4) (rs (· ≠ D) (upd H4 D (.lst (us ++ [y])))) := rs_same fun a o h1 h2 => ⟨h1, by rw [upd_ne h1]; exact h2⟩
    refine ⟨us, s _ _ p2, sz_lt (by have := p3.len; have := fm_len' f i; omega), same_mut (p1.trans s) hD, _, upd_same, ?_⟩
    rw [fm_succ', e]
    exact ((p3.same e4).same e5).snoc (dy.same e5)
  · refine ⟨p1.trans s, us, s _ _ p2, ?_⟩
    rw [fm_succ', e, List.append_nil]
    exact p3.same (rs_same fun a o h1 h2 => ⟨h1, s _ _ h2⟩)
end
/-! ### defs that may raise -/
structure MetX (P : Program) (w : World) (K : PySem.W.Frag) (mg : Str → Option Value) (base : Heap) (k : Nat) (C : Addr) (m : Str) (sp : Sp) : Prop where
  ex : ∃ (f : Addr) (fd : FuncData) (ps : List Str), Cls K C ∧ Meth K C m f ∧ FnOk P w K mg base (L2.CX P w) k f fd ps sp ∧ Binds K fd ps []
structure MakX (P : Program) (w : World) (K : PySem.W.Frag) (mg : Str → Option Value) (base : Heap) (k : Nat) (x : Str) (C : Addr) (sp : Sp) : Prop where
  ex : ∃ (f : Addr) (fd : FuncData) (ps : List Str), Mk K C f ∧ FnOk P w K mg base (L2.CX P w) k f fd ps sp ∧ mg x = some (.ref C) ∧ Binds K fd ps []
section
variable {P : Program} {w : World} {K : PySem.W.Frag} {mg : Str → Option Value} {base : Heap}
theorem MethAt.metX {C : Addr} {m qual : Str} {st : Stmt} {N ps : List Str} {k : Nat} {sp : Sp} (c : Cls K C) (d : MethAt K C m qual st ps) (S : FnScope N ps (defScope st)) (len : ∀ vs H Q E, sp vs H Q E → vs.length = ps.length)
    (hbody : ∀ (f : Addr) (cdv : Value) (A : Around) (outer : List Env) (s : Shared) (H : Hp) (vs : List V) (Q : VK) (E : XK), Room k (A.deeper (envOfC qual (defScope st) s.heap.objs.size f cdv)) → sp vs H Q E →
      ∃ t, PSs (cxOf (L2.CX P w) P w K mg base N qual (defScope st) f cdv A outer s H E) (defBody st) t ∧ t { nx := fun _ H' => Q .non H', rt := Q } (start N vs) H) : MetX P w K mg base (k + 1) C m sp := by
  obtain ⟨f, fd, F, hm, b⟩ := d.ex
  exact ⟨f, fd, ps, c, hm, F.okX S len (hbody f), b⟩
theorem InitAt.makX {x : Str} {C : Addr} {qual : Str} {st : Stmt} {N ps : List Str} {k : Nat} {sp : Sp} (hx : mg x = some (.ref C)) (d : InitAt K C qual st ps) (S : FnScope N ps (defScope st)) (len : ∀ vs H Q E, sp vs H Q E → vs.length = ps.length)
    (hbody : ∀ (f : Addr) (cdv : Value) (A : Around) (outer : List Env) (s : Shared) (H : Hp) (vs : List V) (Q : VK) (E : XK), Room k (A.deeper (envOfC qual (defScope st) s.heap.objs.size f cdv)) → sp vs H Q E →
      ∃ t, PSs (cxOf (L2.CX P w) P w K mg base N qual (defScope st) f cdv A outer s H E) (defBody st) t ∧ t { nx := fun _ H' => Q .non H', rt := Q } (start N vs) H) : MakX P w K mg base (k + 1) x C sp := by
  obtain ⟨f, fd, F, hm, b⟩ := d.ex
  exact ⟨f, fd, ps, hm, F.okX S len (hbody f), hx, b⟩
end
/-- where no exception is wanted -/
theorem passN {X : Cx} (σ : L2.St) : PassesAt (L2.CX X.prog X.w) X σ ((fun _ => E0) σ) := fun pins H s e s' I c => passL pins σ H s e s' I c
/-- x.m(..), C(..), where what is raised is wished for at the caller's slots -/
def tMethE (C : Addr) (m : Str) (sp : Sp) (E : L2.St → XK) (ta : TE) (t : TA) : TE := fun σ H Q => ta σ H fun x H1 => ∃ a dx fs, x = .ref a ∧ H1 a = some (.ins C dx fs) ∧ fs.lookup m = none ∧ t σ H1 fun vs H2 => sp (x :: vs) H2 Q (E σ)
def tMakeE (C : Addr) (sp : Sp) (E : L2.St → XK) (t : TA) : TE := fun σ H Q => t σ H fun vs H1 => ∀ x dx, H1 x = none → H1 dx = none → dx ≠ x →
  sp (.ref x :: vs) (upd (upd H1 dx (.own x)) x (.ins C dx [])) (fun v H2 => v = .non ∧ Q (.ref x) H2) (E σ)
section
variable {X : Cx} {CX : CXT} {k j : Nat} {f C : Addr} {fd : FuncData} {ps : List Str} {x m : Str} {sp : Sp} {p pos apos : Pos} {e o : Expr} {es : List Expr} {ta : TE} {t : TA} {E : L2.St → XK}
theorem run_makeS {pins : List (Addr × Obj)} {σ : L2.St} {H : Hp} {s : Shared} {Q : VK} {us : List Value} {vs : List V} (M : Mk X.K C f) (F : FnOk X.prog X.w X.K X.mg X.base CX k f fd ps sp) (hr : Room (k + 1) X.A) (hb : Binds X.K fd ps [])
    (hx : PassesAt CX X σ (E σ)) (I : Inv X pins σ H s) (r : Vals vs us)
    (h : ∀ x dx, H x = none → H dx = none → dx ≠ x → sp (.ref x :: vs) (upd (upd H dx (.own x)) x (.ins C dx [])) (fun v H2 => v = .non ∧ Q (.ref x) H2) (E σ)) :
    wpAny (model X.prog X.w) X.A (call (.ref C) us) (EP X pins σ Q) X.xe s := by
  -- the new object's place, its dict's place
  obtain ⟨dn, hdn⟩ : ∃ dn, dn = s.heap.objs.size := ⟨_, rfl⟩
  have fresh1 : H dn = none := I.hok.fresh (Nat.le_of_eq hdn.symm)
  have fresh2 : H (dn + 1) = none := I.hok.fresh (Nat.le_succ_of_le (Nat.le_of_eq hdn.symm))
  have asked := h (dn + 1) dn fresh2 fresh1 (Nat.ne_of_lt (Nat.lt_succ_self _))
  have J := Inv.made (C := C) I
  rw [← hdn] at J
  have args : Vals (V.ref (dn + 1) :: vs) (Value.ref (dn + 1) :: us) := .cons rfl r
  have many : (Value.ref (dn + 1) :: us).length = ps.length := args.length.symm.trans (F.len _ _ _ _ asked)
  have bound := hb _ (Value.ref (dn + 1) :: us) J.kIn (by rw [List.append_nil]; exact many)
  rw [List.append_nil] at bound
  subst hdn
  refine wpAny_call (make_map (f := f) I.kIn M.makes M.init (beq_iff_eq.mp M.fn) ?_)
  refine codeAny_mono (F.run _ X.stack _ _ ⟨_, []⟩ _ _ _ (E σ) (hr.make C us []) (J.env0.make C us []) bound args asked) fun out s' ho => ?_
  match out, ho with
  | .error e, ho => exact hx pins _ _ e s' J ho
  | .ok (.ret u), ho =>
    obtain ⟨v, H', J', rel, hv, rest⟩ := J.after ho
    cases hv
    exact ⟨rel, .ref (s.heap.objs.size + 1), H', J', rfl, rest⟩
  | .ok .next, ho => exact ho.elim
  | .ok .brk, ho => exact ho.elim
  | .ok .cont, ho => exact ho.elim
theorem pe_xS (c : CalX X.prog X.w X.K X.mg X.base k x sp) (hr : Room j X.A) (hk : k ≤ j) (hg : Gl X x) (hx : ∀ σ, PassesAt (L2.CX X.prog X.w) X σ (E σ)) (ha : PA X (e :: es) t)
    (hdb : (x == ("__debug__" : Str)) = false := by decide) (he : starEach (e :: es) X.env = (false, eval e X.env) :: starEach es X.env := by rfl) (hpl : (backTo pos (starEach es X.env)).any (·.1) = false := by rfl) :
    PE X (.Call (.Name x p) (e :: es) [] pos) (tCallS sp E t) := by
  obtain ⟨f, fd, ps, F, hm, kp, b⟩ := c.ex
  exact pe_callS F (hr.mono hk) hg hm kp b hx ha hdb he hpl
theorem pe_xMk (c : MakX X.prog X.w X.K X.mg X.base k x C sp) (hr : Room j X.A) (hk : k + 1 ≤ j) (hg : Gl X x) (hx : ∀ σ, PassesAt (L2.CX X.prog X.w) X σ (E σ)) (ha : PA X (e :: es) t)
    (hdb : (x == ("__debug__" : Str)) = false := by decide) (he : starEach (e :: es) X.env = (false, eval e X.env) :: starEach es X.env := by rfl) (hpl : (backTo pos (starEach es X.env)).any (·.1) = false := by rfl) :
    PE X (.Call (.Name x p) (e :: es) [] pos) (tMakeE C sp E t) := by
  obtain ⟨f, fd, ps, M, F, hm, hb⟩ := c.ex
  refine ⟨fun pins s σ H Q I h => ?_⟩
  refine wpAny_Call_Name_kw (ld_glob I hg hm ?_ hdb)
  refine PySem.W.callWith_K (h₀ := X.base) I.ok.mod.kin M.kp (thn (ha.run pos pins s σ H _ I h) fun us s1 ⟨vs, H1, I1, r, q⟩ => ⟨I1.kIn, ?_⟩) he hpl
  exact run_makeS M F (hr.mono hk) hb (hx σ) I1 r q
theorem pe_xMt {pl : Sem Bool} (c : MetX X.prog X.w X.K X.mg X.base k C m sp) (hr : Room j X.A) (hk : k ≤ j) (hx : ∀ σ, PassesAt (L2.CX X.prog X.w) X σ (E σ)) (he : PE X o ta) (ha : PA X (e :: es) t)
    (hst : starEach (e :: es) X.env = (false, eval e X.env) :: starEach es X.env := by rfl) (hpl : (backTo pos (starEach es X.env)).any (·.1) = false := by rfl)
    (ht : eval (.Call (.Attribute o m apos) (e :: es) [] pos) X.env = (do
      let ov ← eval o X.env
      standAt apos.atName
      let (f, first) ← holding [ov] (getMethod ov m pl)
      callWith pos f first (backTo pos (starEach (e :: es) X.env)) (backToKw pos (keywordEach [] X.env))) := by rfl) :
    PE X (.Call (.Attribute o m apos) (e :: es) [] pos) (tMethE C m sp E ta t) := by
  obtain ⟨f, fd, ps, hc, hm, F, hb⟩ := c.ex
  refine ⟨fun pins s σ H Q I h => ?_⟩
  refine PySem.W.methodCall_KW (pl := pl) (thn (he.run pins s σ H _ I h) fun u s1 ⟨x, H1, I1, rx, a, dx, fs, ex, ea, l, q⟩ => ?_) ht
  subst ex
  obtain rfl : u = Value.ref a := rx
  refine getmeth_ok I1 ea hc hm l ?_
  refine PySem.W.callWith_K (first := [.ref a]) (h₀ := X.base) I.ok.mod.kin hm.kp (thn (ha.run pos pins s1 σ H1 _ I1 q) fun us s2 ⟨vs, H2, I2, r, q2⟩ => ⟨I2.kIn, ?_⟩) hst hpl
  exact run_fnS (us := .ref a :: us) (vs := .ref a :: vs) F (hr.mono hk) hb (hx σ) I2 (.cons rfl r) q2
theorem pe_xMt0 {pl : Sem Bool} (c : MetX X.prog X.w X.K X.mg X.base k C m sp) (hr : Room j X.A) (hk : k ≤ j) (hx : ∀ σ, PassesAt (L2.CX X.prog X.w) X σ (E σ)) (he : PE X o ta)
    (ht : eval (.Call (.Attribute o m apos) [] [] pos) X.env = (do
      let ov ← eval o X.env
      standAt apos.atName
      let (f, first) ← holding [ov] (getMethod ov m pl)
      callWith pos f first (backTo pos (starEach [] X.env)) (backToKw pos (keywordEach [] X.env))) := by rfl) :
    PE X (.Call (.Attribute o m apos) [] [] pos) (tMethE C m sp E ta tNil) := by
  obtain ⟨f, fd, ps, hc, hm, F, hb⟩ := c.ex
  refine ⟨fun pins s σ H Q I h => ?_⟩
  refine PySem.W.methodCall_KW (pl := pl) (thn (he.run pins s σ H _ I h) fun u s1 ⟨x, H1, I1, rx, a, dx, fs, ex, ea, l, q⟩ => ?_) ht
  subst ex
  obtain rfl : u = Value.ref a := rx
  refine getmeth_ok I1 ea hc hm l ?_
  exact PySem.W.callWith_K0 (first := [.ref a]) I1.kIn hm.kp (run_fnS (us := [.ref a]) (vs := [.ref a]) F (hr.mono hk) hb (hx σ) I1 (.cons rfl .nil) q)
end
/-- an own exception class that is raised; one that is caught -/
structure ExcAt (K : PySem.W.Frag) (C : Addr) : Prop where
  x : PySem.W.excIn K C [.type "ValueError", .type "Exception", .type "BaseException", .type "object"] "ValueError.__new__" = true
  k : PySem.W.keepIn K (.ref C) = true
  b : PySem.W.subIn K (.ref C) (.type "BaseException") = some true
  t : PySem.W.typeIn K (.ref C) = some (.type "type")
structure ExcK (K : PySem.W.Frag) (C : Addr) : Prop where
  b : PySem.W.subIn K (.ref C) (.type "BaseException") = some true
  i : PySem.W.isClsIn K C = true
  t : PySem.W.typeIn K (.ref C) = some (.type "type")
theorem ExcK.exm {K : PySem.W.Frag} {C D : Addr} {r : Bool} (c : ExcK K C) (h : PySem.W.subIn K (.ref D) (.ref C) = some r) : PySem.W.exmOne K (.ref D) (.ref C) = some r := by
  have e1 : (PySem.W.subIn K (.ref C) (.type "BaseException") == some true) = true := by rw [c.b] <;> rfl
  have e2 : ((PySem.W.clsIn K C).isSome && PySem.W.typeIn K (.ref C) == some (.type "type")) = true := by
    have h2' : (PySem.W.clsIn K C).isSome = true := c.i
    rw [h2', c.t] <;> rfl
  show (if (PySem.W.subIn K (.ref C) (.type "BaseException") == some true) = true then (if ((PySem.W.clsIn K C).isSome && PySem.W.typeIn K (.ref C) == some (.type "type")) = true then PySem.W.subIn K (.ref D) (.ref C) else none) else none) = some r
  rw [if_pos e1, if_pos e2]
  exact h
/-- C() -/
theorem pmk_own0 {X : Cx} {C : Addr} {x : Str} {p pos : Pos} (c : ExcAt X.K C) (gC : X.mg x = some (.ref C)) (hg : Gl X x) (hdb : (x == ("__debug__" : Str)) = false := by decide) :
    PMk X (.Call (.Name x p) [] [] pos) (fun _ H Q => Q (.ref C) none H) := by
  intro pins s σ H Q I h
  refine wpAny_Call_Name_kw (ld_glob I hg gC ?_ hdb)
  refine PySem.W.callWith_K0 I.kIn c.k ?_
  obtain ⟨bm, N, nm, qn, bs, hdct, sn, sub, ab, col, dd, k0, k1, k2, k3, k5, mN, hC, hN, hni, T⟩ := exc_obj I.kIn c.x
  refine wpAny_call_exc_subT PySem.F.excBase_ValueError T hC hN hni (fun h' e hm => ?_) (Nat.zero_le _)
  exact mk_of I hm (raises_own c.b c.t) h (I.hok.gone hm.new)
section
variable {K : PySem.W.Frag} {σ : L2.St} {H : Hp} {ta : TE} {tr : TA} {Q : VK} {E : L2.St → XK} {C : Addr} {m : Str} {sp : Sp}
theorem L_callS (h : tr σ H fun vs H1 => sp vs H1 Q (E σ)) : tCallS sp E tr σ H Q := h
theorem L_methE (h : ta σ H fun x H1 => ∃ a dx fs, x = .ref a ∧ H1 a = some (.ins C dx fs) ∧ fs.lookup m = none ∧ tr σ H1 fun vs H2 => sp (x :: vs) H2 Q (E σ)) : tMethE C m sp E ta tr σ H Q := h
theorem L_makeE (h : tr σ H fun vs H1 => MakeP C sp (E σ) vs H1 Q) : tMakeE C sp E tr σ H Q := h
theorem L_meth {E : XK} (h : ta σ H fun x H1 => ∃ a dx fs, x = .ref a ∧ H1 a = some (.ins C dx fs) ∧ fs.lookup m = none ∧ tr σ H1 fun vs H2 => sp (x :: vs) H2 Q E) : tMeth C m sp [] E ta tr σ H Q := by
  unfold tMeth
  simp only [List.append_nil]
  exact h
theorem L_methv {a dx : Addr} {fs : List (Str × V)} {R : Prop} (h : H a = some (.ins C dx fs)) (l : fs.lookup m = none) (q : R) : ∃ a' dx fs, V.ref a = V.ref a' ∧ H a' = some (.ins C dx fs) ∧ fs.lookup m = none ∧ R := ⟨a, dx, fs, rfl, h, l, q⟩
theorem L_only {c : Value} {ts : Addr → Value → Option Addr → TS} {Wout : WX} {D : Ends} {cls : Value} {d : Option Addr} (h : PySem.W.exmOne K cls c = some true) (q : ∀ a, H a = none → ts a cls d D σ H) : wOnly K c ts Wout D cls d σ H := ⟨true, h, fun _ => q, fun z => nomatch z⟩
end
/-- no whole number: another kind of thing, or a truth -/
def NotW (K : PySem.W.Frag) (H : Hp) (v : V) : Prop := (∃ b, v = .bl b) ∨ ∃ a, TyX K H v (.type a) ∧ kitB a "int" = some false
/-- what is_whole denies -/
def BadW (K : PySem.W.Frag) (H : Hp) (v : V) (lo hi : Int) : Prop := NotW K H v ∨ ∃ t, v = .int t ∧ ¬ (lo ≤ t ∧ t ≤ hi)
section
variable {K : PySem.W.Frag} {H : Hp}
theorem notw_non : NotW K H .non := .inr ⟨_, .base .non, by decide +kernel⟩
theorem notw_bl {b : Bool} : NotW K H (.bl b) := .inl ⟨b, rfl⟩
theorem notw_str {z : Str} : NotW K H (.str z) := .inr ⟨_, .base (.str z), by decide +kernel⟩
theorem notw_lst {a : Addr} {xs : List V} (h : H a = some (.lst xs)) : NotW K H (.ref a) := .inr ⟨_, .base (.lst h), by decide +kernel⟩
theorem notw_tup {a : Addr} {xs : List V} (h : H a = some (.tup xs)) : NotW K H (.ref a) := .inr ⟨_, .base (.tup h), by decide +kernel⟩
theorem notw_dK {a : Addr} {xs : List (Key × V)} (h : H a = some (.dK xs)) : NotW K H (.ref a) := .inr ⟨_, .base (.dK h), by decide +kernel⟩
theorem badw_int {t lo hi : Int} (h : ¬ (lo ≤ t ∧ t ≤ hi)) : BadW K H (.int t) lo hi := .inr ⟨t, rfl, h⟩
theorem NotW.bad {v : V} {lo hi : Int} (h : NotW K H v) : BadW K H v lo hi := .inl h
end
section
variable {K : PySem.W.Frag} {H H' : Hp}
theorem tyx_T {a : Addr} {xs : List V} (h : SqT K H a xs) : TyX K H (.ref a) (.type "tuple") := by
  rcases h with (h | ⟨o, h⟩) | ⟨o, _, _, h, c, _⟩
  · exact .base (.tup h)
  · exact .fTuple h
  · exact .kTuple h c
theorem tyx_L {a : Addr} {xs : List V} (h : SqL K H a xs) : TyX K H (.ref a) (.type "list") := by
  rcases h with (h | ⟨o, h⟩) | ⟨o, _, _, h, c, _⟩
  · exact .base (.lst h)
  · exact .base (.frz h)
  · exact .kList h c
variable {σ : L2.St} {Q : VK}
theorem L_sort2 {a : Addr} {x y : Int} (h : SqL K H a [V.int x, V.int y]) (q : ∀ p, H p = none → Q (.ref p) (upd H p (.lst [V.int (min x y), V.int (max x y)]))) : rSorted K [.ref a] H Q := by
  refine ⟨a, [x, y], rfl, h, by simp, fun ns p hp hs hn => ?_⟩
  have hl := hp.length_eq
  match ns, hl with
  | [u, v], _ =>
    have hle : u ≤ v := by simpa using hs
    have hm : (u = x ∧ v = y) ∨ (u = y ∧ v = x) := by
      have h1 : u ∈ [x, y] := hp.mem_iff.mp (by simp)
      have h2 : v ∈ [x, y] := hp.mem_iff.mp (by simp)
      have h3 : x ∈ [u, v] := hp.mem_iff.mpr (by simp)
      have h4 : y ∈ [u, v] := hp.mem_iff.mpr (by simp)
      simp only [List.mem_cons, List.not_mem_nil, or_false] at h1 h2 h3 h4
      rcases h1 with h1 | h1 <;> rcases h2 with h2 | h2 <;> rcases h3 with h3 | h3 <;> rcases h4 with h4 | h4 <;> omega
    have e : [u, v] = [min x y, max x y] := by
      rcases hm with ⟨rfl, rfl⟩ | ⟨rfl, rfl⟩
      · rw [Int.min_eq_left hle, Int.max_eq_right hle]
      · rw [Int.min_eq_right hle, Int.max_eq_left hle]
    rw [e]
    exact q p hn
theorem L_list1 {a : Addr} {xs : List V} (h : SqL K H a xs) (q : ∀ l, H l = none → Q (.ref l) (upd H l (.lst xs))) : aList1 K [.ref a] H Q := ⟨a, xs, rfl, .inl h, q⟩
theorem L_tuple1 {a : Addr} {xs : List V} (h : SqL K H a xs) (q : ∀ l, H l = none → Q (.ref l) (upd H l (.tup xs))) : aTuple1 K [.ref a] H Q := ⟨a, xs, rfl, .inl ⟨h, q⟩⟩
theorem eqv_same {d : PyData} (h : SeqAt.shaped d = true) : PyData.eqv d d = true := SeqAt.eqv_refl d (SeqAt.canLay_of_shaped h)
theorem L_eqR {x y : V} {d : PyData} (hx : Dp K H x d) (hy : Dp K H y d) (s : SeqAt.shaped d = true) (q : Q (.bl true) H) : aEq K x y H Q := L_eqD hx hy s s (by rw [eqv_same s]; exact q)
theorem L_neR {x y : V} {d : PyData} (hx : Dp K H x d) (hy : Dp K H y d) (s : SeqAt.shaped d = true) (q : Q (.bl false) H) : aNe K x y H Q := L_neD hx hy s s (by rw [eqv_same s]; exact q)
theorem L_zipA {a b : Addr} {xs ys : List V} {R : Addr → Addr → Prop} (h1 : SqL K H a xs) (h2 : SqL K H b ys) (q : R a b) : ∃ a' b' xs ys, [V.ref a, V.ref b] = [.ref a', .ref b'] ∧ SqL K H a' xs ∧ SqL K H b' ys ∧ R a' b' := ⟨a, b, xs, ys, rfl, h1, h2, q⟩
end
/-- data that == may be asked of, at most n deep -/
structure Shp (n : Nat) (d : PyData) : Prop where
  c : d.canLay0 = true
  d : d.depth ≤ n
theorem Shp.ok {n : Nat} {d : PyData} (h : Shp n d) (hn : n ≤ 64 := by decide) : SeqAt.shaped d = true := by
  unfold SeqAt.shaped
  rw [h.c, decide_eq_true (Nat.le_trans h.d hn)]; rfl
theorem shp_int {n : Nat} {i : Int} : Shp n (.int i) := ⟨by simp [PyData.canLay0], by simp [PyData.depth]⟩
theorem shp_bl {n : Nat} {i : Bool} : Shp n (.bool i) := ⟨by simp [PyData.canLay0], by simp [PyData.depth]⟩
theorem shp_non {n : Nat} : Shp n .none := ⟨by simp [PyData.canLay0], by simp [PyData.depth]⟩
theorem shp_str {n : Nat} {z : Str} (h : PyData.strOk z = true) : Shp n (.str z) := ⟨by simpa [PyData.canLay0] using h, by simp [PyData.depth]⟩
theorem shp_all {n : Nat} : ∀ {ds : List PyData}, (∀ d ∈ ds, Shp n d) → PyData.canLayAll0 ds = true ∧ PyData.depthAll ds ≤ n
  | [], _ => ⟨by simp [PyData.canLayAll0], by simp [PyData.depthAll]⟩
  | d :: ds, h => by
    have h1 := h d (List.mem_cons_self ..)
    have h2 := shp_all fun x hx => h x (List.mem_cons_of_mem _ hx)
    exact ⟨by simp [PyData.canLayAll0, h1.c, h2.1], by simp only [PyData.depthAll]; exact Nat.max_le.mpr ⟨h1.d, h2.2⟩⟩
theorem shp_lst {n : Nat} {ds : List PyData} (h : ∀ d ∈ ds, Shp n d) : Shp (n + 1) (.list ds) := ⟨by simp only [PyData.canLay0]; exact (shp_all h).1, by simp only [PyData.depth]; have := (shp_all h).2; omega⟩
theorem shp_tup {n : Nat} {ds : List PyData} (h : ∀ d ∈ ds, Shp n d) : Shp (n + 1) (.tuple ds) := ⟨by simp only [PyData.canLay0]; exact (shp_all h).1, by simp only [PyData.depth]; have := (shp_all h).2; omega⟩
theorem shp_nil {n : Nat} : ∀ d ∈ ([] : List PyData), Shp n d := fun _ h => nomatch h
theorem shp_cons {n : Nat} {d : PyData} {ds : List PyData} (h : Shp n d) (t : ∀ d ∈ ds, Shp n d) : ∀ x ∈ d :: ds, Shp n x := fun x hx => by
  rcases List.mem_cons.mp hx with rfl | hx
  · exact h
  · exact t x hx
theorem shp_map {n : Nat} {α : Type} {f : α → PyData} {l : List α} (h : ∀ a ∈ l, Shp n (f a)) : ∀ d ∈ l.map f, Shp n d := fun d hd => by
  obtain ⟨a, ha, rfl⟩ := List.mem_map.mp hd
  exact h a ha
theorem shp_ints {n : Nat} {l : List Int} : Shp (n + 1) (.list (l.map .int)) := shp_lst (shp_map fun _ _ => shp_int)
theorem _root_.L2.Dp.ints {K : PySem.W.Frag} {H : Hp} {a : Addr} {ns : List Int} (h : SqL K H a (ns.map V.int)) : Dp K H (.ref a) (.list (ns.map .int)) := .lst h (dp_ints ns)
section
variable {K : PySem.W.Frag} {H : Hp} {Q : VK}
theorem L_powE {i j n : Int} (h : CPow i j) (e : i ^ j.toNat = n) (q : Q (.int n) H) : rI CPow (fun i j => .int (i ^ j.toNat)) (.int i) (.int j) H Q := ⟨i, j, rfl, rfl, h, by subst e; exact q⟩
/-- one of some ints -/
theorem L_menu {ns : List Int} {p : Addr} {i : Int} (h : SqL K H p (ns.map V.int)) (h0 : 0 ≤ i) (h1 : i < ns.length) (q : ∀ v ∈ ns, Q (.int v) H) : rIx K (.ref p) (.int i) H Q := by
  have hl : i.toNat < ns.length := by omega
  refine L_ixL h (atI_ints h0 h1) (q _ ?_)
  rw [List.getD_eq_getElem?_getD, List.getElem?_eq_getElem hl]
  exact List.getElem_mem hl
/-- an item of a list of ints, some property of all its items kept -/
theorem L_ixP {ns : List Int} {p : Addr} {i : Int} {P : Int → Prop} (h : SqL K H p (ns.map V.int)) (hP : ∀ v ∈ ns, P v) (h0 : 0 ≤ i) (h1 : i < ns.length) (q : ∀ v, P v → Q (.int v) H) : rIx K (.ref p) (.int i) H Q :=
  L_menu h h0 h1 fun v hv => q v (hP v hv)
end
theorem cdiv_lit {i j : Int} (h : 0 < j ∧ j < 1000000000000) : CDivW i j := (bd_64 (by omega)).cdiv h.1
theorem cpow_lit {i j : Int} (h : 0 ≤ j ∧ j ≤ 1000 ∧ -1000000 < i ∧ i < 1000000) : CPow i j := by
  have e : (2 : Nat) ^ 64 = 18446744073709551616 := by decide
  exact ⟨h.1, by omega, by omega⟩
theorem same_newE {H Hn : Hp} {p : Addr} {o : HO} (e : upd H p o = Hn) (h : H p = none) : Same H Hn := e ▸ same_new h
theorem upd_at {H Hn : Hp} {p : Addr} {o : HO} (e : upd H p o = Hn) : Hn p = some o := e ▸ upd_same
section
variable {K : PySem.W.Frag} {H H' : Hp} {p q : Addr} {us xs : List V} {ds : List PyData} {d : PyData} {y : V} {o : HO}
/-- a list grows: its things stand apart from it -/
theorem dp_grow (hdp : DpAll K (rs (· ≠ p) H) us ds) (s : Same H H') (hy : Dp K (rs (· ≠ p) H') y d) : DpAll K (rs (· ≠ p) (upd H' p o)) (us ++ [y]) (ds ++ [d]) :=
  (hdp.same (rs_same fun a u na ha => ⟨na, by rw [upd_ne na]; exact s _ _ ha⟩)).snoc (hy.same (rs_same fun a u na ha => ⟨na, by rw [upd_ne na]; exact ha⟩))
theorem dp_tupN (h : H q = some (.tup xs)) (n : q ≠ p) (ha : DpAll K (rs (· ≠ p) H) xs ds) : Dp K (rs (· ≠ p) H) (.ref q) (.tuple ds) := .tup (.of (rs_at n h)) ha
theorem dp_lstN (h : H q = some (.lst xs)) (n : q ≠ p) (ha : DpAll K (rs (· ≠ p) H) xs ds) : Dp K (rs (· ≠ p) H) (.ref q) (.list ds) := .lst (.of (rs_at n h)) ha
/-- data that stood ahead of p -/
theorem dp_old {H0 : Hp} (h : Dp K H0 y d) (n : H0 p = none) (s : Same H0 H) : Dp K (rs (· ≠ p) H) y d := h.same (rs_all fun a u ha => ⟨fun z => (by rw [z, n] at ha; cases ha), s _ _ ha⟩)
theorem dpA_old {H0 : Hp} (h : DpAll K H0 us ds) (n : H0 p = none) (s : Same H0 H) : DpAll K (rs (· ≠ p) H) us ds := h.same (rs_all fun a u ha => ⟨fun z => (by rw [z, n] at ha; cases ha), s _ _ ha⟩)
theorem dp_whole (h : DpAll K (rs (· ≠ p) H) us ds) (e : H p = some (.lst us)) : Dp K H (.ref p) (.list ds) := .lst (.of e) (h.same rs_sub)
theorem ne_new (h : H p = none) (h' : ∃ o, H q = some o) : p ≠ q := fun z => by
  obtain ⟨o, e⟩ := h'
  rw [z, e] at h; cases h
end
theorem fm_get {α β : Type} (g : α → β) : ∀ (l : List α), (List.range l.length).filterMap (fun i => l[i]?.map g) = l.map g
  | [] => rfl
  | a :: l => by
    have ih := fm_get g l
    rw [List.length_cons, List.range_succ_eq_map]
    simp only [List.filterMap_cons, List.getElem?_cons_zero, Option.map_some, List.filterMap_map, Function.comp_def, List.getElem?_cons_succ, List.map_cons]
    rw [ih]
theorem sum_take {α : Type} {l : List α} {f : α → Int} {i : Nat} {x : α} (h : l[i]? = some x) : ((l.take (i + 1)).map f).sum = ((l.take i).map f).sum + f x := by
  rw [List.take_succ, h]
  simp
theorem sum_takeAll {α : Type} {l : List α} {f : α → Int} {n : Nat} (h : l.length ≤ n) : ((l.take n).map f).sum = (l.map f).sum := by rw [List.take_of_length_le h]
/-! ### loops, the ends told one by one -/
section
variable {K : PySem.W.Frag} {σ : L2.St} {H : Hp} {g : TG} {tb : TS} {N : L2.St → Hp → Prop} {R : VK}
/-- what a for asks behind its iterable -/
abbrev ForT (J : It) (σ : L2.St) (H : Hp) (g : TG) (tb : TS) (N : L2.St → Hp → Prop) (R : VK) : Prop :=
  ∃ W : Nat → Nat → L2.St → Hp → Prop, (∃ m, W 0 m σ H) ∧ ∀ i m σ H, W i m σ H →
      (J.stop i H ∧ N σ H) ∨ (J.go i H ∧ ∃ M : L2.St → Hp → Prop, (∀ σ' H', M σ' H' → ∃ m', m' < m ∧ W (i + 1) m' σ' H') ∧ ∀ x H', J.yld i H x H' → g x σ H' fun σ2 H2 => tb ⟨M, R, N, M⟩ σ2 H2)
theorem f_it {J : It} {n : Nat} {G : Hp → Prop} {Y : Nat → Hp → V → Hp → Prop} (w : L2.Walk J n G Y) (Pv : Nat → L2.St → Hp → Prop) (h0 : Pv 0 σ H) (hG : ∀ i σ H, i ≤ n → Pv i σ H → G H)
    (hs : ∀ i x σ H H', i < n → Pv i σ H → Y i H x H' → g x σ H' fun σ2 H2 => tb ⟨Pv (i + 1), R, N, Pv (i + 1)⟩ σ2 H2) (hd : ∀ σ H, Pv n σ H → N σ H) : ForT J σ H g tb N R :=
  for_it (D := ⟨N, R, N, N⟩) w Pv h0 hG hs hd
theorem f_range {lo : Int} {n : Nat} (Pv : Nat → L2.St → Hp → Prop) (h0 : Pv 0 σ H)
    (hs : ∀ i σ H, i < n → Pv i σ H → g (.int (lo + i)) σ H fun σ2 H2 => tb ⟨Pv (i + 1), R, N, Pv (i + 1)⟩ σ2 H2) (hd : ∀ σ H, Pv n σ H → N σ H) : ForT (Itr lo n) σ H g tb N R :=
  for_range (D := ⟨N, R, N, N⟩) Pv h0 hs hd
theorem f_rangeC {lo c : Int} {n : Nat} (Pv : Nat → L2.St → Hp → Prop) (h0 : Pv 0 σ H)
    (hs : ∀ i σ H, i < n → Pv i σ H → g (.int (lo + (i : Nat) * c)) σ H fun σ2 H2 => tb ⟨Pv (i + 1), R, N, Pv (i + 1)⟩ σ2 H2) (hd : ∀ σ H, Pv n σ H → N σ H) : ForT (Itc lo c n) σ H g tb N R :=
  for_rangeC (D := ⟨N, R, N, N⟩) Pv h0 hs hd
theorem f_dp {a : Addr} {ds : List PyData} (h : Dp K H (.ref a) (.list ds)) (Pv : Nat → L2.St → Hp → Prop) (h0 : Pv 0 σ H) (hG : ∀ i σ' H', i ≤ ds.length → Pv i σ' H' → Same H H')
    (hs : ∀ i d x σ' H', i < ds.length → ds[i]? = some d → Pv i σ' H' → Dp K H' x d → g x σ' H' fun σ2 H2 => tb ⟨Pv (i + 1), R, N, Pv (i + 1)⟩ σ2 H2) (hd : ∀ σ' H', Pv ds.length σ' H' → N σ' H') : ForT (Itl K a) σ H g tb N R :=
  for_dp (D := ⟨N, R, N, N⟩) h Pv h0 hG hs hd
end
section
variable {σ σ' : L2.St} {H : Hp} {i : Nat} {v x : V} {B C : L2.St → Hp → Prop} {N : L2.St → Hp → Prop} {R : VK} {te : TE}
theorem L_gnameE {Q : L2.St → Hp → Prop} (e : σ.set i (some v) = σ') (h : Q σ' H) : gName i v σ H Q := by subst e; exact h
end
section
variable {K : PySem.W.Frag} {H H' : Hp} {σ : L2.St} {Q : VK} {te : TE} {tl th : TO}
theorem TyX_same {v : V} {t : Value} (e : Same H H') (h : TyX K H v t) : TyX K H' v t := by
  cases h with
  | base h =>
    refine .base ?_
    cases h with
    | non => exact .non
    | bl x => exact .bl x
    | int x => exact .int x
    | str x => exact .str x
    | flt x => exact .flt x
    | lst h => exact .lst (e _ _ h)
    | frz h => exact .frz (e _ _ h)
    | tup h => exact .tup (e _ _ h)
    | dK h => exact .dK (e _ _ h)
    | dT h => exact .dT (e _ _ h)
    | ins h cl ha hn htk hm => exact .ins (e _ _ h) cl ha hn htk hm
  | byt b => exact .byt b
  | set h => exact .set (e _ _ h)
  | kList h c => exact .kList h c
  | kTuple h c => exact .kTuple h c
  | kDict h c => exact .kDict h c
  | fTuple h => exact .fTuple (e _ _ h)
  | fDict h => exact .fDict (e _ _ h)
theorem NotW.same {v : V} (h : NotW K H v) (e : Same H H') : NotW K H' v := by
  rcases h with h | ⟨a, h1, h2⟩
  · exact .inl h
  · exact .inr ⟨a, TyX_same e h1, h2⟩
theorem BadW.same {v : V} {lo hi : Int} (h : BadW K H v lo hi) (e : Same H H') : BadW K H' v lo hi := by
  rcases h with h | h
  · exact .inl (h.same e)
  · exact .inr h
theorem L_sl {r : V → Option Int → Option Int → Hp → VK → Prop} (h : te σ H fun x H1 => tl σ H1 fun l H2 => th σ H2 fun u H3 => r x l u H3 Q) : L2.tSl r te tl th σ H Q := h
theorem L_noPart {R : Option Int → Hp → Prop} (h : R none H) : tNoPart σ H R := h
theorem L_part {t : TE} {R : Option Int → Hp → Prop} (h : t σ H fun x H1 => ∃ i, x = .int i ∧ R (some i) H1) : tPart t σ H R := h
theorem L_ki {i : Int} {R : Int → Prop} (h : R i) : ∃ j, V.int i = V.int j ∧ R j := ⟨i, rfl, h⟩
theorem L_slL {a : Addr} {xs : List V} {lo hi : Option Int} (h : SqL K H a xs) (q : ∀ p, H p = none → Q (.ref p) (upd H p (.lst (cutV xs lo hi)))) : rSlL K (.ref a) lo hi H Q := ⟨a, xs, rfl, h, q⟩
end
def cutG {α : Type} (xs : List α) (lo hi : Option Int) : List α := (xs.drop (HT.sIx xs.length 0 lo)).take (HT.sIx xs.length xs.length hi - HT.sIx xs.length 0 lo)
theorem cutV_map {α : Type} (f : α → V) (xs : List α) (lo hi : Option Int) : cutV (xs.map f) lo hi = (cutG xs lo hi).map f := by
  unfold cutV cutG
  rw [List.length_map, List.map_take, List.map_drop]
theorem cutG_mem {α : Type} {xs : List α} {lo hi : Option Int} {x : α} (h : x ∈ cutG xs lo hi) : x ∈ xs := List.mem_of_mem_drop (List.mem_of_mem_take h)
theorem cutG_len {α : Type} (xs : List α) (lo hi : Option Int) : (cutG xs lo hi).length ≤ xs.length := by
  unfold cutG
  rw [List.length_take, List.length_drop]
  omega
section
variable {K : PySem.W.Frag} {H : Hp} {Q : VK}
/-- one of some things -/
theorem L_menuV {xs : List V} {p : Addr} {i : Int} (h : SqL K H p xs) (h0 : 0 ≤ i) (h1 : i < xs.length) (q : ∀ v ∈ xs, Q v H) : rIx K (.ref p) (.int i) H Q := by
  have hl : i.toNat < xs.length := by omega
  exact L_ixL h (atI_int h0 (List.getElem?_eq_getElem hl)) (q _ (List.getElem_mem hl))
end
theorem hpL {K : PySem.W.Frag} {H : Hp} {a : Addr} {xs : List V} (h : H a = some (.lst xs)) : SqL K H a xs := .of h
theorem hpT {K : PySem.W.Frag} {H : Hp} {a : Addr} {xs : List V} (h : H a = some (.tup xs)) : SqT K H a xs := .of h
theorem bd_mod {x n : Int} (h : 0 < n ∧ n < 18446744073709551616) : Bd 64 (x % n) := bd_64 (by
  have h1 := Int.emod_nonneg x (show n ≠ 0 by omega)
  have h2 := Int.emod_lt_of_pos x h.1
  omega)
theorem hp_from {H0 H : Hp} {p : Addr} {o : HO} (h : H0 p = some o) (e : Same H0 H) : H p = some o := e _ _ h
theorem same_via {H H1 H2 : Hp} (b : Same H1 H2) (a : Same H H1) : Same H H2 := a.trans b
theorem same_upd' {H H' : Hp} {a : Addr} {o : HO} (h : H' a = none) (e : Same H H') : Same H (upd H' a o) := same_upd e h
theorem same_mut' {H H' : Hp} {a : Addr} {o : HO} (h : H a = none) (e : Same H H') : Same H (upd H' a o) := same_mut e h
section
variable {K : PySem.W.Frag} {H : Hp} {σ : L2.St} {Q : VK}
theorem L_clear {a : Addr} {xs : List V} (h : H a = some (.lst xs)) (q : Q .non (upd H a (.lst []))) : rClear (.ref a) [] H Q := ⟨a, xs, rfl, rfl, h, q⟩
theorem L_dnew (h : ∀ p, H p = none → Q (.ref p) (upd H p (.dK []))) : tDNewK σ H Q := h
/-- no list -/
def NotL (K : PySem.W.Frag) (H : Hp) (v : V) : Prop := ∃ a, TyX K H v (.type a) ∧ kitB a "list" = some false
theorem notl_tup {a : Addr} {xs : List V} (h : SqT K H a xs) : NotL K H (.ref a) := ⟨_, tyx_T h, by decide +kernel⟩
theorem notl_non : NotL K H .non := ⟨_, .base .non, by decide +kernel⟩
theorem notl_int {i : Int} : NotL K H (.int i) := ⟨_, .base (.int i), by decide +kernel⟩
theorem notl_bl {i : Bool} : NotL K H (.bl i) := ⟨_, .base (.bl i), by decide +kernel⟩
theorem notl_str {i : Str} : NotL K H (.str i) := ⟨_, .base (.str i), by decide +kernel⟩
theorem notl_dK {a : Addr} {xs : List (Key × V)} (h : H a = some (.dK xs)) : NotL K H (.ref a) := ⟨_, .base (.dK h), by decide +kernel⟩
theorem NotL.same {H' : Hp} {v : V} (h : NotL K H v) (e : Same H H') : NotL K H' v := by
  obtain ⟨a, h1, h2⟩ := h
  exact ⟨a, TyX_same e h1, h2⟩
end
theorem rep1 (x : Int) : ∀ n : Nat, (List.replicate n [V.int x]).flatten = (List.replicate n x).map V.int
  | 0 => rfl
  | n + 1 => by rw [List.replicate_succ, List.flatten_cons, rep1 x n]; rfl
section
variable {K : PySem.W.Frag} {H : Hp} {Q : VK}
theorem L_neB {i j : Bool} (q : Q (.bl (!decide (i = j))) H) : aNe K (.bl i) (.bl j) H Q := .inl ⟨rfl, by rw [show decide (V.bl i = V.bl j) = decide (i = j) by simp]; exact q⟩
end
/-! ### for x in xs: check(x) -/
section
variable {K : PySem.W.Frag} {σ : L2.St} {H : Hp} {N : L2.St → Hp → Prop} {R : VK} {a : Addr} {xs : List V} {sp : Sp} {ES : L2.St → XK} {i : Nat} {c : Value}
theorem set_self (σ : L2.St) (i : Nat) (hi : i < σ.length) : ∃ v, σ = σ.set i v := ⟨σ[i], by simp⟩
theorem L_forChk (hL : SqL K H a xs) (hi : i < σ.length) (hok : ∀ x ∈ xs, ∀ Q E, Q .non H → sp [x] H Q E) (q : ∀ v, N (σ.set i v) H) : ForT (Itl K a) σ H (gName i) (tDrop (tCallS sp ES (tCons (tVar i) tNil))) N R := by
  refine f_it walk_list (fun _ σ' H' => H' = H ∧ ∃ v, σ' = σ.set i v) ⟨rfl, set_self σ i hi⟩ (fun _ _ _ _ p => p.1 ▸ hL) ?_ ?_
  · rintro j x σ' H' H'' hj ⟨rfl, v, rfl⟩ ⟨rfl, e⟩
    refine L_gname (L_drop (L_callS (L_cons (L_var (v := x) ?_ (L_nil (hok x (List.mem_of_getElem? e) _ _ ?_))))))
    · simp [hi]
    · exact ⟨rfl, some x, by rw [List.set_set]⟩
  · rintro σ' H' ⟨rfl, v, rfl⟩
    exact q v
theorem L_forChkX (hL : SqL K H a xs) (hi : i < σ.length) (hx : ∀ x ∈ xs, (∀ Q E, Q .non H → sp [x] H Q E) ∨ ∀ Q E, E c none H → sp [x] H Q E) (hb : ∃ x ∈ xs, ∀ Q E, E c none H → sp [x] H Q E) (q : ∀ v, ES (σ.set i v) c none H) :
    ForT (Itl K a) σ H (gName i) (tDrop (tCallS sp ES (tCons (tVar i) tNil))) N R := by
  obtain ⟨x0, hx0, hb0⟩ := hb
  obtain ⟨j0, hj0⟩ := List.mem_iff_getElem?.mp hx0
  refine f_it walk_list (fun j σ' H' => H' = H ∧ (∃ v, σ' = σ.set i v) ∧ ∃ k x, j ≤ k ∧ xs[k]? = some x ∧ ∀ Q E, E c none H → sp [x] H Q E) ⟨rfl, set_self σ i hi, j0, x0, Nat.zero_le _, hj0, hb0⟩ (fun _ _ _ _ p => p.1 ▸ hL) ?_ ?_
  · rintro j x σ' H' H'' hj ⟨rfl, ⟨v, rfl⟩, k, y, hk, hy, hby⟩ ⟨rfl, e⟩
    refine L_gname (L_drop (L_callS (L_cons (L_var (v := x) ?_ (L_nil ?_)))))
    · simp [hi]
    · by_cases hc : ∀ Q E, E c none H'' → sp [x] H'' Q E
      · exact hc _ _ (by rw [List.set_set]; exact q _)
      · refine (hx x (List.mem_of_getElem? e)).resolve_right hc _ _ ⟨rfl, ⟨some x, by rw [List.set_set]⟩, k, y, ?_, hy, hby⟩
        rcases Nat.lt_or_eq_of_le hk with hlt | rfl
        · exact hlt
        · rw [e] at hy
          cases hy
          exact absurd hby hc
  · rintro σ' H' ⟨rfl, ⟨v, rfl⟩, k, y, hk, hy, hby⟩
    have := (List.getElem?_eq_some_iff.mp hy).1
    omega
end
theorem L_bm0 {K : PySem.W.Frag} {σ : L2.St} {H : Hp} {Q : VK} {te : TE} {T : String} {r : V → List V → Hp → VK → Prop} (h : te σ H fun x H1 => tyV K T x H1 ∧ r x [] H1 Q) : tBM0 K T r te σ H Q := h
/-- what an expression's ways have in common -/
theorem L_via {P : VK → Prop} {Q : VK} (R : V → Hp → Prop) (key : ∀ Q : VK, (∀ v H', R v H' → Q v H') → P Q) (q : ∀ v H', R v H' → Q v H') : P Q := key Q q
section
variable {K : PySem.W.Frag} {H : Hp} {σ : L2.St} {Q : VK} {ta tb : TE}
theorem L_disp1 (h : ∀ p, H p = none → ta σ (upd H p (.dK [])) fun k H1 => tb σ H1 fun v H2 => H2 p = some (.dK []) ∧ ∃ kvs : List (Key × V), [(k, v)] = kvs.map (fun kv => (kV kv.1, kv.2)) ∧ kvs.length ≤ 15 ∧ Q (.ref p) (upd H2 p (.dK (mergeK [] kvs)))) : tDisp [(ta, tb)] σ H Q := h
theorem L_dispE1 {p : Addr} {k v : V} (kk : Key) (e : k = kV kk) (h : H p = some (.dK [])) (q : Q (.ref p) (upd H p (.dK [(kk, v)]))) : H p = some (.dK []) ∧ ∃ kvs : List (Key × V), [(k, v)] = kvs.map (fun kv => (kV kv.1, kv.2)) ∧ kvs.length ≤ 15 ∧ Q (.ref p) (upd H p (.dK (mergeK [] kvs))) :=
  ⟨h, [(kk, v)], by rw [e]; rfl, by simp, q⟩
/-- a sign of a text -/
theorem L_ixSany {z : Str} {i : Int} (hz : z.length ≤ 1000000) (h0 : 0 ≤ i) (h1 : i < z.length) (q : ∀ a ∈ z.cps.toList, Q (.str ⟨#[a]⟩) H) : rIx K (.str z) (.int i) H Q := by
  have hl : i.toNat < z.cps.toList.length := by
    have e : z.cps.toList.length = z.length := by rw [Array.length_toList]; rfl
    omega
  have h3 : z.cps.toList[i.toNat]? = some z.cps.toList[i.toNat] := List.getElem?_eq_getElem hl
  refine L_ixS (sz_dec hz) (a := z.cps.toList[i.toNat]) ?_ (q _ (List.getElem_mem hl))
  obtain ⟨j, rfl⟩ : ∃ j : Nat, i = (j : Int) := ⟨i.toNat, by omega⟩
  exact atI_nat h3
theorem L_inR {i lo hi : Int} {a : Addr} (h : H a = some (.rng lo hi)) (q : Q (.bl (decide (lo ≤ i ∧ i < hi))) H) : (∃ i' a' lo hi, V.int i = V.int i' ∧ V.ref a = V.ref a' ∧ H a' = some (.rng lo hi) ∧ Q (.bl (decide (lo ≤ i' ∧ i' < hi))) H) := ⟨i, a, lo, hi, rfl, rfl, h, q⟩
theorem L_rng2 {i j : Int} (q : ∀ p, H p = none → Q (.ref p) (upd H p (.rng i j))) : (∃ i' j', [V.int i, V.int j] = [V.int i', V.int j'] ∧ ∀ p, H p = none → Q (.ref p) (upd H p (.rng i' j'))) := ⟨i, j, rfl, q⟩
/-- no text -/
def NotS (K : PySem.W.Frag) (H : Hp) (v : V) : Prop := ∃ a, TyX K H v (.type a) ∧ kitB a "str" = some false
theorem nots_tup {a : Addr} {xs : List V} (h : SqT K H a xs) : NotS K H (.ref a) := ⟨_, tyx_T h, by decide +kernel⟩
theorem nots_lst {a : Addr} {xs : List V} (h : SqL K H a xs) : NotS K H (.ref a) := ⟨_, tyx_L h, by decide +kernel⟩
theorem nots_non : NotS K H .non := ⟨_, .base .non, by decide +kernel⟩
theorem nots_int {i : Int} : NotS K H (.int i) := ⟨_, .base (.int i), by decide +kernel⟩
theorem nots_bl {i : Bool} : NotS K H (.bl i) := ⟨_, .base (.bl i), by decide +kernel⟩
theorem nots_dK {a : Addr} {xs : List (Key × V)} (h : H a = some (.dK xs)) : NotS K H (.ref a) := ⟨_, .base (.dK h), by decide +kernel⟩
theorem NotS.same {H' : Hp} {v : V} (h : NotS K H v) (e : Same H H') : NotS K H' v := by
  obtain ⟨a, h1, h2⟩ := h
  exact ⟨a, TyX_same e h1, h2⟩
end
theorem len1 (a : Nat) : (⟨#[a]⟩ : Str).length = 1 := rfl
theorem str_len_append (a b : Str) : (a ++ b).length = a.length + b.length := Array.size_append
theorem str_len {z : Str} : z.cps.toList.length = z.length := by rw [Array.length_toList]; rfl
theorem one_lt {c d : Nat} : ([c] : List Nat) < [d] ↔ c < d := by
  rw [List.cons_lt_cons_iff]
  constructor
  · rintro (h | ⟨_, h⟩)
    · exact h
    · exact absurd h (List.not_lt_nil _)
  · exact .inl
theorem str_app_list (a b : Str) : (a ++ b).cps.toList = a.cps.toList ++ b.cps.toList := Array.toList_append
theorem eqv_nil {ds : List PyData} : PyData.eqv (.list ds) (.list []) = ds.isEmpty := by
  cases ds <;> simp [PyData.eqv, PyData.eqvAll]
theorem strOk_of {z : Str} (h : ∀ c ∈ z.cps.toList, c < 1114112) : PyData.strOk z = true := by
  show (z.cps.all (· < 0x110000)) = true
  rw [← Array.all_toList, List.all_eq_true]
  intro c hc
  exact decide_eq_true (h c hc)
theorem L_nnT {A B : Prop} (a : A) : if (!!true) = true then A else B := L_T a
theorem L_nnF {A B : Prop} (b : B) : if (!!false) = true then A else B := L_F b
theorem bd_128 {i : Int} (h : -340282366920938463463374607431768211456 < i ∧ i < 340282366920938463463374607431768211456) : Bd 128 i := by
  unfold Bd
  have : (2 : Nat) ^ 128 = 340282366920938463463374607431768211456 := by decide
  omega
/-! ### an exception that was caught, held by a name beyond the clause -/
/-- an exception of the class cls at a, its own dict d -/
def ExI (cls : Value) (d : Option Addr) (a : Addr) : HO := .ext fun h => ∃ (oe : Obj) (vs : Array Value), h.get? a = some oe ∧ Zc cls d oe ∧ oe.data = .fields vs
section
variable {X : Cx} {pins : List (Addr × Obj)} {σ : L2.St} {H : Hp} {s : Shared}
theorem track {a : Addr} {d : Option Addr} {cls : Value} {oe : Obj} {vs : Array Value} (I : Inv X pins σ H s) (na : H a = none) (he : s.heap.get? a = some oe) (z : Zc cls d oe) (hd : oe.data = .fields vs) (n0 : X.s_0.heap.get? a = none)
    (nL : a ≠ X.env.locals) (np : ∀ p ∈ X.pn ++ pins, p.1 ≠ a) : Inv X pins σ (upd H a (ExI cls d a)) s where
  ok := I.ok
  os := I.os
  bare := I.bare
  base := {
    keep := I.base.keep
    slot := I.base.slot
    free := fun b o e n hx => by
      rw [upd_ne (fun z => by rw [z, n0] at e; cases e)]
      exact I.base.free b o e n hx
    there := I.base.there
    tups := fun b xs q => by
      have t := I.base.tups b xs q
      rw [upd_ne (ne_of_none t na)]; exact t
    frzs := fun b o u q => by
      have t := I.base.frzs b o u q
      rw [upd_ne (ne_of_none t na)]; exact t
    tbls := fun b ps q => by
      obtain ⟨more, t⟩ := I.base.tbls b ps q
      exact ⟨more, by rw [upd_ne (ne_of_none t na)]; exact t⟩ }
  loc := I.loc
  cell := I.cell
  free := by rw [upd_ne nL.symm]; exact I.free
  freeC := fun x c e => by
    obtain ⟨v, o, ho, hc⟩ := I.cell x c e
    rw [upd_ne (fun z => by rw [z, he] at ho; cases ho; rw [hd] at hc; cases hc)]
    exact I.freeC x c e
  pin := fun p hp => by
    obtain ⟨h1, h2, h3⟩ := I.pin p hp
    exact ⟨h1, by rw [upd_ne (np p hp)]; exact h2, h3⟩
  hok := fun b o e => by
    by_cases hb : b = a
    · cases hb
      rw [upd_same] at e
      cases e
      exact ⟨⟨oe, vs, he, z, hd⟩, ⟨oe, he⟩, fun _ _ ⟨o1, v1, q, r⟩ k => ⟨o1, v1, k o1 q, r⟩⟩
    · rw [upd_ne hb] at e
      exact (I.hok b o e).stay (fun _ _ _ q => q) (fun c q => by rw [upd_ne (ne_of_none q na)]; exact q) fun c xs q => by rw [upd_ne (ne_of_none q na)]; exact q
  len := I.len
end
/-- what 'except x as n' wishes of an exception, which is tracked behind the suite -/
def wAsT (K : PySem.W.Frag) (c : Value) (i : Nat) (ts : Addr → Value → Option Addr → TS) (Wout : WX) (D : Ends) : WX := fun cls d σ H =>
  ∃ b, PySem.W.exmOne K cls c = some b ∧
    (b = true → ∀ a, H a = none → ts a cls d ⟨fun σ' H' => H' a = none → D.nx (σ'.set i none) (upd H' a (ExI cls d a)), D.rt, fun σ' H' => D.bk (σ'.set i none) H', fun σ' H' => D.ct (σ'.set i none) H'⟩ (σ.set i (some (.ref a))) H) ∧
    (b = false → Wout cls d σ H)
section
variable {X : Cx} {x n : Str} {c : Value} {i : Nat} {body suite : List Stmt} {b₀ : Stmt} {np pos pos' : Pos} {tb : WX → TS} {ts : Addr → Value → Option Addr → TS} {Wout : WX}
theorem ps_try_asT (hs : X.stack = X.env :: X.outer) (hf : X.env.frame = some X.env.locals) (hN : X.N.Nodup) (hi : X.N[i]? = some n) (hln : X.env.kindOf n = some .local) (hex : X.ex = []) (hc : Names X x c) (tk : Takes X Wout)
    (hb : ∀ (W : WX) (pn : List (Addr × Obj)) (xe : Value → Shared → Prop), Takes (X.tr pn xe) W → PassesOwn (model X.prog X.w) X.A X.env xe → PSs (X.tr pn xe) body (tb W))
    (hsu : ∀ (a : Addr) (oe : Obj) (cls : Value) (d : Option Addr) (pn : List (Addr × Obj)), Zc cls d oe → (∃ vs, oe.data = .fields vs) → PSs (X.suite a ((a, oe) :: pn)) (b₀ :: suite) (ts a cls d)) :
    PS X (.Try body [.ExceptHandler (some (.Name x np)) (some n) (b₀ :: suite) pos'] [] [] pos) (fun D σ H => tb (wAsT X.K c i ts Wout D) D σ H) := by
  constructor
  intro pins s0 σ0 H0 D I0 start
  have okX := I0.ok
  have frames : X.A.frames = some (X.env :: X.outer) := by
    rw [okX.frames, hs]
  apply wpAny_Try_except
  -- what is raised in the body is looked at by the clause
  let look : Value → Shared → Prop := fun e t1 => wpAny (model X.prog X.w) X.A (noteFrame e X.env) (fun _ t2 => wpAny (model X.prog X.w) X.A (setFlight e none)
    (fun _ t3 => wpAny (model X.prog X.w) X.A (handleBy e X.env [.ExceptHandler (some (.Name x np)) (some n) (b₀ :: suite) pos']) (SP X pins D) X.xe t3) X.xe t2) X.xe t1
  have caught : Takes (X.tr (X.pn ++ pins) look) (wAsT X.K c i ts Wout D) := by
    intro u s' air
    obtain ⟨a, B, sI, pins', σ', H', cls, d, rfl, K', nb, up, sky, na, os, ag, b, exm, yes, no⟩ := air
    have K0 : Inv X pins σ' H' sI := K'.ofTry okX
    have sky1 : Sky B (X.env :: X.outer) a (Zc cls d) X.env.locals s'.heap := hs ▸ sky
    show wpAny (model X.prog X.w) X.A (noteFrame (.ref a) X.env) _ _ _
    apply Sky.land Zc.steady frames hf sky1
    intro h3 fl3 up3
    have J3 : Inv X pins σ' H' { s' with heap := h3 } := K0.landed nb fl3.1 (up.trans up3) os ag
    obtain ⟨oe3, vs3, at3, z3, data3⟩ := fl3.there
    have offFrames : a ∉ frs (X.env :: X.outer) := fun hm => by
      obtain ⟨_, o', there', hnf⟩ := fl3.2.2.1.mem hm
      rw [at3] at there'
      cases there'
      exact hnf _ data3
    have nL : a ≠ X.env.locals := fun e => offFrames (List.mem_filterMap.mpr ⟨X.env, List.mem_cons_self, by rw [hf, e]⟩)
    have nF : a ∉ X.fs := fun hm => by
      obtain ⟨e, he, q⟩ := List.mem_filterMap.mp hm
      exact offFrames (List.mem_filterMap.mpr ⟨e, List.mem_cons_of_mem _ he, q⟩)
    -- a is new: it stood neither at the try's entry nor at the def's
    have newB : B.get? a = none := fl3.2.1
    have newI : sI.heap.get? a = none := by
      cases q : sI.heap.get? a with
      | none => rfl
      | some o =>
        have := nb a o q (by rw [hs]; exact offFrames)
        rw [newB] at this
        cases this
    have new0 : X.s_0.heap.get? a = none := by
      cases q : X.s_0.heap.get? a with
      | none => rfl
      | some o =>
        obtain ⟨o', q'⟩ := K0.base.there a o q (by rw [hex]; exact List.not_mem_nil)
        rw [newI] at q'
        cases q'
    have apart : ∀ p ∈ X.pn ++ pins, p.1 ≠ a := fun p hp e => by
      have := (K0.pin p hp).1
      rw [e, newI] at this
      cases this
    have S3 := J3.suite at3 data3 na nL nF
    apply wpAny_handleBy_cons _ (by intro q; cases q)
    apply codeAny_handlers_test
    have tyA : PySem.W.Looks (model X.prog X.w) h3 (typeOf (.ref a)) cls := fun A Q E t k q => wpAny_typeOf_ref (k _ _ at3) (by rw [z3.1]; exact q)
    have matched := PySem.W.exm_one (M := model X.prog X.w) (J3.kIn) tyA exm
    have named : ∀ {Q : Value → Shared → Prop} {E : Value → Shared → Prop}, Q c { s' with heap := h3 } → wpAny (model X.prog X.w) (X.A.mark (some (.ref a))) (eval (.Name x np) X.env) Q E { s' with heap := h3 } := by
      intro Q E q
      obtain ⟨hg, hdbg, hm⟩ := hc
      rcases hm with hm | ⟨hm, hv, hnn⟩
      · exact ld_glob (X := X.suite a ((a, oe3) :: (X.pn ++ pins))) S3 hg hm q hdbg
      · exact ld_blt (X := X.suite a ((a, oe3) :: (X.pn ++ pins))) S3 hg hm hv q hnn hdbg
    apply named
    apply matched.here
    cases b with
    | true =>
      apply codeAny_handlers_suite_as
      apply HandSPX.lands_againZ fl3
      intro h4 fl4 up4
      have J4 : Inv X pins σ' H' { s' with heap := h4 } := K0.landed nb fl4.1 ((up.trans up3).trans up4) os ag
      obtain ⟨oe4, vs4, at4, z4, data4⟩ := fl4.there
      have S4 := J4.suite at4 data4 na nL nF
      refine store_ok (X := X.suite a ((a, oe4) :: (X.pn ++ pins))) (v := .ref a) S4 hN hi (.inl hln) rfl (fun s5 S5 => ?_) (.inr hln)
      refine wpAny_mono ((hsu a oe4 cls d (X.pn ++ pins) z4 ⟨_, data4⟩).run [] s5 _ H' _ S5 (yes rfl a na)) (fun f s6 hsp => ?_) (fun _ _ z => z.elim)
      -- out of the suite, the exception still pinned
      have out : ∀ {σ6 : L2.St} {H6 : Hp} {Q : Shared → Prop}, Inv (X.suite a ((a, oe4) :: (X.pn ++ pins))) [] σ6 H6 s6 → (∀ s7, Inv X pins (σ6.set i none) H6 s7 → H6 a = none → s7.heap.get? a = some oe4 → Q s7) →
          wpAny (model X.prog X.w) X.A (do bindName X.env n .none; unbindBehindTheSuite X.env n pos') (fun _ s7 => Q s7) X.xe s6 := fun {σ6 H6 Q} S6 hq => by
        have P6 : Inv X ((a, oe4) :: pins) σ6 H6 s6 := { S6.unsuite okX with
          pin := fun p hp => S6.pin p (by
            rcases List.mem_append.mp hp with hp | hp
            · exact List.mem_append_left _ (List.mem_cons_of_mem _ (List.mem_append_left _ hp))
            · rcases List.mem_cons.mp hp with e | hp
              · rw [e]; exact List.mem_append_left _ List.mem_cons_self
              · exact List.mem_append_left _ (List.mem_cons_of_mem _ (List.mem_append_right _ hp))) }
        refine gone_ok P6 hN hi hln fun s7 P7 => ?_
        have pinned := P7.pin (a, oe4) (List.mem_append_right _ List.mem_cons_self)
        refine hq s7 { P7 with pin := fun p hp => P7.pin p ?_ } pinned.2.1 pinned.1
        rcases List.mem_append.mp hp with hp | hp
        · exact List.mem_append_left _ hp
        · exact List.mem_append_right _ (List.mem_cons_of_mem _ hp)
      match f, hsp with
      | .next, ⟨σ6, H6, S6, q6⟩ => exact out S6 fun s7 J7 n6 a6 => ⟨_, _, track J7 n6 a6 z4 data4 new0 nL apart, q6 n6⟩
      | .brk, ⟨σ6, H6, S6, q6⟩ => exact out S6 fun s7 J7 _ _ => ⟨_, _, J7, q6⟩
      | .cont, ⟨σ6, H6, S6, q6⟩ => exact out S6 fun s7 J7 _ _ => ⟨_, _, J7, q6⟩
      | .ret u, ⟨v6, σ6, H6, S6, r6, q6⟩ => exact out S6 fun s7 J7 _ _ => ⟨_, _, _, J7, r6, q6⟩
    | false =>
      show wpAny _ X.A (handleBy (.ref a) X.env []) _ _ _
      apply wpAny_handleBy_nil
      obtain ⟨_, _, _, oe, vs, T, oT, ts', he, hz, hd, h1, hr⟩ := id fl3
      unfold PySem.passOn
      refine wpAny_bind (wpAny_field he hd h1 ?_)
      rw [if_neg (show ¬ ((Value.ref T == Value.none) = true) from by simp)]
      have on : wpAny (model X.prog X.w) X.A (setFlight (.ref a) X.env.frame) (fun _ s4 => wpAny (model X.prog X.w) X.A (throw (.ref a) : Sem Flow) (SP X pins D) X.xe s4) X.xe { s' with heap := h3 } := by
        rw [hf]
        apply HandSPX.setFlight_upZ fl3
        intro h4 held4 up4
        apply wpAny_throw
        apply tk
        exact ⟨a, B, sI, pins, σ', H', cls, d, rfl, K0, nb, (up.trans up3).trans up4, .inr (.inr (by rw [hs]; exact held4)), na, os, ag, no rfl⟩
      first
        | exact wpAny_bind (wpAny_pure (wpAny_bind on))
        | exact wpAny_bind on
  refine wpAny_mono ((hb (wAsT X.K c i ts Wout D) (X.pn ++ pins) look caught PassesOwn.looking).run [] s0 σ0 H0 D (I0.toTry _) start) (fun f s1 hsp => ?_) (fun e s1 he => he)
  match f, hsp with
  | .next, ⟨σ1, H1, J1, q⟩ => exact wpAny_execs_nil ⟨σ1, H1, J1.ofTry okX, q⟩
  | .brk, ⟨σ1, H1, J1, q⟩ => exact ⟨σ1, H1, J1.ofTry okX, q⟩
  | .cont, ⟨σ1, H1, J1, q⟩ => exact ⟨σ1, H1, J1.ofTry okX, q⟩
  | .ret u, ⟨v, σ1, H1, J1, r, q⟩ => exact ⟨v, σ1, H1, J1.ofTry okX, r, q⟩
end
/-- isinstance of a caught exception that a name holds -/
def rIsX (K : PySem.W.Frag) : List V → Hp → VK → Prop := fun xs H Q => ∃ (a D : Addr) (c : V) (u : Value) (b : Bool), xs = [.ref a, c] ∧ H a = some (ExI (.ref D) none a) ∧ L2.ExcC K D ∧ ClsV c u ∧ PySem.W.kitOne K (.ref D) u = some b ∧ Q (.bl b) H
def rIsXT (K : PySem.W.Frag) : List V → Hp → VK → Prop := fun xs H Q => ∃ (a D tp : Addr) (cs : List V) (us : List Value) (b : Bool), xs = [.ref a, .ref tp] ∧ H a = some (ExI (.ref D) none a) ∧ L2.ExcC K D ∧ H tp = some (.tup cs) ∧ Paired ClsV cs us ∧ PySem.W.kitAny K (.ref D) us = some b ∧ Q (.bl b) H
section
variable {X : Cx} {pins : List (Addr × Obj)} {σ : L2.St} {H : Hp} {s : Shared}
theorem exI_at {a D : Addr} (I : Inv X pins σ H s) (h : H a = some (ExI (.ref D) none a)) : ∃ oe, PySem.W.InstAt s.heap a oe D none := by
  obtain ⟨⟨oe, vs, q1, ⟨q2, q3⟩, q4⟩, _⟩ := I.hok a _ h
  obtain ⟨oc, od, oda, osl⟩ := oe
  dsimp only at q2 q3 q4
  subst q2 q3 q4
  exact ⟨_, q1, rfl, rfl, trivial⟩
theorem call_isX : CallR X (.builtin "isinstance") (rIsX X.K) := by
  intro pins s σ H xs us Q I r h
  obtain ⟨a, D, c, u, b, rfl, hx, C, k, e, q⟩ := h
  obtain ⟨u1, u2, rfl, r1, r2⟩ := vals2 r
  cases r1
  cases k.eq r2
  obtain ⟨oe, J⟩ := exI_at I hx
  exact PySem.W.kia_one (PySem.W.handS_kitx_exc C.hg C.hk C.hs C.hd C.ha C.hn C.ht C.hm) I.kIn J e (fun z => nomatch z) fun tk => ⟨.bl b, H, I.tok tk, rfl, q⟩
theorem call_isXT : CallR X (.builtin "isinstance") (rIsXT X.K) := by
  intro pins s σ H xs us Q I r h
  obtain ⟨a, D, tp, cs, ws, b, rfl, hx, C, hT, k, e, q⟩ := h
  obtain ⟨u1, u2, rfl, r1, r2⟩ := vals2 r
  cases r1
  cases (show u2 = Value.ref tp from r2)
  obtain ⟨oe, J⟩ := exI_at I hx
  obtain ⟨_, its, rv, o, h1, h2, n, h3⟩ := (show ObjOk X.prog X.w H s.heap tp (.tup cs) from I.hok tp _ hT)
  have e3 := ClsV.all k rv
  subst e3
  obtain ⟨oc, od, dt, sl⟩ := o
  simp only at h2 h3
  subst h2 h3
  exact PySem.W.kia_tup (PySem.W.handS_kitx_exc C.hg C.hk C.hs C.hd C.ha C.hn C.ht C.hm) I.kIn J h1 e (fun z => nomatch z) fun tk => ⟨.bl b, H, I.tok tk, rfl, q⟩
end
section
variable {K : PySem.W.Frag} {H : Hp} {Q : VK} {C D : Addr} {b : Bool}
theorem kit_ref (hD : PySem.W.subIn K (.ref D) (.ref D) = some true) (k : ExcK K C) (h : PySem.W.subIn K (.ref D) (.ref C) = some b) : PySem.W.kitOne K (.ref D) (.ref C) = some b := by
  unfold PySem.W.kitOne
  by_cases e : D = C
  · subst e
    rw [hD] at h
    cases h
    rw [if_pos (by simp)]
  · rw [if_neg (by simpa using e)]
    have h2 : (PySem.W.clsIn K C).isSome = true := k.i
    show (if ((PySem.W.clsIn K C).isSome && PySem.W.typeIn K (.ref C) == some (.type "type")) = true then PySem.W.subIn K (.ref D) (.ref C) else none) = some b
    rw [if_pos (by rw [h2, k.t]; rfl)]
    exact h
theorem kit_typ {T : String} (hm : PySem.W.kitMeta T = true) (h : PySem.W.subIn K (.ref D) (.type T) = some b) : PySem.W.kitOne K (.ref D) (.type T) = some b := by
  unfold PySem.W.kitOne
  rw [if_neg (by simp)]
  show (if PySem.W.kitMeta T = true then PySem.W.subIn K (.ref D) (.type T) else none) = some b
  rw [if_pos hm]
  exact h
theorem L_isX {a : Addr} {c : V} {u : Value} (h : H a = some (ExI (.ref D) none a)) (C : L2.ExcC K D) (k : ClsV c u) (e : PySem.W.kitOne K (.ref D) u = some b) (q : Q (.bl b) H) : rIsX K [.ref a, c] H Q := ⟨a, D, c, u, b, rfl, h, C, k, e, q⟩
theorem L_isXT {a tp : Addr} {cs : List V} {us : List Value} (h : H a = some (ExI (.ref D) none a)) (C : L2.ExcC K D) (hT : H tp = some (.tup cs)) (k : Paired ClsV cs us) (e : PySem.W.kitAny K (.ref D) us = some b) (q : Q (.bl b) H) : rIsXT K [.ref a, .ref tp] H Q := ⟨a, D, tp, cs, us, b, rfl, h, C, hT, k, e, q⟩
theorem kit_none : ∀ {us : List Value}, (∀ u ∈ us, PySem.W.kitOne K (.ref D) u = some false) → PySem.W.kitAny K (.ref D) us = some false
  | [], _ => rfl
  | u :: us, h => by
    unfold PySem.W.kitAny
    rw [h u (List.mem_cons_self ..)]
    exact kit_none fun x hx => h x (List.mem_cons_of_mem _ hx)
theorem L_asT {c : Value} {i : Nat} {ts : Addr → Value → Option Addr → TS} {Wout : WX} {D : Ends} {σ : L2.St} {cls : Value} {d : Option Addr} (h : PySem.W.exmOne K cls c = some true)
    (q : ∀ a, H a = none → ts a cls d ⟨fun σ' H' => H' a = none → D.nx (σ'.set i none) (upd H' a (ExI cls d a)), D.rt, fun σ' H' => D.bk (σ'.set i none) H', fun σ' H' => D.ct (σ'.set i none) H'⟩ (σ.set i (some (.ref a))) H) : wAsT K c i ts Wout D cls d σ H :=
  ⟨true, h, fun _ => q, fun z => nomatch z⟩
end
/-! ### lists of numbers, and what is none -/
def BadNs (K : PySem.W.Frag) (H : Hp) (v : V) (lo hi : Int) : Prop := NotL K H v ∨ ∃ a xs, v = .ref a ∧ SqL K H a xs ∧ (24 < xs.length ∨ ((∀ x ∈ xs, (∃ t, x = .int t ∧ lo ≤ t ∧ t ≤ hi) ∨ BadW K H x lo hi) ∧ ∃ x ∈ xs, BadW K H x lo hi))
def GoodNs (K : PySem.W.Frag) (H : Hp) (v : V) (ts : List Int) (lo hi : Int) : Prop := ∃ a, v = .ref a ∧ SqL K H a (ts.map V.int) ∧ ts.length ≤ 24 ∧ ∀ t ∈ ts, lo ≤ t ∧ t ≤ hi
section
variable {K : PySem.W.Frag} {H H' : Hp} {v : V} {lo hi : Int} {ts : List Int}
theorem BadNs.same (h : BadNs K H v lo hi) (e : Same H H') : BadNs K H' v lo hi := by
  rcases h with h | ⟨a, xs, h1, h2, h3⟩
  · exact .inl (h.same e)
  · refine .inr ⟨a, xs, h1, e.seq h2, ?_⟩
    rcases h3 with h3 | ⟨h3, x, h4, h5⟩
    · exact .inl h3
    · exact .inr ⟨fun x hx => (h3 x hx).imp id fun b => b.same e, x, h4, h5.same e⟩
theorem GoodNs.same (h : GoodNs K H v ts lo hi) (e : Same H H') : GoodNs K H' v ts lo hi := by
  obtain ⟨a, h1, h2, h3, h4⟩ := h
  exact ⟨a, h1, e.seq h2, h3, h4⟩
theorem bad_one {a : Addr} {x : V} (h : H a = some (.lst [x])) (b : BadW K H x lo hi) : BadNs K H (.ref a) lo hi := .inr ⟨a, _, rfl, .of h, .inr ⟨fun y hy => by rw [List.mem_singleton.mp hy]; exact .inr b, x, List.mem_singleton.mpr rfl, b⟩⟩
theorem good_ns {a : Addr} (h : H a = some (.lst (ts.map V.int))) (hl : ts.length ≤ 24) (hb : ∀ t ∈ ts, lo ≤ t ∧ t ≤ hi) : GoodNs K H (.ref a) ts lo hi := ⟨a, rfl, .of h, hl, hb⟩
theorem int_of_mem {x : V} (h : x ∈ ts.map V.int) : ∃ t ∈ ts, x = .int t := by
  obtain ⟨t, h1, h2⟩ := List.mem_map.mp h
  exact ⟨t, h1, h2.symm⟩
theorem getD_of {i : Nat} {t : Int} (h : ts[i]? = some t) : ts.getD i 0 = t := by rw [List.getD_eq_getElem?_getD, h]; rfl
theorem fm_int {f : Nat → Option Int} {n : Nat} : (List.range n).filterMap (fun i => (f i).map V.int) = ((List.range n).filterMap f).map V.int := by
  rw [List.map_filterMap]
end
/-- pairs of ints as data -/
def d2 (r : Int × Int) : PyData := .tuple [.int r.1, .int r.2]
section
variable {K : PySem.W.Frag} {H : Hp} {v : V} {us : List V} {rows : List (Int × Int)}
theorem of_d2 {r : Int × Int} (h : Dp K H v (d2 r)) : ∃ a, v = .ref a ∧ SqT K H a [.int r.1, .int r.2] := by
  obtain ⟨a, x, y, rfl, h1, h2, h3⟩ := of_t2 h
  rw [of_int h2, of_int h3] at h1
  exact ⟨a, rfl, h1⟩
theorem hit2 (hA : DpAll K H us (rows.map d2)) {i : Nat} {x : V} (hx : us[i]? = some x) : ∃ r t, rows[i]? = some r ∧ x = V.ref t ∧ SqT K H t [.int r.1, .int r.2] := by
  obtain ⟨d, h1, h2⟩ := hA.of hx
  rw [List.getElem?_map] at h1
  obtain ⟨r, h3, rfl⟩ := Option.map_eq_some_iff.mp h1
  obtain ⟨t, rfl, h4⟩ := of_d2 h2
  exact ⟨r, t, h3, rfl, h4⟩
theorem shp_d2s : SeqAt.shaped (.list (rows.map d2)) = true := (shp_lst (n := 1) (shp_map fun r _ => shp_tup (n := 0) (shp_cons shp_int (shp_cons shp_int shp_nil)))).ok
end
theorem cutG_take {α : Type} (xs : List α) (n : Nat) : cutG xs none (some (n : Int)) = xs.take n := by
  unfold cutG
  rw [HT.sIx_none, HT.sIx_nat, List.drop_zero, Nat.sub_zero]
  rcases Nat.le_total n xs.length with h | h
  · rw [Nat.min_eq_left h]
  · rw [Nat.min_eq_right h, List.take_of_length_le (Nat.le_refl _), List.take_of_length_le h]
theorem cutG_drop {α : Type} (xs : List α) (n : Nat) : cutG xs (some (n : Int)) none = xs.drop n := by
  unfold cutG
  rw [HT.sIx_none, HT.sIx_nat]
  rcases Nat.le_total n xs.length with h | h
  · rw [Nat.min_eq_left h, List.take_of_length_le (by rw [List.length_drop]; exact Nat.le_refl _)]
  · rw [Nat.min_eq_right h, List.drop_of_length_le (Nat.le_refl _), List.drop_of_length_le h, List.take_nil]
theorem strOk_lit {z : Str} (h : PyData.strOk z = true) : PyData.strOk z = true := h
theorem dpa_app {K : PySem.W.Frag} {H : Hp} : ∀ {ds es : List PyData} {vs us : List V}, DpAll K H (vs ++ us) (ds ++ es) → vs.length = ds.length → DpAll K H vs ds ∧ DpAll K H us es
  | [], _, [], _, h, _ => ⟨.nil, h⟩
  | [], _, _ :: _, _, _, e => by simp at e
  | _ :: _, _, [], _, _, e => by simp at e
  | d :: ds, _, v :: vs, _, h, e => by
    cases h with
    | cons h1 h2 =>
      obtain ⟨a, b⟩ := dpa_app h2 (by simpa using e)
      exact ⟨.cons h1 a, b⟩
theorem nn_ints_or {K : PySem.W.Frag} {H : Hp} {x : V} {ts : List Int} {lo hi : Int} (hb : ∀ t ∈ ts, lo ≤ t ∧ t ≤ hi) (h : x ∈ ts.map V.int) : (∃ t, x = .int t ∧ lo ≤ t ∧ t ≤ hi) ∨ BadW K H x lo hi := by
  obtain ⟨t, ht, e⟩ := int_of_mem h
  exact .inl ⟨t, e, hb t ht⟩
theorem rep_len {α : Type} (xs : List α) : ∀ n : Nat, (List.replicate n xs).flatten.length = n * xs.length
  | 0 => by simp
  | n + 1 => by rw [List.replicate_succ, List.flatten_cons, List.length_append, rep_len xs n, Nat.succ_mul, Nat.add_comm]
/-! ### exceptions whose own __init__ asks their base's by its name -/
/-- S.__init__, S an own class, is ValueError's -/
structure BaseI (K : PySem.W.Frag) (S : Addr) : Prop where
  rd : PySem.W.readsIn K S (.type "type") = true
  ga : PySem.W.specialIn K (.ref S) "__getattribute__" = some (some (.builtin "type.__getattribute__"))
  vi : PySem.W.findCls K (.ref S) (.type "type") "__init__" = some (.val (.builtin "ValueError.__init__"))
structure XIniAt (K : PySem.W.Frag) (C : Addr) (qual : Str) (st : Stmt) (ps : List Str) : Prop where
  ex : ∃ (f : Addr) (fd : FuncData), Fun K "__init__" qual st f fd ∧ PySem.W.findIn K (.ref C) "__init__" = some (some (.ref f)) ∧ PySem.W.isFn K (.ref f) = true ∧ Binds K fd ps []
/-- an exception that may be made by its class's name -/
structure XMak (P : Program) (w : World) (K : PySem.W.Frag) (mg : Str → Option Value) (base : Heap) (k : Nat) (x : Str) (C : Addr) (sp : Sp) : Prop where
  ex : ∃ (f : Addr) (fd : FuncData) (ps : List Str), FnOk P w K mg base CX0 k f fd ps sp ∧ PySem.W.findIn K (.ref C) "__init__" = some (some (.ref f)) ∧ PySem.W.typeIn K (.ref f) = some (.type "function") ∧ mg x = some (.ref C) ∧ Binds K fd ps []
section
variable {P : Program} {w : World} {K : PySem.W.Frag} {mg : Str → Option Value} {base : Heap}
theorem XIniAt.xmak {x : Str} {C : Addr} {qual : Str} {st : Stmt} {N ps : List Str} {k : Nat} {sp : Sp} (hx : mg x = some (.ref C)) (d : XIniAt K C qual st ps) (S : FnScope N ps (defScope st)) (len : ∀ vs H Q E, sp vs H Q E → vs.length = ps.length)
    (hbody : ∀ (f : Addr) (cdv : Value) (A : Around) (outer : List Env) (s : Shared) (H : Hp) (vs : List V) (Q : VK) (E : XK), Room k (A.deeper (envOfC qual (defScope st) s.heap.objs.size f cdv)) → sp vs H Q E →
      ∃ t, PSs (cxOf CX0 P w K mg base N qual (defScope st) f cdv A outer s H E).nox (defBody st) t ∧ t { nx := fun _ H' => Q .non H', rt := Q } (start N vs) H) : XMak P w K mg base (k + 1) x C sp := by
  obtain ⟨f, fd, F, h1, h2, b⟩ := d.ex
  exact ⟨f, fd, ps, F.ok S len (hbody f), h1, beq_iff_eq.mp h2, hx, b⟩
end
section
variable {X : Cx} {k j : Nat} {C S : Addr} {x : Str} {sp : Sp} {p p1 p2 pos : Pos} {e : Expr} {es : List Expr} {ta : TA}
theorem pmk_x (c : XMak X.prog X.w X.K X.mg X.base k x C sp) (T : OexC X.K C) (hr : Room j X.A) (hk : k + 1 ≤ j) (hg : Gl X x) (ha : PA X (e :: es) ta)
    (hdb : (x == ("__debug__" : Str)) = false := by decide) (he : starEach (e :: es) X.env = (false, eval e X.env) :: starEach es X.env := by rfl) (hpl : (backTo pos (starEach es X.env)).any (·.1) = false := by rfl) :
    PMk X (.Call (.Name x p) (e :: es) [] pos) (tMkO C sp [] ta) := by
  obtain ⟨f, fd, ps, F, h1, h2, hm, b⟩ := c.ex
  exact pmk_oex T h1 h2 F (hr.mono hk) b .nil pass0 hg hm ha hdb he hpl
theorem pe_baseI {pl : Sem Bool} (hg : Gl X x) (hm : X.mg x = some (.ref S)) (B : BaseI X.K S) (ha : PA X (e :: es) ta)
    (hc : eval (.Call (.Attribute (.Name x p1) "__init__" p2) (e :: es) [] pos) X.env = (do
      let ov ← eval (.Name x p1) X.env
      standAt p2.atName
      let (f, first) ← holding [ov] (getMethod ov "__init__" pl)
      callWith pos f first (backTo pos (starEach (e :: es) X.env)) (backToKw pos (keywordEach [] X.env))) := by rfl)
    (hdb : (x == ("__debug__" : Str)) = false := by decide) (he : starEach (e :: es) X.env = (false, eval e X.env) :: starEach es X.env := by rfl) (hpl : (backTo pos (starEach es X.env)).any (·.1) = false := by rfl) :
    PE X (.Call (.Attribute (.Name x p1) "__init__" p2) (e :: es) [] pos) (tVeI X.K ta) := by
  constructor
  intro pins s σ H Q I h
  have asked : ∀ s1, Inv X pins σ H s1 → wpAny (model X.prog X.w) X.A (callWith pos (Value.builtin "ValueError.__init__") [] (backTo pos (starEach (e :: es) X.env)) []) (EP X pins σ Q) X.xe s1 := fun s1 I1 =>
    PyProof.Rows.callWith_method1 (thn (ha.run pos pins s1 σ H _ I1 h) fun us s2 ⟨vs, H2, I2, r, a, D, ws, evs, few, T, atA, q⟩ => by
      subst evs
      cases r with
      | @cons _ u0 _ ur r0 rr =>
        obtain rfl : u0 = Value.ref a := r0
        have few' : ur.length ≤ sizeLine := by
          have := Paired.length rr
          have := sizeLine_eq
          omega
        exact oinit_ok T I2 atA few' fun s3 I3 => ⟨.non, H2, I3, rfl, q⟩) he hpl
  refine PySem.W.methodCall_KW (ld_glob I hg hm ?_ hdb) hc
  refine PySem.W.method_cls I.kIn B.ga (PySem.W.cls_value I.kIn B.rd B.vi (by decide +kernel) ?_)
  exact asked _ (I.tok _)
end
section
variable {K : PySem.W.Frag} {σ : L2.St} {H : Hp} {D : Ends} {C a : Addr} {f : Str} {y : V} {ta : TA} {te to : TE}
theorem L_veI {R : Hp → Prop} {ws : List V} (T : OexC K C) (h : H a = some (exo a C none)) (l : ws.length ≤ 1000) (q : R H) : ∃ (a' C : Addr) (ws' : List V), V.ref a :: ws = .ref a' :: ws' ∧ ws'.length ≤ 1000 ∧ OexC K C ∧ H a' = some (exo a' C none) ∧ R H := ⟨a, C, ws, rfl, l, T, h, q⟩
theorem L_tveI {Q : VK} (h : ta σ H fun vs H1 => ∃ (a C : Addr) (ws : List V), vs = .ref a :: ws ∧ ws.length ≤ 1000 ∧ OexC K C ∧ H1 a = some (exo a C none) ∧ Q .non H1) : tVeI K ta σ H Q := h
theorem L_ost (h : te σ H fun y H1 => to σ H1 fun x H2 => ∃ a C : Addr, x = .ref a ∧ OexC K C ∧ PySem.W.findIn K (.ref C) f = some none ∧
  ((H2 a = some (exo a C none) ∧ ∀ dx, H2 dx = none → dx ≠ a → D.nx σ (upd (upd H2 dx (exd dx [(f, y)])) a (exo a C (some dx)))) ∨
    ∃ (dx : Addr) (fs : List (Str × V)), H2 a = some (exo a C (some dx)) ∧ H2 dx = some (exd dx fs) ∧ fs.length ≤ 900 ∧ D.nx σ (upd H2 dx (exd dx ((f, y) :: fs))))) : tOst K f to te D σ H := h
theorem L_ost1 {R : Hp → Prop} (T : OexC K C) (nf : PySem.W.findIn K (.ref C) f = some none) (h : H a = some (exo a C none)) (q : ∀ dx, H dx = none → dx ≠ a → R (upd (upd H dx (exd dx [(f, y)])) a (exo a C (some dx)))) :
    ∃ a' C : Addr, V.ref a = .ref a' ∧ OexC K C ∧ PySem.W.findIn K (.ref C) f = some none ∧
  ((H a' = some (exo a' C none) ∧ ∀ dx, H dx = none → dx ≠ a' → R (upd (upd H dx (exd dx [(f, y)])) a' (exo a' C (some dx)))) ∨
    ∃ (dx : Addr) (fs : List (Str × V)), H a' = some (exo a' C (some dx)) ∧ H dx = some (exd dx fs) ∧ fs.length ≤ 900 ∧ R (upd H dx (exd dx ((f, y) :: fs)))) := ⟨a, C, rfl, T, nf, .inl ⟨h, q⟩⟩
/-- what an __init__ with one field keeps -/
def XIni1 (C : Addr) (f : Str) (a : Addr) (v : V) (H : Hp) (Q : VK) : Prop := H a = some (exo a C none) ∧ ∀ d, H d = none → d ≠ a → Q .non (upd (upd H d (exd d [(f, v)])) a (exo a C (some d)))
/-- C(v) is raised -/
theorem L_mkO1 {sp : Sp} {E : XK} {v : V} (hs : ∀ a H Q E, XIni1 C f a v H Q → sp [.ref a, v] H Q E) (q : ∀ d, H d = none → E (.ref C) (some d) (upd H d (.xd [(f, v)]))) : [v].length ≤ 1000 ∧ ∀ a, H a = none → sp (.ref a :: ([v] ++ [])) (upd H a (exo a C none))
  (fun v H2 => v = .non ∧ ∃ (d : Addr) (fs : List (Str × V)), H2 a = some (exo a C (some d)) ∧ H2 d = some (exd d fs) ∧ H d = none ∧ E (.ref C) (some d) (upd (del H2 a) d (.xd fs))) (fun _ _ _ => False) := by
  refine ⟨by rw [List.length_singleton]; decide, fun a na => hs a _ _ _ ⟨upd_same, fun d nd ne => ⟨rfl, d, [(f, v)], upd_same, ?_, ?_, ?_⟩⟩⟩
  · rw [upd_ne ne, upd_same]
  · rw [upd_ne ne] at nd
    exact nd
  · rw [upd_ne ne] at nd
    have z : upd (del (upd (upd (upd H a (exo a C none)) d (exd d [(f, v)])) a (exo a C (some d))) a) d (.xd [(f, v)]) = upd H d (.xd [(f, v)]) := by
      funext b
      by_cases hb : b = d
      · rw [hb, upd_same, upd_same]
      · rw [upd_ne hb, upd_ne hb]
        by_cases ha : b = a
        · rw [ha, del_same, na]
        · rw [del_ne ha, upd_ne ha, upd_ne hb, upd_ne ha]
    rw [z]
    exact q d nd
theorem L_mkO {sp : Sp} {dvs : List V} {Q : XK} (h : ta σ H fun vs H1 => vs.length ≤ 1000 ∧ ∀ a, H1 a = none → sp (.ref a :: (vs ++ dvs)) (upd H1 a (exo a C none))
  (fun v H2 => v = .non ∧ ∃ (d : Addr) (fs : List (Str × V)), H2 a = some (exo a C (some d)) ∧ H2 d = some (exd d fs) ∧ H1 d = none ∧ Q (.ref C) (some d) (upd (del H2 a) d (.xd fs))) (fun _ _ _ => False)) : tMkO C sp dvs ta σ H Q := h
end
/-- isinstance(e, c) in e's own suite, whatever its dict -/
def rIsS (K : PySem.W.Frag) (a : Addr) (cls : Value) (d : Option Addr) : List V → Hp → VK → Prop := fun xs H Q => ∃ (D : Addr) (c : V) (u : Value) (b : Bool), xs = [.ref a, c] ∧ cls = .ref D ∧ (∀ dd, d = some dd → ∃ fs, H dd = some (.xd fs)) ∧ L2.ExcC K D ∧ ClsV c u ∧ PySem.W.kitOne K (.ref D) u = some b ∧ Q (.bl b) H
theorem call_isS {X : Cx} {a : Addr} {cls : Value} {d : Option Addr} {oe : Obj} {pn : List (Addr × Obj)} (hz : Zc cls d oe) (hf : ∃ vs, oe.data = .fields vs) : CallR (X.suite a ((a, oe) :: pn)) (.builtin "isinstance") (rIsS X.K a cls d) := by
  intro pins s σ H xs us Q I r h
  obtain ⟨D, c, u, b, rfl, rfl, hd, C, k, e, q⟩ := h
  obtain ⟨u1, u2, rfl, r1, r2⟩ := vals2 r
  cases r1
  cases k.eq r2
  obtain ⟨there, _⟩ := I.pin (a, oe) (List.mem_append_left _ List.mem_cons_self)
  obtain ⟨vs, data⟩ := hf
  have J : ∃ od, PySem.W.InstAt s.heap a oe D od := by
    have nc : PySem.W.notCls oe = true := by unfold PySem.W.notCls; rw [data] <;> rfl
    cases d with
    | none => exact ⟨none, there, hz.1, nc, by rw [hz.2]; exact True.intro⟩
    | some dd =>
      obtain ⟨fs, hdd⟩ := hd dd rfl
      obtain ⟨mA, ⟨o, es, ep, ho, _⟩, _⟩ := (show ObjOk X.prog X.w H s.heap dd (.xd fs) from I.hok dd _ hdd)
      exact ⟨some o, there, hz.1, nc, by rw [hz.2]; exact ho⟩
  obtain ⟨od, J⟩ := J
  obtain ⟨cd, hcd, _⟩ := PySem.W.any_some C.hd
  exact PySem.W.kia_one (PySem.W.kitx_exc (show (PySem.W.clsIn _ D).isSome = true by rw [hcd]; rfl) C.hg C.hk C.hs C.ha C.hn C.ht C.hm) I.kIn J e (fun z => nomatch z) fun tk => ⟨.bl b, H, I.tok tk, rfl, q⟩
theorem L_isS {K : PySem.W.Frag} {H : Hp} {Q : VK} {a D : Addr} {d : Option Addr} {c : V} {u : Value} {b : Bool} (hd : ∀ dd, d = some dd → ∃ fs, H dd = some (.xd fs)) (C : L2.ExcC K D) (k : ClsV c u) (e : PySem.W.kitOne K (.ref D) u = some b) (q : Q (.bl b) H) : rIsS K a (.ref D) d [.ref a, c] H Q := ⟨D, c, u, b, rfl, rfl, hd, C, k, e, q⟩
/-- one of two derivations -/
def tOrE (t1 t2 : TE) : TE := fun σ H Q => t1 σ H Q ∨ t2 σ H Q
theorem PE.or {X : Cx} {e : Expr} {t1 t2 : TE} (h1 : PE X e t1) (h2 : PE X e t2) : PE X e (tOrE t1 t2) :=
  ⟨fun pins s σ H Q I h => h.elim (fun h => h1.run pins s σ H Q I h) (fun h => h2.run pins s σ H Q I h)⟩
/-- what isinstance asks of an instance's own class; of the class it is asked of -/
structure InsC (K : PySem.W.Frag) (C : Addr) : Prop where
  ha : PySem.W.findIn K (.ref C) "__class__" = some (some (.builtin "object.__class__"))
  hn : PySem.W.specialIn K (.builtin "object.__class__") "__get__" = some (some (.builtin "getset_descriptor.__get__"))
  ht : PySem.W.takesIn K (.builtin "object.__class__") = some true
  hm : PySem.W.mroIn K C (.type "object") = some true
structure ClsT (K : PySem.W.Frag) (C : Addr) : Prop where
  i : PySem.W.isClsIn K C = true
  t : PySem.W.typeIn K (.ref C) = some (.type "type")
theorem tyx_I {K : PySem.W.Frag} {H : Hp} {a C dx : Addr} {fs : List (Str × V)} (h : H a = some (.ins C dx fs)) (cl : Cls K C) (c : InsC K C) : TyX K H (.ref a) (.ref C) := .base (.ins h cl c.ha c.hn c.ht c.hm)
theorem kit_own {K : PySem.W.Frag} {C D : Addr} {b : Bool} (hD : PySem.W.subIn K (.ref D) (.ref D) = some true) (k : ClsT K C) (h : PySem.W.subIn K (.ref D) (.ref C) = some b) : PySem.W.kitOne K (.ref D) (.ref C) = some b := by
  unfold PySem.W.kitOne
  by_cases e : D = C
  · subst e
    rw [hD] at h
    cases h
    rw [if_pos (by simp)]
  · rw [if_neg (by simpa using e)]
    have h2 : (PySem.W.clsIn K C).isSome = true := k.i
    show (if ((PySem.W.clsIn K C).isSome && PySem.W.typeIn K (.ref C) == some (.type "type")) = true then PySem.W.subIn K (.ref D) (.ref C) else none) = some b
    rw [if_pos (by rw [h2, k.t]; rfl)]
    exact h
theorem kit_not {K : PySem.W.Frag} {T : String} {C : Addr} {b : Bool} (k : ClsT K C) (h : PySem.W.subIn K (.type T) (.ref C) = some b) : PySem.W.kitOne K (.type T) (.ref C) = some b := by
  unfold PySem.W.kitOne
  rw [if_neg (by simp)]
  have h2 : (PySem.W.clsIn K C).isSome = true := k.i
  show (if ((PySem.W.clsIn K C).isSome && PySem.W.typeIn K (.ref C) == some (.type "type")) = true then PySem.W.subIn K (.type T) (.ref C) else none) = some b
  rw [if_pos (by rw [h2, k.t]; rfl)]
  exact h
theorem L_orl {t1 t2 : TE} {σ : L2.St} {H : Hp} {Q : VK} (h : t1 σ H Q) : tOrE t1 t2 σ H Q := .inl h
theorem L_orr {t1 t2 : TE} {σ : L2.St} {H : Hp} {Q : VK} (h : t2 σ H Q) : tOrE t1 t2 σ H Q := .inr h
theorem L_xf {a C : Addr} {cls : Value} {d : Option Addr} {f : Str} {te : TE} {σ : L2.St} {H : Hp} {Q : VK} (h : te σ H fun x H1 => x = .ref a ∧ cls = .ref C ∧ ∃ (dd : Addr) (fs : List (Str × V)) (v : V), d = some dd ∧ H1 dd = some (.xd fs) ∧ fs.lookup f = some v ∧ Q v H1) : tXf a cls d C f te σ H Q := h
theorem ExcC.xf {K : PySem.W.Frag} {C : Addr} (c : L2.ExcC K C) : XfC K C := ⟨c.hg, c.hk, c.hs, c.hd⟩
theorem L_isC {K : PySem.W.Frag} {H : Hp} {Q : VK} {x : V} {T : Value} {C : Addr} {b : Bool} (ty : TyX K H x T) (e : PySem.W.kitOne K T (.ref C) = some b) (q : Q (.bl b) H) : rIsi K [x, .ref C] H Q := ⟨x, .ref C, T, .ref C, b, rfl, .own C, ty, e, q⟩
theorem L_str1 {H : Hp} {Q : VK} {t : Int} (h : 0 ≤ t ∧ t ≤ 1000) (q : Q (.str (toString t)) H) : aStr1 [.int t] H Q := ⟨t, rfl, by have := Nat.log2_le_self t.natAbs; omega, q⟩
theorem str_short : ∀ t : Int, 0 ≤ t → t ≤ 100 → (↑(toString t) : Str).length ≤ 3 := by
  have h : ∀ n ∈ List.range 101, (↑(toString ((n : Nat) : Int)) : Str).length ≤ 3 := by decide +kernel
  intro t h0 h1
  have := h t.toNat (List.mem_range.mpr (by omega))
  rwa [Int.toNat_of_nonneg h0] at this

/-! ### exceptions held as values -/
/-- at a: an exception of the own class D, not raised; fs: its own fields -/
def XVal (H : Hp) (a D : Addr) (fs : List (Str × V)) : Prop := (fs = [] ∧ H a = some (ExI (.ref D) none a)) ∨ ∃ d, H a = some (exo a D (some d)) ∧ H d = some (exd d fs)
theorem XVal.same {H H' : Hp} {a D : Addr} {fs : List (Str × V)} (h : XVal H a D fs) (s : Same H H') : XVal H' a D fs := by
  rcases h with ⟨h1, h2⟩ | ⟨d, h1, h2⟩
  · exact .inl ⟨h1, s _ _ h2⟩
  · exact .inr ⟨d, s _ _ h1, s _ _ h2⟩
theorem xval_inst {X : Cx} {pins : List (Addr × Obj)} {σ : L2.St} {H : Hp} {s : Shared} {a D : Addr} {fs : List (Str × V)} (I : Inv X pins σ H s) (h : XVal H a D fs) : ∃ oe od, PySem.W.InstAt s.heap a oe D od := by
  rcases h with ⟨_, h⟩ | ⟨d, h1, h2⟩
  · obtain ⟨oe, J⟩ := exI_at I h
    exact ⟨oe, none, J⟩
  · obtain ⟨t1, ho⟩ := exo_at I.hok h1
    obtain ⟨mA, ⟨o, _, _, hd, _⟩, _⟩ := exd_at I.hok h2
    exact ⟨_, some o, ho, rfl, rfl, hd⟩
def rIsV (K : PySem.W.Frag) : List V → Hp → VK → Prop := fun xs H Q => ∃ (a D : Addr) (fs : List (Str × V)) (c : V) (u : Value) (b : Bool), xs = [.ref a, c] ∧ XVal H a D fs ∧ L2.ExcC K D ∧ ClsV c u ∧ PySem.W.kitOne K (.ref D) u = some b ∧ Q (.bl b) H
theorem call_isV {X : Cx} : CallR X (.builtin "isinstance") (rIsV X.K) := by
  intro pins s σ H xs us Q I r h
  obtain ⟨a, D, fs, c, u, b, rfl, hx, C, k, e, q⟩ := h
  obtain ⟨u1, u2, rfl, r1, r2⟩ := vals2 r
  cases r1
  cases k.eq r2
  obtain ⟨oe, od, J⟩ := xval_inst I hx
  obtain ⟨cd, hcd, _⟩ := PySem.W.any_some C.hd
  exact PySem.W.kia_one (PySem.W.kitx_exc (show (PySem.W.clsIn _ D).isSome = true by rw [hcd]; rfl) C.hg C.hk C.hs C.ha C.hn C.ht C.hm) I.kIn J e (fun z => nomatch z) fun tk => ⟨.bl b, H, I.tok tk, rfl, q⟩
theorem L_isV {K : PySem.W.Frag} {H : Hp} {Q : VK} {a D : Addr} {fs : List (Str × V)} {c : V} {u : Value} {b : Bool} (h : XVal H a D fs) (C : L2.ExcC K D) (k : ClsV c u) (e : PySem.W.kitOne K (.ref D) u = some b) (q : Q (.bl b) H) : rIsV K [.ref a, c] H Q := ⟨a, D, fs, c, u, b, rfl, h, C, k, e, q⟩
/-- e.f, e such a value -/
def tXv (K : PySem.W.Frag) (f : Str) (te : TE) : TE := fun σ H Q => te σ H fun x H1 => ∃ (a D d : Addr) (fs : List (Str × V)) (v : V), x = .ref a ∧ L2.ExcC K D ∧ PySem.W.findIn K (.ref D) f = some none ∧ H1 a = some (exo a D (some d)) ∧ H1 d = some (exd d fs) ∧ fs.lookup f = some v ∧ Q v H1
theorem L_xv {K : PySem.W.Frag} {f : Str} {te : TE} {σ : L2.St} {H : Hp} {Q : VK} (h : te σ H fun x H1 => ∃ (a D d : Addr) (fs : List (Str × V)) (v : V), x = .ref a ∧ L2.ExcC K D ∧ PySem.W.findIn K (.ref D) f = some none ∧ H1 a = some (exo a D (some d)) ∧ H1 d = some (exd d fs) ∧ fs.lookup f = some v ∧ Q v H1) : tXv K f te σ H Q := h
theorem pe_xv {X : Cx} {e : Expr} {te : TE} {f : Str} {pos : Pos} (he : PE X e te) (hb : attributeBase e f X.env (eval e X.env) = eval e X.env := by rfl) : PE X (.Attribute e f pos) (tXv X.K f te) := by
  constructor
  intro pins s σ H Q I h
  refine attr_of hb (thn (he.run pins s σ H _ I h) fun u s1 ⟨x, H1, I1, rx, a, D, d, fs, v, ex, C, nf, h1, h2, l, q⟩ => ?_)
  subst ex
  cases rx
  obtain ⟨t1, ho⟩ := exo_at I1.hok h1
  obtain ⟨mA, hns, rel⟩ := exd_at I1.hok h2
  obtain ⟨od, hod, hlk⟩ := lookIn_ns hns
  obtain ⟨w, hw, rw'⟩ := RelO.some_of (v := v) (o := mA f) (by rw [← l]; exact rel f)
  have J : PySem.W.InstAt s1.heap a _ D (some od) := ⟨ho, rfl, rfl, hod⟩
  exact HandSPX.exc_get I1.kIn J C.hg C.hk C.hs (PySem.W.findObj_own C.hd nf rfl (by rw [hlk, hw])) (handed_of rw') ⟨v, H1, I1.tok _, rw', q⟩
/-- C(), C without an own __init__ -/
def tMk0V (C : Addr) : TE := fun _ H Q => ∀ a, H a = none → Q (.ref a) (upd H a (ExI (.ref C) none a))
theorem pe_mk0V {X : Cx} {C : Addr} {x : Str} {p pos : Pos} (c : ExcAt X.K C) (gC : X.mg x = some (.ref C)) (hg : Gl X x) (hdb : (x == ("__debug__" : Str)) = false := by decide) : PE X (.Call (.Name x p) [] [] pos) (tMk0V C) := by
  constructor
  intro pins s σ H Q I h
  refine wpAny_Call_Name_kw (ld_glob I hg gC ?_ hdb)
  refine PySem.W.callWith_K0 I.kIn c.k ?_
  obtain ⟨bm, N, nm, qn, bs, hdct, sn, sub, ab, col, dd, k0, k1, k2, k3, k5, mN, hC, hN, hni, T⟩ := exc_obj I.kIn c.x
  refine wpAny_call_exc_subT PySem.F.excBase_ValueError T hC hN hni (fun h' a hm => ?_) (Nat.zero_le _)
  have na : H a = none := I.hok.gone hm.new
  obtain ⟨t, at_, _, _⟩ := hm.there
  refine ⟨.ref a, _, I.laidN (o := ExI (.ref C) none a) hm.keeps hm.new na ⟨⟨_, _, at_, ⟨rfl, rfl⟩, rfl⟩, ⟨_, at_⟩, fun _ _ ⟨o1, v1, z, r⟩ k => ⟨o1, v1, k o1 z, r⟩⟩, rfl, h a na⟩
/-- C(..), C with an own __init__ -/
def tMkV (C : Addr) (sp : Sp) (ta : TA) : TE := fun σ H Q => ta σ H fun vs H1 => vs.length ≤ 1000 ∧ ∀ a, H1 a = none → sp (.ref a :: vs) (upd H1 a (exo a C none)) (fun v H2 => v = .non ∧ Q (.ref a) H2) E0
theorem L_mkV {C : Addr} {sp : Sp} {ta : TA} {σ : L2.St} {H : Hp} {Q : VK} (h : ta σ H fun vs H1 => vs.length ≤ 1000 ∧ ∀ a, H1 a = none → sp (.ref a :: vs) (upd H1 a (exo a C none)) (fun v H2 => v = .non ∧ Q (.ref a) H2) E0) : tMkV C sp ta σ H Q := h
theorem L_mk0V {C : Addr} {σ : L2.St} {H : Hp} {Q : VK} (h : ∀ a, H a = none → Q (.ref a) (upd H a (ExI (.ref C) none a))) : tMk0V C σ H Q := h
theorem pe_mkV {X : Cx} {k j : Nat} {C : Addr} {x : Str} {sp : Sp} {p pos : Pos} {e : Expr} {es : List Expr} {ta : TA} (c : XMak X.prog X.w X.K X.mg X.base k x C sp) (T : OexC X.K C) (hr : Room j X.A) (hk : k + 1 ≤ j) (hg : Gl X x) (ha : PA X (e :: es) ta)
    (hdb : (x == ("__debug__" : Str)) = false := by decide) (he : starEach (e :: es) X.env = (false, eval e X.env) :: starEach es X.env := by rfl) (hpl : (backTo pos (starEach es X.env)).any (·.1) = false := by rfl) :
    PE X (.Call (.Name x p) (e :: es) [] pos) (tMkV C sp ta) := by
  obtain ⟨f, fd, ps, F, iC, tI, hm, hb⟩ := c.ex
  have room := hr.mono hk
  obtain ⟨nm, q, N, bs, bm, sn, sub, ab, col, dd, k0, k1, k2, k3, k5, hC, hbm⟩ := T.cls
  constructor
  intro pins s σ H Q I h
  refine wpAny_Call_Name_kw (ld_glob I hg hm ?_ hdb)
  refine PySem.W.callWith_K (h₀ := X.base) I.ok.mod.kin T.kC (thn (ha.run pos pins s σ H _ I h) fun us s1 ⟨vs, H1, I1, r1, hz, q1⟩ => ⟨I1.kIn, ?_⟩) he hpl
  show wpAny _ _ (call (.ref C) us) _ _ _
  have r1 : Vals vs us := r1
  have few : us.length ≤ sizeLine := by
    have z1 := Paired.length r1
    have z2 := sizeLine_eq
    omega
  obtain ⟨hp, g, dr, tk, os⟩ := s1
  -- the arguments' tuple and the exception's own place
  have old : ∀ b o, hp.get? b = some o → ((hp.push (PySem.W.kdv_tup us)).push (PySem.HandSPX.excO C hp.objs.size)).get? b = some o := fun b o z => Heap.get?_push_of_some _ (Heap.get?_push_of_some _ z)
  have here : ((hp.push (PySem.W.kdv_tup us)).push (PySem.HandSPX.excO C hp.objs.size)).get? (hp.objs.size + 1) = some (PySem.HandSPX.excO C hp.objs.size) := by heap_get
  have free : H1 (hp.objs.size + 1) = none := I1.hok.fresh (Nat.le_succ _)
  have J : Inv X pins σ (upd H1 (hp.objs.size + 1) (exo (hp.objs.size + 1) C none)) ⟨(hp.push (PySem.W.kdv_tup us)).push (PySem.HandSPX.excO C hp.objs.size), g, dr, tk, os⟩ :=
    I1.laid (t' := tk) old (Nat.le_succ _) (exo_ok here)
  have asked := q1 _ free
  have args : Vals (V.ref (hp.objs.size + 1) :: vs) (Value.ref (hp.objs.size + 1) :: us) := .cons rfl r1
  have many : (Value.ref (hp.objs.size + 1) :: us).length = ps.length := args.length.symm.trans (F.len _ _ _ _ asked)
  have bound := hb _ (Value.ref (hp.objs.size + 1) :: us) J.kIn (by rw [List.append_nil]; exact many)
  rw [List.append_nil] at bound
  refine wpAny_call (PySem.HandSPX.call_own PySem.F.excBase_ValueError (fun Y => PySem.HandSPX.refsVE_contains Y bm hbm) (I1.kIn _ _ hC) (PySem.W.looks_findIn I1.kIn iC) (fun self => PySem.W.bind_fn I1.kIn self tI) few ?_)
  refine codeAny_mono (F.run _ X.stack _ _ ⟨_, []⟩ _ _ _ E0 (room.make C us []) (J.env0.make C us []) bound args asked) fun out s' ho => ?_
  match out, ho with
  | .error e, ho => exact pass0 pins σ _ _ e s' J ho
  | .ok (.ret u), ho =>
    obtain ⟨v, H', J', rel, hv, rest⟩ := J.after ho
    cases hv
    exact ⟨rel, .ref (hp.objs.size + 1), H', J', rfl, rest⟩
  | .ok .next, ho => exact ho.elim
  | .ok .brk, ho => exact ho.elim
  | .ok .cont, ho => exact ho.elim
end Kt
set_option Elab.async false
set_option linter.all false
set_option maxRecDepth 100000
set_option maxHeartbeats 4000000
namespace My
open PySem PySem.Spec PyProof.Rows L2 Kt
/-! one step of a reading; a look at the heap -/
local macro_rules | `(tactic| walk_at "hp") => `(tactic| first
  | assumption
  | exact upd_same
  | (with_reducible apply hp_from; assumption; walk_at "sm"))
local macro_rules | `(tactic| walk_at "hpL") => `(tactic| first | assumption | (with_reducible apply hpL; walk_at "hp"))
local macro_rules | `(tactic| walk_at "hpT") => `(tactic| first | assumption | (with_reducible apply hpT; walk_at "hp"))
local macro_rules | `(tactic| walk_at "st1") => `(tactic| with_reducible first
  | refine L_var rfl ?_
  | refine L_cons ?_
  | refine L_nil ?_
  | refine L_c ?_
  | refine L_op ?_
  | refine L_seq ?_
  | refine L_asg ?_
  | refine L_gnameE (by dsimp only [L2.wipe, List.foldl, List.set] <;> rfl) ?_
  | refine L_k ?_
  | refine L_I0 ?_
  | refine L_addI ?_
  | refine L_tTest ?_
  | refine L_ifS ?_
  | refine L_next ?_
  | refine L_call ?_
  | refine L_callS ?_
  | refine L_T ?_
  | refine L_F ?_
  | refine L_nT ?_
  | refine L_nF ?_
  | refine L_cb ?_
  | refine L_ret ?_
  | refine L_eqI ?_
  | refine L_neI ?_
  | refine L_leI ?_
  | refine L_ltI ?_
  | refine L_or ?_
  | refine L_and ?_
  | refine L_not ?_
  | refine L_tB ?_
  | refine L_drop ?_
  | refine L_bm ?_
  | refine L_tup ?_
  | refine L_lst ?_
  | refine L_fld ?_
  | refine L_chain ?_
  | refine L_gname ?_
  | refine L_eqS ?_
  | refine L_neS ?_
  | refine L_eqB ?_
  | refine L_leS ?_
  | refine L_isN ?_
  | refine L_notN ?_
  | refine L_inC ?_
  | refine L_notInC ?_
  | refine L_un ?_
  | refine L_rU ?_
  | refine L_andV ?_
  | refine L_orV ?_
  | refine L_notV ?_
  | refine L_par ?_
  | refine L_par3 ?_
  | refine L_vs2 ?_
  | refine L_vs3 ?_
  | refine L_aug rfl ?_
  | refine L_ipI ?_
  | refine L_retN ?_
  | refine L_brk ?_
  | refine L_cont ?_
  | refine L_tru ?_
  | refine L_truB ?_
  | refine L_truI ?_
  | refine L_abs ?_
  | refine L_max2 ?_
  | refine L_min2 ?_
  | refine L_int1 ?_
  | refine L_int1B ?_
  | refine L_for ?_
  | refine L_iRng1 ?_
  | refine L_iRng2 ?_
  | refine L_iList ?_
  | refine L_iTup ?_
  | refine L_yes ?_
  | refine L_iZip ?_
  | refine L_iEnum ?_
  | refine L_iStr ?_
  | refine L_iRng3 ?_
  | refine L_lc ?_
  | refine L_make ?_
  | refine L_nnT ?_
  | refine L_nnF ?_
  | refine L_disp1 ?_
  | refine L_rng2 ?_
  | refine L_bm0 ?_
  | refine L_neB ?_
  | refine L_dnew ?_
  | refine L_sl ?_
  | refine L_noPart ?_
  | refine L_part ?_
  | refine L_ki ?_
  | refine L_methE ?_
  | refine L_meth ?_
  | refine L_makeE ?_
  | refine L_gCons ?_
  | refine L_gNil ?_
  | refine L_sub ?_
  | refine L_sFld ?_)
local macro_rules | `(tactic| walk_at "st") => `(tactic| first | walk_at "st1" | walk_at "op" | with_reducible refine L_ifE ?_)
local macro_rules | `(tactic| walk_at "stn") => `(tactic| repeat first | walk_at "st1" | walk_at "op")
local macro_rules | `(tactic| walk_at "sts") => `(tactic| repeat walk_at "st")
/-! the same, and what is shown by itself: sizes, bounds, what stands in the heap -/
local macro_rules | `(tactic| walk_at "bd") => `(tactic| first | exact bd_mod (by decide) | exact bd_64 (by decide) | exact bd_64 (by omega))
local macro_rules | `(tactic| walk_at "sa1") => `(tactic| first
  | walk_at "st"
  | (with_reducible refine L_mulI (Bd.cmul (n := 64) (m := 64) (by walk_at "bd") (by walk_at "bd")) ?_)
  | (with_reducible refine L_I (cdiv_lit (by first | decide | omega)) ?_)
  | (with_reducible refine L_powE (i := 10) (j := 9) (n := 1000000000) (cpow_lit (by decide)) (by decide) ?_)
  | (with_reducible refine L_powE (i := 10) (j := 6) (n := 1000000) (cpow_lit (by decide)) (by decide) ?_)
  | (with_reducible refine L_powE (i := 10) (j := 10) (n := 10000000000) (cpow_lit (by decide)) (by decide) ?_)
  | (with_reducible refine L_powE (i := 10) (j := 12) (n := 1000000000000) (cpow_lit (by decide)) (by decide) ?_)
  | (with_reducible refine L_powE (i := 10) (j := 13) (n := 10000000000000) (cpow_lit (by decide)) (by decide) ?_)
  | (with_reducible refine L_powE (i := 10) (j := 20) (n := 100000000000000000000) (cpow_lit (by decide)) (by decide) ?_)
  | (with_reducible refine L_powE (i := 10) (j := 29) (n := 100000000000000000000000000000) (cpow_lit (by decide)) (by decide) ?_)
  | (with_reducible refine L_powE (i := 10) (j := 30) (n := 1000000000000000000000000000000) (cpow_lit (by decide)) (by decide) ?_)
  | (with_reducible refine L_powE (i := 10) (j := 39) (n := 1000000000000000000000000000000000000000) (cpow_lit (by decide)) (by decide) ?_)
  | (with_reducible refine L_powE (i := 10) (j := 40) (n := 10000000000000000000000000000000000000000) (cpow_lit (by decide)) (by decide) ?_)
  | (with_reducible refine L_powE (i := 10) (j := 60) (n := 1000000000000000000000000000000000000000000000000000000000000) (cpow_lit (by decide)) (by decide) ?_)
  | (with_reducible refine L_powE (i := 2) (j := 40) (n := 1099511627776) (cpow_lit (by decide)) (by decide) ?_)
  | (with_reducible refine L_I (show _ < _ by first | decide | omega) ?_)
  | (with_reducible refine L_ixT (by walk_at "hpT") (by with_unfolding_all rfl) ?_)
  | (with_reducible refine L_ixL (by walk_at "hpL") (by with_unfolding_all rfl) ?_)
  | (with_reducible refine L_lenL (by walk_at "hpL") ?_)
  | (with_reducible refine L_lenT (by walk_at "hpT") ?_)
  | walk_at "fd"
  | (with_reducible refine L_methv (by walk_at "hp") (by with_unfolding_all rfl) ?_)
  | (with_reducible refine L_isi (.base (.int _)) (b := true) (by decide +kernel) ?_)
  | (with_reducible refine L_isi (.base (.int _)) (b := false) (by decide +kernel) ?_)
  | (with_reducible refine L_dT (by first | assumption | omega) ?_)
  | (with_reducible refine L_dF (by first | assumption | omega) ?_)
  | (with_reducible refine L_ndT (by first | assumption | omega) ?_)
  | (with_reducible refine L_ndF (by first | assumption | omega) ?_))
local macro_rules | `(tactic| walk_at "sa") => `(tactic| repeat walk_at "sa1")
/-! what stood stands -/
local macro_rules | `(tactic| walk_at "sm") => `(tactic| first
  | assumption
  | exact Same.refl _
  | (with_reducible apply same_upd'; assumption; walk_at "sm")
  | (with_reducible apply same_mut'; assumption; walk_at "sm")
  | (with_reducible apply same_via; assumption; walk_at "sm"))
/-! a new list or tuple: its place p, hp : H p = none, the heap behind it Hn, that all stands, what stands at p -/
local macro_rules | `(tactic| walk_at "nw") => `(tactic| (
  (refine L_new (by first | decide | exact sz_dec (by simp)) ?_)
  (intro p hp)
  (generalize hg : upd _ p _ = Hn)
  (have sn := same_newE hg hp)
  (have en := upd_at hg)
  (clear hg)))
/-! plain things as data -/
local macro_rules | `(tactic| walk_at "dpa") => `(tactic| first
  | exact .nil
  | (refine .cons (by first | exact .int _ | exact .str _ | exact .bl _ | exact .non | assumption) ?_; walk_at "dpa"))
local macro_rules | `(tactic| walk_at "nwp") => `(tactic| (
  (intro p hp)
  (generalize hg : upd _ p _ = Hn)
  (have sn := same_newE hg hp)
  (have en := upd_at hg)
  (clear hg)))

def top (i : Nat) : Stmt := PySem.Challenge.pw_fewspeak_k07_refusals_apart.main.body.getD i (.Pass ⟨0, 0, 0, 0⟩)
abbrev s__law_cell : Stmt := top 16
abbrev s__law_mixed : Stmt := top 17
abbrev s_NoListing___init__ : Stmt := inClass (top 2) 0
abbrev s_NoPlan___init__ : Stmt := inClass (top 4) 0
abbrev s_NoThrow___init__ : Stmt := inClass (top 6) 0
abbrev s_NoSpread___init__ : Stmt := inClass (top 8) 0
abbrev s_NoTable___init__ : Stmt := inClass (top 13) 0
abbrev s__law_kinds : Stmt := top 18
abbrev s__law_made : Stmt := top 19
abbrev s__law_fields : Stmt := top 20
abbrev s_law : Stmt := top 21
theorem sc__law_cell : FnScope ["_law_script", "_law_k"] ["_law_script", "_law_k"] (defScope s__law_cell) := ⟨rfl, rfl, rfl, by decide +kernel, rfl, by decide +kernel, by decide +kernel⟩
theorem sc__law_mixed : FnScope ["_law_cell_here", "_law_k", "_law_number"] ["_law_cell_here", "_law_k"] (defScope s__law_mixed) := ⟨rfl, rfl, rfl, by decide +kernel, rfl, by decide +kernel, by decide +kernel⟩
theorem sc_NoListing___init__ : FnScope ["self", "line", "word"] ["self", "line", "word"] (defScope s_NoListing___init__) := ⟨rfl, rfl, rfl, by decide +kernel, rfl, by decide +kernel, by decide +kernel⟩
theorem sc_NoPlan___init__ : FnScope ["self", "place"] ["self", "place"] (defScope s_NoPlan___init__) := ⟨rfl, rfl, rfl, by decide +kernel, rfl, by decide +kernel, by decide +kernel⟩
theorem sc_NoThrow___init__ : FnScope ["self", "place"] ["self", "place"] (defScope s_NoThrow___init__) := ⟨rfl, rfl, rfl, by decide +kernel, rfl, by decide +kernel, by decide +kernel⟩
theorem sc_NoSpread___init__ : FnScope ["self", "one", "other"] ["self", "one", "other"] (defScope s_NoSpread___init__) := ⟨rfl, rfl, rfl, by decide +kernel, rfl, by decide +kernel, by decide +kernel⟩
theorem sc_NoTable___init__ : FnScope ["self", "row"] ["self", "row"] (defScope s_NoTable___init__) := ⟨rfl, rfl, rfl, by decide +kernel, rfl, by decide +kernel, by decide +kernel⟩
theorem sc__law_kinds : FnScope ["_law_error", "_law_kinds_here"] ["_law_error"] (defScope s__law_kinds) := ⟨rfl, rfl, rfl, by decide +kernel, rfl, by decide +kernel, by decide +kernel⟩
theorem sc__law_made : FnScope ["_law_way", "_law_one", "_law_other"] ["_law_way", "_law_one", "_law_other"] (defScope s__law_made) := ⟨rfl, rfl, rfl, by decide +kernel, rfl, by decide +kernel, by decide +kernel⟩
theorem sc__law_fields : FnScope ["_law_error"] ["_law_error"] (defScope s__law_fields) := ⟨rfl, rfl, rfl, by decide +kernel, rfl, by decide +kernel, by decide +kernel⟩
theorem sc_law : FnScope ["_law_script", "_law_k", "_law_cell_here", "_law_one", "_law_other", "_law_way", "_law_error", "_law_due", "_law_j"] ["_law_script"] (defScope s_law) := ⟨rfl, rfl, rfl, by decide +kernel, rfl, by decide +kernel, by decide +kernel⟩
/-- what the top has written -/
structure Txt (K : PySem.W.Frag) (mg : Str → Option Value) : Prop where
  n_len : mg "len" = none
  m_SpeakError : mg "SpeakError" = some (.ref (cA mg "SpeakError"))
  b_SpeakError : BaseI K (cA mg "SpeakError")
  m_NoListing : mg "NoListing" = some (.ref (cA mg "NoListing"))
  o_NoListing : OexC K (cA mg "NoListing")
  na_NoListing_line : PySem.W.findIn K (.ref (cA mg "NoListing")) "line" = some none
  na_NoListing_word : PySem.W.findIn K (.ref (cA mg "NoListing")) "word" = some none
  m_NoPlan : mg "NoPlan" = some (.ref (cA mg "NoPlan"))
  o_NoPlan : OexC K (cA mg "NoPlan")
  na_NoPlan_place : PySem.W.findIn K (.ref (cA mg "NoPlan")) "place" = some none
  m_NoThrow : mg "NoThrow" = some (.ref (cA mg "NoThrow"))
  o_NoThrow : OexC K (cA mg "NoThrow")
  na_NoThrow_place : PySem.W.findIn K (.ref (cA mg "NoThrow")) "place" = some none
  m_NoSpread : mg "NoSpread" = some (.ref (cA mg "NoSpread"))
  o_NoSpread : OexC K (cA mg "NoSpread")
  na_NoSpread_one : PySem.W.findIn K (.ref (cA mg "NoSpread")) "one" = some none
  na_NoSpread_other : PySem.W.findIn K (.ref (cA mg "NoSpread")) "other" = some none
  m_NoTable : mg "NoTable" = some (.ref (cA mg "NoTable"))
  o_NoTable : OexC K (cA mg "NoTable")
  na_NoTable_row : PySem.W.findIn K (.ref (cA mg "NoTable")) "row" = some none
  n_isinstance : mg "isinstance" = none
  m_NoAnswers : mg "NoAnswers" = some (.ref (cA mg "NoAnswers"))
  m_NoBounds : mg "NoBounds" = some (.ref (cA mg "NoBounds"))
  m_NoLevel : mg "NoLevel" = some (.ref (cA mg "NoLevel"))
  m_NoLot : mg "NoLot" = some (.ref (cA mg "NoLot"))
  m_NoThing : mg "NoThing" = some (.ref (cA mg "NoThing"))
  m_NoTurn : mg "NoTurn" = some (.ref (cA mg "NoTurn"))
  m_NoUnits : mg "NoUnits" = some (.ref (cA mg "NoUnits"))
  m_TooMany : mg "TooMany" = some (.ref (cA mg "TooMany"))
  x_NoAnswers : ExcAt K (cA mg "NoAnswers")
  x_NoBounds : ExcAt K (cA mg "NoBounds")
  x_NoLevel : ExcAt K (cA mg "NoLevel")
  x_NoLot : ExcAt K (cA mg "NoLot")
  x_NoThing : ExcAt K (cA mg "NoThing")
  x_NoTurn : ExcAt K (cA mg "NoTurn")
  x_NoUnits : ExcAt K (cA mg "NoUnits")
  x_TooMany : ExcAt K (cA mg "TooMany")
  n_ValueError : mg "ValueError" = none
  n_max : mg "max" = none
  n_min : mg "min" = none
  n_range : mg "range" = none
  z_NoListing : L2.ExcC K (cA mg "NoListing")
  z_NoPlan : L2.ExcC K (cA mg "NoPlan")
  z_NoThrow : L2.ExcC K (cA mg "NoThrow")
  z_NoSpread : L2.ExcC K (cA mg "NoSpread")
  z_NoTable : L2.ExcC K (cA mg "NoTable")
  z_NoUnits : L2.ExcC K (cA mg "NoUnits")
  z_NoLevel : L2.ExcC K (cA mg "NoLevel")
  z_TooMany : L2.ExcC K (cA mg "TooMany")
  z_NoTurn : L2.ExcC K (cA mg "NoTurn")
  z_NoThing : L2.ExcC K (cA mg "NoThing")
  z_NoAnswers : L2.ExcC K (cA mg "NoAnswers")
  z_NoBounds : L2.ExcC K (cA mg "NoBounds")
  z_NoLot : L2.ExcC K (cA mg "NoLot")
  y_NoListing : ExcK K (cA mg "NoListing")
  y_NoPlan : ExcK K (cA mg "NoPlan")
  y_NoThrow : ExcK K (cA mg "NoThrow")
  y_NoSpread : ExcK K (cA mg "NoSpread")
  y_NoTable : ExcK K (cA mg "NoTable")
  y_NoUnits : ExcK K (cA mg "NoUnits")
  y_NoLevel : ExcK K (cA mg "NoLevel")
  y_TooMany : ExcK K (cA mg "TooMany")
  y_NoTurn : ExcK K (cA mg "NoTurn")
  y_NoThing : ExcK K (cA mg "NoThing")
  y_NoAnswers : ExcK K (cA mg "NoAnswers")
  y_NoBounds : ExcK K (cA mg "NoBounds")
  y_NoLot : ExcK K (cA mg "NoLot")
  y_SpeakError : ExcK K (cA mg "SpeakError")
  e_NoListing_NoListing : PySem.W.subIn K (.ref (cA mg "NoListing")) (.ref (cA mg "NoListing")) = some true
  e_NoListing_NoPlan : PySem.W.subIn K (.ref (cA mg "NoListing")) (.ref (cA mg "NoPlan")) = some false
  e_NoListing_NoThrow : PySem.W.subIn K (.ref (cA mg "NoListing")) (.ref (cA mg "NoThrow")) = some false
  e_NoListing_NoSpread : PySem.W.subIn K (.ref (cA mg "NoListing")) (.ref (cA mg "NoSpread")) = some false
  e_NoListing_NoTable : PySem.W.subIn K (.ref (cA mg "NoListing")) (.ref (cA mg "NoTable")) = some false
  e_NoListing_NoUnits : PySem.W.subIn K (.ref (cA mg "NoListing")) (.ref (cA mg "NoUnits")) = some false
  e_NoListing_NoLevel : PySem.W.subIn K (.ref (cA mg "NoListing")) (.ref (cA mg "NoLevel")) = some false
  e_NoListing_TooMany : PySem.W.subIn K (.ref (cA mg "NoListing")) (.ref (cA mg "TooMany")) = some false
  e_NoListing_NoTurn : PySem.W.subIn K (.ref (cA mg "NoListing")) (.ref (cA mg "NoTurn")) = some false
  e_NoListing_NoThing : PySem.W.subIn K (.ref (cA mg "NoListing")) (.ref (cA mg "NoThing")) = some false
  e_NoListing_NoAnswers : PySem.W.subIn K (.ref (cA mg "NoListing")) (.ref (cA mg "NoAnswers")) = some false
  e_NoListing_NoBounds : PySem.W.subIn K (.ref (cA mg "NoListing")) (.ref (cA mg "NoBounds")) = some false
  e_NoListing_NoLot : PySem.W.subIn K (.ref (cA mg "NoListing")) (.ref (cA mg "NoLot")) = some false
  e_NoListing_SpeakError : PySem.W.subIn K (.ref (cA mg "NoListing")) (.ref (cA mg "SpeakError")) = some true
  et_NoListing_ValueError : PySem.W.subIn K (.ref (cA mg "NoListing")) (.type "ValueError") = some true
  e_NoPlan_NoListing : PySem.W.subIn K (.ref (cA mg "NoPlan")) (.ref (cA mg "NoListing")) = some false
  e_NoPlan_NoPlan : PySem.W.subIn K (.ref (cA mg "NoPlan")) (.ref (cA mg "NoPlan")) = some true
  e_NoPlan_NoThrow : PySem.W.subIn K (.ref (cA mg "NoPlan")) (.ref (cA mg "NoThrow")) = some false
  e_NoPlan_NoSpread : PySem.W.subIn K (.ref (cA mg "NoPlan")) (.ref (cA mg "NoSpread")) = some false
  e_NoPlan_NoTable : PySem.W.subIn K (.ref (cA mg "NoPlan")) (.ref (cA mg "NoTable")) = some false
  e_NoPlan_NoUnits : PySem.W.subIn K (.ref (cA mg "NoPlan")) (.ref (cA mg "NoUnits")) = some false
  e_NoPlan_NoLevel : PySem.W.subIn K (.ref (cA mg "NoPlan")) (.ref (cA mg "NoLevel")) = some false
  e_NoPlan_TooMany : PySem.W.subIn K (.ref (cA mg "NoPlan")) (.ref (cA mg "TooMany")) = some false
  e_NoPlan_NoTurn : PySem.W.subIn K (.ref (cA mg "NoPlan")) (.ref (cA mg "NoTurn")) = some false
  e_NoPlan_NoThing : PySem.W.subIn K (.ref (cA mg "NoPlan")) (.ref (cA mg "NoThing")) = some false
  e_NoPlan_NoAnswers : PySem.W.subIn K (.ref (cA mg "NoPlan")) (.ref (cA mg "NoAnswers")) = some false
  e_NoPlan_NoBounds : PySem.W.subIn K (.ref (cA mg "NoPlan")) (.ref (cA mg "NoBounds")) = some false
  e_NoPlan_NoLot : PySem.W.subIn K (.ref (cA mg "NoPlan")) (.ref (cA mg "NoLot")) = some false
  e_NoPlan_SpeakError : PySem.W.subIn K (.ref (cA mg "NoPlan")) (.ref (cA mg "SpeakError")) = some true
  et_NoPlan_ValueError : PySem.W.subIn K (.ref (cA mg "NoPlan")) (.type "ValueError") = some true
  e_NoThrow_NoListing : PySem.W.subIn K (.ref (cA mg "NoThrow")) (.ref (cA mg "NoListing")) = some false
  e_NoThrow_NoPlan : PySem.W.subIn K (.ref (cA mg "NoThrow")) (.ref (cA mg "NoPlan")) = some false
  e_NoThrow_NoThrow : PySem.W.subIn K (.ref (cA mg "NoThrow")) (.ref (cA mg "NoThrow")) = some true
  e_NoThrow_NoSpread : PySem.W.subIn K (.ref (cA mg "NoThrow")) (.ref (cA mg "NoSpread")) = some false
  e_NoThrow_NoTable : PySem.W.subIn K (.ref (cA mg "NoThrow")) (.ref (cA mg "NoTable")) = some false
  e_NoThrow_NoUnits : PySem.W.subIn K (.ref (cA mg "NoThrow")) (.ref (cA mg "NoUnits")) = some false
  e_NoThrow_NoLevel : PySem.W.subIn K (.ref (cA mg "NoThrow")) (.ref (cA mg "NoLevel")) = some false
  e_NoThrow_TooMany : PySem.W.subIn K (.ref (cA mg "NoThrow")) (.ref (cA mg "TooMany")) = some false
  e_NoThrow_NoTurn : PySem.W.subIn K (.ref (cA mg "NoThrow")) (.ref (cA mg "NoTurn")) = some false
  e_NoThrow_NoThing : PySem.W.subIn K (.ref (cA mg "NoThrow")) (.ref (cA mg "NoThing")) = some false
  e_NoThrow_NoAnswers : PySem.W.subIn K (.ref (cA mg "NoThrow")) (.ref (cA mg "NoAnswers")) = some false
  e_NoThrow_NoBounds : PySem.W.subIn K (.ref (cA mg "NoThrow")) (.ref (cA mg "NoBounds")) = some false
  e_NoThrow_NoLot : PySem.W.subIn K (.ref (cA mg "NoThrow")) (.ref (cA mg "NoLot")) = some false
  e_NoThrow_SpeakError : PySem.W.subIn K (.ref (cA mg "NoThrow")) (.ref (cA mg "SpeakError")) = some true
  et_NoThrow_ValueError : PySem.W.subIn K (.ref (cA mg "NoThrow")) (.type "ValueError") = some true
  e_NoSpread_NoListing : PySem.W.subIn K (.ref (cA mg "NoSpread")) (.ref (cA mg "NoListing")) = some false
  e_NoSpread_NoPlan : PySem.W.subIn K (.ref (cA mg "NoSpread")) (.ref (cA mg "NoPlan")) = some false
  e_NoSpread_NoThrow : PySem.W.subIn K (.ref (cA mg "NoSpread")) (.ref (cA mg "NoThrow")) = some false
  e_NoSpread_NoSpread : PySem.W.subIn K (.ref (cA mg "NoSpread")) (.ref (cA mg "NoSpread")) = some true
  e_NoSpread_NoTable : PySem.W.subIn K (.ref (cA mg "NoSpread")) (.ref (cA mg "NoTable")) = some false
  e_NoSpread_NoUnits : PySem.W.subIn K (.ref (cA mg "NoSpread")) (.ref (cA mg "NoUnits")) = some false
  e_NoSpread_NoLevel : PySem.W.subIn K (.ref (cA mg "NoSpread")) (.ref (cA mg "NoLevel")) = some false
  e_NoSpread_TooMany : PySem.W.subIn K (.ref (cA mg "NoSpread")) (.ref (cA mg "TooMany")) = some false
  e_NoSpread_NoTurn : PySem.W.subIn K (.ref (cA mg "NoSpread")) (.ref (cA mg "NoTurn")) = some false
  e_NoSpread_NoThing : PySem.W.subIn K (.ref (cA mg "NoSpread")) (.ref (cA mg "NoThing")) = some false
  e_NoSpread_NoAnswers : PySem.W.subIn K (.ref (cA mg "NoSpread")) (.ref (cA mg "NoAnswers")) = some false
  e_NoSpread_NoBounds : PySem.W.subIn K (.ref (cA mg "NoSpread")) (.ref (cA mg "NoBounds")) = some false
  e_NoSpread_NoLot : PySem.W.subIn K (.ref (cA mg "NoSpread")) (.ref (cA mg "NoLot")) = some false
  e_NoSpread_SpeakError : PySem.W.subIn K (.ref (cA mg "NoSpread")) (.ref (cA mg "SpeakError")) = some true
  et_NoSpread_ValueError : PySem.W.subIn K (.ref (cA mg "NoSpread")) (.type "ValueError") = some true
  e_NoTable_NoListing : PySem.W.subIn K (.ref (cA mg "NoTable")) (.ref (cA mg "NoListing")) = some false
  e_NoTable_NoPlan : PySem.W.subIn K (.ref (cA mg "NoTable")) (.ref (cA mg "NoPlan")) = some false
  e_NoTable_NoThrow : PySem.W.subIn K (.ref (cA mg "NoTable")) (.ref (cA mg "NoThrow")) = some false
  e_NoTable_NoSpread : PySem.W.subIn K (.ref (cA mg "NoTable")) (.ref (cA mg "NoSpread")) = some false
  e_NoTable_NoTable : PySem.W.subIn K (.ref (cA mg "NoTable")) (.ref (cA mg "NoTable")) = some true
  e_NoTable_NoUnits : PySem.W.subIn K (.ref (cA mg "NoTable")) (.ref (cA mg "NoUnits")) = some false
  e_NoTable_NoLevel : PySem.W.subIn K (.ref (cA mg "NoTable")) (.ref (cA mg "NoLevel")) = some false
  e_NoTable_TooMany : PySem.W.subIn K (.ref (cA mg "NoTable")) (.ref (cA mg "TooMany")) = some false
  e_NoTable_NoTurn : PySem.W.subIn K (.ref (cA mg "NoTable")) (.ref (cA mg "NoTurn")) = some false
  e_NoTable_NoThing : PySem.W.subIn K (.ref (cA mg "NoTable")) (.ref (cA mg "NoThing")) = some false
  e_NoTable_NoAnswers : PySem.W.subIn K (.ref (cA mg "NoTable")) (.ref (cA mg "NoAnswers")) = some false
  e_NoTable_NoBounds : PySem.W.subIn K (.ref (cA mg "NoTable")) (.ref (cA mg "NoBounds")) = some false
  e_NoTable_NoLot : PySem.W.subIn K (.ref (cA mg "NoTable")) (.ref (cA mg "NoLot")) = some false
  e_NoTable_SpeakError : PySem.W.subIn K (.ref (cA mg "NoTable")) (.ref (cA mg "SpeakError")) = some true
  et_NoTable_ValueError : PySem.W.subIn K (.ref (cA mg "NoTable")) (.type "ValueError") = some true
  e_NoUnits_NoListing : PySem.W.subIn K (.ref (cA mg "NoUnits")) (.ref (cA mg "NoListing")) = some false
  e_NoUnits_NoPlan : PySem.W.subIn K (.ref (cA mg "NoUnits")) (.ref (cA mg "NoPlan")) = some false
  e_NoUnits_NoThrow : PySem.W.subIn K (.ref (cA mg "NoUnits")) (.ref (cA mg "NoThrow")) = some false
  e_NoUnits_NoSpread : PySem.W.subIn K (.ref (cA mg "NoUnits")) (.ref (cA mg "NoSpread")) = some false
  e_NoUnits_NoTable : PySem.W.subIn K (.ref (cA mg "NoUnits")) (.ref (cA mg "NoTable")) = some false
  e_NoUnits_NoUnits : PySem.W.subIn K (.ref (cA mg "NoUnits")) (.ref (cA mg "NoUnits")) = some true
  e_NoUnits_NoLevel : PySem.W.subIn K (.ref (cA mg "NoUnits")) (.ref (cA mg "NoLevel")) = some false
  e_NoUnits_TooMany : PySem.W.subIn K (.ref (cA mg "NoUnits")) (.ref (cA mg "TooMany")) = some false
  e_NoUnits_NoTurn : PySem.W.subIn K (.ref (cA mg "NoUnits")) (.ref (cA mg "NoTurn")) = some false
  e_NoUnits_NoThing : PySem.W.subIn K (.ref (cA mg "NoUnits")) (.ref (cA mg "NoThing")) = some false
  e_NoUnits_NoAnswers : PySem.W.subIn K (.ref (cA mg "NoUnits")) (.ref (cA mg "NoAnswers")) = some false
  e_NoUnits_NoBounds : PySem.W.subIn K (.ref (cA mg "NoUnits")) (.ref (cA mg "NoBounds")) = some false
  e_NoUnits_NoLot : PySem.W.subIn K (.ref (cA mg "NoUnits")) (.ref (cA mg "NoLot")) = some false
  e_NoUnits_SpeakError : PySem.W.subIn K (.ref (cA mg "NoUnits")) (.ref (cA mg "SpeakError")) = some true
  et_NoUnits_ValueError : PySem.W.subIn K (.ref (cA mg "NoUnits")) (.type "ValueError") = some true
  e_NoLevel_NoListing : PySem.W.subIn K (.ref (cA mg "NoLevel")) (.ref (cA mg "NoListing")) = some false
  e_NoLevel_NoPlan : PySem.W.subIn K (.ref (cA mg "NoLevel")) (.ref (cA mg "NoPlan")) = some false
  e_NoLevel_NoThrow : PySem.W.subIn K (.ref (cA mg "NoLevel")) (.ref (cA mg "NoThrow")) = some false
  e_NoLevel_NoSpread : PySem.W.subIn K (.ref (cA mg "NoLevel")) (.ref (cA mg "NoSpread")) = some false
  e_NoLevel_NoTable : PySem.W.subIn K (.ref (cA mg "NoLevel")) (.ref (cA mg "NoTable")) = some false
  e_NoLevel_NoUnits : PySem.W.subIn K (.ref (cA mg "NoLevel")) (.ref (cA mg "NoUnits")) = some false
  e_NoLevel_NoLevel : PySem.W.subIn K (.ref (cA mg "NoLevel")) (.ref (cA mg "NoLevel")) = some true
  e_NoLevel_TooMany : PySem.W.subIn K (.ref (cA mg "NoLevel")) (.ref (cA mg "TooMany")) = some false
  e_NoLevel_NoTurn : PySem.W.subIn K (.ref (cA mg "NoLevel")) (.ref (cA mg "NoTurn")) = some false
  e_NoLevel_NoThing : PySem.W.subIn K (.ref (cA mg "NoLevel")) (.ref (cA mg "NoThing")) = some false
  e_NoLevel_NoAnswers : PySem.W.subIn K (.ref (cA mg "NoLevel")) (.ref (cA mg "NoAnswers")) = some false
  e_NoLevel_NoBounds : PySem.W.subIn K (.ref (cA mg "NoLevel")) (.ref (cA mg "NoBounds")) = some false
  e_NoLevel_NoLot : PySem.W.subIn K (.ref (cA mg "NoLevel")) (.ref (cA mg "NoLot")) = some false
  e_NoLevel_SpeakError : PySem.W.subIn K (.ref (cA mg "NoLevel")) (.ref (cA mg "SpeakError")) = some true
  et_NoLevel_ValueError : PySem.W.subIn K (.ref (cA mg "NoLevel")) (.type "ValueError") = some true
  e_TooMany_NoListing : PySem.W.subIn K (.ref (cA mg "TooMany")) (.ref (cA mg "NoListing")) = some false
  e_TooMany_NoPlan : PySem.W.subIn K (.ref (cA mg "TooMany")) (.ref (cA mg "NoPlan")) = some false
  e_TooMany_NoThrow : PySem.W.subIn K (.ref (cA mg "TooMany")) (.ref (cA mg "NoThrow")) = some false
  e_TooMany_NoSpread : PySem.W.subIn K (.ref (cA mg "TooMany")) (.ref (cA mg "NoSpread")) = some false
  e_TooMany_NoTable : PySem.W.subIn K (.ref (cA mg "TooMany")) (.ref (cA mg "NoTable")) = some false
  e_TooMany_NoUnits : PySem.W.subIn K (.ref (cA mg "TooMany")) (.ref (cA mg "NoUnits")) = some false
  e_TooMany_NoLevel : PySem.W.subIn K (.ref (cA mg "TooMany")) (.ref (cA mg "NoLevel")) = some false
  e_TooMany_TooMany : PySem.W.subIn K (.ref (cA mg "TooMany")) (.ref (cA mg "TooMany")) = some true
  e_TooMany_NoTurn : PySem.W.subIn K (.ref (cA mg "TooMany")) (.ref (cA mg "NoTurn")) = some false
  e_TooMany_NoThing : PySem.W.subIn K (.ref (cA mg "TooMany")) (.ref (cA mg "NoThing")) = some false
  e_TooMany_NoAnswers : PySem.W.subIn K (.ref (cA mg "TooMany")) (.ref (cA mg "NoAnswers")) = some false
  e_TooMany_NoBounds : PySem.W.subIn K (.ref (cA mg "TooMany")) (.ref (cA mg "NoBounds")) = some false
  e_TooMany_NoLot : PySem.W.subIn K (.ref (cA mg "TooMany")) (.ref (cA mg "NoLot")) = some false
  e_TooMany_SpeakError : PySem.W.subIn K (.ref (cA mg "TooMany")) (.ref (cA mg "SpeakError")) = some true
  et_TooMany_ValueError : PySem.W.subIn K (.ref (cA mg "TooMany")) (.type "ValueError") = some true
  e_NoTurn_NoListing : PySem.W.subIn K (.ref (cA mg "NoTurn")) (.ref (cA mg "NoListing")) = some false
  e_NoTurn_NoPlan : PySem.W.subIn K (.ref (cA mg "NoTurn")) (.ref (cA mg "NoPlan")) = some false
  e_NoTurn_NoThrow : PySem.W.subIn K (.ref (cA mg "NoTurn")) (.ref (cA mg "NoThrow")) = some false
  e_NoTurn_NoSpread : PySem.W.subIn K (.ref (cA mg "NoTurn")) (.ref (cA mg "NoSpread")) = some false
  e_NoTurn_NoTable : PySem.W.subIn K (.ref (cA mg "NoTurn")) (.ref (cA mg "NoTable")) = some false
  e_NoTurn_NoUnits : PySem.W.subIn K (.ref (cA mg "NoTurn")) (.ref (cA mg "NoUnits")) = some false
  e_NoTurn_NoLevel : PySem.W.subIn K (.ref (cA mg "NoTurn")) (.ref (cA mg "NoLevel")) = some false
  e_NoTurn_TooMany : PySem.W.subIn K (.ref (cA mg "NoTurn")) (.ref (cA mg "TooMany")) = some false
  e_NoTurn_NoTurn : PySem.W.subIn K (.ref (cA mg "NoTurn")) (.ref (cA mg "NoTurn")) = some true
  e_NoTurn_NoThing : PySem.W.subIn K (.ref (cA mg "NoTurn")) (.ref (cA mg "NoThing")) = some false
  e_NoTurn_NoAnswers : PySem.W.subIn K (.ref (cA mg "NoTurn")) (.ref (cA mg "NoAnswers")) = some false
  e_NoTurn_NoBounds : PySem.W.subIn K (.ref (cA mg "NoTurn")) (.ref (cA mg "NoBounds")) = some false
  e_NoTurn_NoLot : PySem.W.subIn K (.ref (cA mg "NoTurn")) (.ref (cA mg "NoLot")) = some false
  e_NoTurn_SpeakError : PySem.W.subIn K (.ref (cA mg "NoTurn")) (.ref (cA mg "SpeakError")) = some true
  et_NoTurn_ValueError : PySem.W.subIn K (.ref (cA mg "NoTurn")) (.type "ValueError") = some true
  e_NoThing_NoListing : PySem.W.subIn K (.ref (cA mg "NoThing")) (.ref (cA mg "NoListing")) = some false
  e_NoThing_NoPlan : PySem.W.subIn K (.ref (cA mg "NoThing")) (.ref (cA mg "NoPlan")) = some false
  e_NoThing_NoThrow : PySem.W.subIn K (.ref (cA mg "NoThing")) (.ref (cA mg "NoThrow")) = some false
  e_NoThing_NoSpread : PySem.W.subIn K (.ref (cA mg "NoThing")) (.ref (cA mg "NoSpread")) = some false
  e_NoThing_NoTable : PySem.W.subIn K (.ref (cA mg "NoThing")) (.ref (cA mg "NoTable")) = some false
  e_NoThing_NoUnits : PySem.W.subIn K (.ref (cA mg "NoThing")) (.ref (cA mg "NoUnits")) = some false
  e_NoThing_NoLevel : PySem.W.subIn K (.ref (cA mg "NoThing")) (.ref (cA mg "NoLevel")) = some false
  e_NoThing_TooMany : PySem.W.subIn K (.ref (cA mg "NoThing")) (.ref (cA mg "TooMany")) = some false
  e_NoThing_NoTurn : PySem.W.subIn K (.ref (cA mg "NoThing")) (.ref (cA mg "NoTurn")) = some false
  e_NoThing_NoThing : PySem.W.subIn K (.ref (cA mg "NoThing")) (.ref (cA mg "NoThing")) = some true
  e_NoThing_NoAnswers : PySem.W.subIn K (.ref (cA mg "NoThing")) (.ref (cA mg "NoAnswers")) = some false
  e_NoThing_NoBounds : PySem.W.subIn K (.ref (cA mg "NoThing")) (.ref (cA mg "NoBounds")) = some false
  e_NoThing_NoLot : PySem.W.subIn K (.ref (cA mg "NoThing")) (.ref (cA mg "NoLot")) = some false
  e_NoThing_SpeakError : PySem.W.subIn K (.ref (cA mg "NoThing")) (.ref (cA mg "SpeakError")) = some true
  et_NoThing_ValueError : PySem.W.subIn K (.ref (cA mg "NoThing")) (.type "ValueError") = some true
  e_NoAnswers_NoListing : PySem.W.subIn K (.ref (cA mg "NoAnswers")) (.ref (cA mg "NoListing")) = some false
  e_NoAnswers_NoPlan : PySem.W.subIn K (.ref (cA mg "NoAnswers")) (.ref (cA mg "NoPlan")) = some false
  e_NoAnswers_NoThrow : PySem.W.subIn K (.ref (cA mg "NoAnswers")) (.ref (cA mg "NoThrow")) = some false
  e_NoAnswers_NoSpread : PySem.W.subIn K (.ref (cA mg "NoAnswers")) (.ref (cA mg "NoSpread")) = some false
  e_NoAnswers_NoTable : PySem.W.subIn K (.ref (cA mg "NoAnswers")) (.ref (cA mg "NoTable")) = some false
  e_NoAnswers_NoUnits : PySem.W.subIn K (.ref (cA mg "NoAnswers")) (.ref (cA mg "NoUnits")) = some false
  e_NoAnswers_NoLevel : PySem.W.subIn K (.ref (cA mg "NoAnswers")) (.ref (cA mg "NoLevel")) = some false
  e_NoAnswers_TooMany : PySem.W.subIn K (.ref (cA mg "NoAnswers")) (.ref (cA mg "TooMany")) = some false
  e_NoAnswers_NoTurn : PySem.W.subIn K (.ref (cA mg "NoAnswers")) (.ref (cA mg "NoTurn")) = some false
  e_NoAnswers_NoThing : PySem.W.subIn K (.ref (cA mg "NoAnswers")) (.ref (cA mg "NoThing")) = some false
  e_NoAnswers_NoAnswers : PySem.W.subIn K (.ref (cA mg "NoAnswers")) (.ref (cA mg "NoAnswers")) = some true
  e_NoAnswers_NoBounds : PySem.W.subIn K (.ref (cA mg "NoAnswers")) (.ref (cA mg "NoBounds")) = some false
  e_NoAnswers_NoLot : PySem.W.subIn K (.ref (cA mg "NoAnswers")) (.ref (cA mg "NoLot")) = some false
  e_NoAnswers_SpeakError : PySem.W.subIn K (.ref (cA mg "NoAnswers")) (.ref (cA mg "SpeakError")) = some true
  et_NoAnswers_ValueError : PySem.W.subIn K (.ref (cA mg "NoAnswers")) (.type "ValueError") = some true
  e_NoBounds_NoListing : PySem.W.subIn K (.ref (cA mg "NoBounds")) (.ref (cA mg "NoListing")) = some false
  e_NoBounds_NoPlan : PySem.W.subIn K (.ref (cA mg "NoBounds")) (.ref (cA mg "NoPlan")) = some false
  e_NoBounds_NoThrow : PySem.W.subIn K (.ref (cA mg "NoBounds")) (.ref (cA mg "NoThrow")) = some false
  e_NoBounds_NoSpread : PySem.W.subIn K (.ref (cA mg "NoBounds")) (.ref (cA mg "NoSpread")) = some false
  e_NoBounds_NoTable : PySem.W.subIn K (.ref (cA mg "NoBounds")) (.ref (cA mg "NoTable")) = some false
  e_NoBounds_NoUnits : PySem.W.subIn K (.ref (cA mg "NoBounds")) (.ref (cA mg "NoUnits")) = some false
  e_NoBounds_NoLevel : PySem.W.subIn K (.ref (cA mg "NoBounds")) (.ref (cA mg "NoLevel")) = some false
  e_NoBounds_TooMany : PySem.W.subIn K (.ref (cA mg "NoBounds")) (.ref (cA mg "TooMany")) = some false
  e_NoBounds_NoTurn : PySem.W.subIn K (.ref (cA mg "NoBounds")) (.ref (cA mg "NoTurn")) = some false
  e_NoBounds_NoThing : PySem.W.subIn K (.ref (cA mg "NoBounds")) (.ref (cA mg "NoThing")) = some false
  e_NoBounds_NoAnswers : PySem.W.subIn K (.ref (cA mg "NoBounds")) (.ref (cA mg "NoAnswers")) = some false
  e_NoBounds_NoBounds : PySem.W.subIn K (.ref (cA mg "NoBounds")) (.ref (cA mg "NoBounds")) = some true
  e_NoBounds_NoLot : PySem.W.subIn K (.ref (cA mg "NoBounds")) (.ref (cA mg "NoLot")) = some false
  e_NoBounds_SpeakError : PySem.W.subIn K (.ref (cA mg "NoBounds")) (.ref (cA mg "SpeakError")) = some true
  et_NoBounds_ValueError : PySem.W.subIn K (.ref (cA mg "NoBounds")) (.type "ValueError") = some true
  e_NoLot_NoListing : PySem.W.subIn K (.ref (cA mg "NoLot")) (.ref (cA mg "NoListing")) = some false
  e_NoLot_NoPlan : PySem.W.subIn K (.ref (cA mg "NoLot")) (.ref (cA mg "NoPlan")) = some false
  e_NoLot_NoThrow : PySem.W.subIn K (.ref (cA mg "NoLot")) (.ref (cA mg "NoThrow")) = some false
  e_NoLot_NoSpread : PySem.W.subIn K (.ref (cA mg "NoLot")) (.ref (cA mg "NoSpread")) = some false
  e_NoLot_NoTable : PySem.W.subIn K (.ref (cA mg "NoLot")) (.ref (cA mg "NoTable")) = some false
  e_NoLot_NoUnits : PySem.W.subIn K (.ref (cA mg "NoLot")) (.ref (cA mg "NoUnits")) = some false
  e_NoLot_NoLevel : PySem.W.subIn K (.ref (cA mg "NoLot")) (.ref (cA mg "NoLevel")) = some false
  e_NoLot_TooMany : PySem.W.subIn K (.ref (cA mg "NoLot")) (.ref (cA mg "TooMany")) = some false
  e_NoLot_NoTurn : PySem.W.subIn K (.ref (cA mg "NoLot")) (.ref (cA mg "NoTurn")) = some false
  e_NoLot_NoThing : PySem.W.subIn K (.ref (cA mg "NoLot")) (.ref (cA mg "NoThing")) = some false
  e_NoLot_NoAnswers : PySem.W.subIn K (.ref (cA mg "NoLot")) (.ref (cA mg "NoAnswers")) = some false
  e_NoLot_NoBounds : PySem.W.subIn K (.ref (cA mg "NoLot")) (.ref (cA mg "NoBounds")) = some false
  e_NoLot_NoLot : PySem.W.subIn K (.ref (cA mg "NoLot")) (.ref (cA mg "NoLot")) = some true
  e_NoLot_SpeakError : PySem.W.subIn K (.ref (cA mg "NoLot")) (.ref (cA mg "SpeakError")) = some true
  et_NoLot_ValueError : PySem.W.subIn K (.ref (cA mg "NoLot")) (.type "ValueError") = some true
  d__law_cell : DefAt K mg "_law_cell" s__law_cell ["_law_script", "_law_k"]
  d__law_mixed : DefAt K mg "_law_mixed" s__law_mixed ["_law_cell_here", "_law_k"]
  xi_NoListing : XIniAt K (cA mg "NoListing") "NoListing.__init__" s_NoListing___init__ ["self", "line", "word"]
  xi_NoPlan : XIniAt K (cA mg "NoPlan") "NoPlan.__init__" s_NoPlan___init__ ["self", "place"]
  xi_NoThrow : XIniAt K (cA mg "NoThrow") "NoThrow.__init__" s_NoThrow___init__ ["self", "place"]
  xi_NoSpread : XIniAt K (cA mg "NoSpread") "NoSpread.__init__" s_NoSpread___init__ ["self", "one", "other"]
  xi_NoTable : XIniAt K (cA mg "NoTable") "NoTable.__init__" s_NoTable___init__ ["self", "row"]
  d__law_kinds : DefAt K mg "_law_kinds" s__law_kinds ["_law_error"]
  d__law_made : DefAt K mg "_law_made" s__law_made ["_law_way", "_law_one", "_law_other"]
  d__law_fields : DefAt K mg "_law_fields" s__law_fields ["_law_error"]
  d_law : DefAt K mg "law" s_law ["_law_script"]
section
variable {P : Program} {w : World} {K : PySem.W.Frag} {mg : Str → Option Value} {base : Heap}
def sp__law_cell (K : PySem.W.Frag) (mg : Str → Option Value) : Sp := fun vs H Q _ => match vs with | [.ref a, .int k] => ∃ ns : List Int, SqL K H a (ns.map V.int) ∧ 0 ≤ k ∧ k < 1000000 ∧ ∀ c, Q (.int c) H | _ => False
theorem q__law_cell {H : Hp} {Q : VK} {E : XK} {a : Addr} {k : Int} (q : ∃ ns : List Int, SqL K H a (ns.map V.int) ∧ 0 ≤ k ∧ k < 1000000 ∧ ∀ c, Q (.int c) H) : sp__law_cell K mg [.ref a, .int k] H Q E := q
local macro_rules | `(tactic| walk_at "op") => `(tactic| with_reducible refine q__law_cell ?_)
theorem c__law_cell (T : Txt K mg) : Cal P w K mg base 1 "_law_cell" (sp__law_cell K mg) := by
  refine T.d__law_cell.cal (k := 0) sc__law_cell (by intro vs H Q E h; unfold sp__law_cell at h; split at h <;> first | rfl | exact h.elim) fun f cdv A outer s H vs Q E hr h => ?_
  refine ⟨_, (pss_cons (ps_if (pt_cmpR op_ltA (pv 1) (pe_callB call_lenA (by rfl) T.n_len (by decide +kernel) (pa_cons (pv 0) pa_nil)) (nomark _))
    (pss_one (ps_ret (pe_ix ix_seq (pv 0) (pv 1) (fun _ _ => rfl))))
    pss_nil)
    (pss_one (ps_ret (pe_op op_addA (pe_op op_mulA pe_int (pv 1)) pe_int)))), ?_⟩
  try simp only [cxOf_K, cxOf_K', cxOf_mg, cxOf_mg']
  unfold sp__law_cell at h
  split at h
  case h_2 => exact h.elim
  rename_i a k
  rw [show L2.start ["_law_script", "_law_k"] [V.ref a, V.int k] = [some (V.ref a), some (V.int k)] from rfl]
  obtain ⟨ns, hS, hk, hk2, q⟩ := h
  walk_at "sts"
  refine L_lenL hS ?_
  walk_at "sts"
  refine L_d (fun c => ?_) (fun c => ?_)
  · walk_at "sts"
    exact L_ixL hS (atI_ints hk (by rw [List.length_map] at c; exact c)) (q _)
  · walk_at "sa"
    exact q _
def sp__law_mixed (K : PySem.W.Frag) (mg : Str → Option Value) : Sp := fun vs H Q _ => match vs with | [.int c, .int k] => 0 ≤ k ∧ k < 1000000 ∧ ∀ r, 0 ≤ r → r < 1099511627776 → Q (.int r) H | _ => False
theorem q__law_mixed {H : Hp} {Q : VK} {E : XK} {c : Int} {k : Int} (q : 0 ≤ k ∧ k < 1000000 ∧ ∀ r, 0 ≤ r → r < 1099511627776 → Q (.int r) H) : sp__law_mixed K mg [.int c, .int k] H Q E := q
local macro_rules | `(tactic| walk_at "op") => `(tactic| with_reducible refine q__law_mixed ?_)
theorem c__law_mixed (T : Txt K mg) : Cal P w K mg base 1 "_law_mixed" (sp__law_mixed K mg) := by
  refine T.d__law_mixed.cal (k := 0) sc__law_mixed (by intro vs H Q E h; unfold sp__law_mixed at h; split at h <;> first | rfl | exact h.elim) fun f cdv A outer s H vs Q E hr h => ?_
  refine ⟨_, (pss_cons (ps_if (pt_cmpR (op_eqA hr) (pe_op op_mod (pv 0) pe_int) pe_int (nomark _))
    (pss_one (ps_ret (pe_op op_mod (pe_op op_shr (pv 0) (pe_op op_addA pe_int (pe_op op_mulA pe_int (pv 1)))) (pe_op op_pow pe_int pe_int))))
    pss_nil)
    (pss_cons (ps_set (i := 2) sc__law_mixed.nd rfl (.inl rfl) (pe_op op_mod (pe_op op_addA (pv 0) (pe_op op_mulA pe_int (pv 1))) pe_int))
    (pss_cons (ps_set (i := 2) sc__law_mixed.nd rfl (.inl rfl) (pe_op op_mod (pe_op op_addA (pe_op op_mulA (pv 2) pe_int) (pv 1)) pe_int))
    (pss_cons (ps_set (i := 2) sc__law_mixed.nd rfl (.inl rfl) (pe_op op_mod (pe_op op_mulA (pv 2) (pe_op op_addA (pv 2) pe_int)) pe_int))
    (pss_one (ps_ret (pe_op op_mod (pe_op op_mulA (pv 2) (pe_op op_addA (pv 2) pe_int)) pe_int))))))), ?_⟩
  try simp only [cxOf_K, cxOf_K', cxOf_mg, cxOf_mg']
  unfold sp__law_mixed at h
  split at h
  case h_2 => exact h.elim
  rename_i c k
  rw [show L2.start ["_law_cell_here", "_law_k", "_law_number"] [V.int c, V.int k] = [some (V.int c), some (V.int k), none] from rfl]
  obtain ⟨hk, hk2, q⟩ := h
  walk_at "sts"
  refine L_I (by decide) ?_
  walk_at "sts"
  refine L_d (fun c => ?_) (fun c => ?_)
  · walk_at "sts"
    refine L_mulI ((bd_64 (by decide)).cmul (bd_64 (by omega))) ?_
    walk_at "sts"
    refine L_I (show 0 ≤ _ by omega) ?_
    walk_at "sa"
    exact q _ (Int.emod_nonneg _ (by decide)) (Int.emod_lt_of_pos _ (by decide))
  · walk_at "sa"
    exact q _ (Int.emod_nonneg _ (by decide)) (Int.lt_of_lt_of_le (Int.emod_lt_of_pos _ (by decide)) (by decide))
def nm : Nat → Str
  | 0 => "NoListing"
  | 1 => "NoPlan"
  | 2 => "NoThrow"
  | 3 => "NoSpread"
  | 4 => "NoTable"
  | 5 => "NoUnits"
  | 6 => "NoLevel"
  | 7 => "TooMany"
  | 8 => "NoTurn"
  | 9 => "NoThing"
  | 10 => "NoAnswers"
  | 11 => "NoBounds"
  | 12 => "NoLot"
  | _ => ""
def fl (i : Nat) (x y : V) : List (Str × V) := match i with | 0 => [("word", y), ("line", x)] | 1 => [("place", x)] | 2 => [("place", x)] | 3 => [("other", y), ("one", x)] | 4 => [("row", x)] | _ => []
def due (i : Nat) (x y : Int) : List Int := match i with | 0 => [x, y] | 1 => [x] | 2 => [x] | 3 => [x, y] | 4 => [x] | _ => []
theorem z_of (T : Txt K mg) (i : Nat) (h : i < 13) : L2.ExcC K (cA mg (nm i)) := match i, h with
  | 0, _ => T.z_NoListing
  | 1, _ => T.z_NoPlan
  | 2, _ => T.z_NoThrow
  | 3, _ => T.z_NoSpread
  | 4, _ => T.z_NoTable
  | 5, _ => T.z_NoUnits
  | 6, _ => T.z_NoLevel
  | 7, _ => T.z_TooMany
  | 8, _ => T.z_NoTurn
  | 9, _ => T.z_NoThing
  | 10, _ => T.z_NoAnswers
  | 11, _ => T.z_NoBounds
  | 12, _ => T.z_NoLot
theorem y_of (T : Txt K mg) (i : Nat) (h : i < 13) : ExcK K (cA mg (nm i)) := match i, h with
  | 0, _ => T.y_NoListing
  | 1, _ => T.y_NoPlan
  | 2, _ => T.y_NoThrow
  | 3, _ => T.y_NoSpread
  | 4, _ => T.y_NoTable
  | 5, _ => T.y_NoUnits
  | 6, _ => T.y_NoLevel
  | 7, _ => T.y_TooMany
  | 8, _ => T.y_NoTurn
  | 9, _ => T.y_NoThing
  | 10, _ => T.y_NoAnswers
  | 11, _ => T.y_NoBounds
  | 12, _ => T.y_NoLot
theorem s_of (T : Txt K mg) (i : Nat) (h : i < 13) : PySem.W.subIn K (.ref (cA mg (nm i))) (.ref (cA mg "SpeakError")) = some true := match i, h with
  | 0, _ => T.e_NoListing_SpeakError
  | 1, _ => T.e_NoPlan_SpeakError
  | 2, _ => T.e_NoThrow_SpeakError
  | 3, _ => T.e_NoSpread_SpeakError
  | 4, _ => T.e_NoTable_SpeakError
  | 5, _ => T.e_NoUnits_SpeakError
  | 6, _ => T.e_NoLevel_SpeakError
  | 7, _ => T.e_TooMany_SpeakError
  | 8, _ => T.e_NoTurn_SpeakError
  | 9, _ => T.e_NoThing_SpeakError
  | 10, _ => T.e_NoAnswers_SpeakError
  | 11, _ => T.e_NoBounds_SpeakError
  | 12, _ => T.e_NoLot_SpeakError
theorem t_of (T : Txt K mg) (i : Nat) (h : i < 13) : PySem.W.subIn K (.ref (cA mg (nm i))) (.type "ValueError") = some true := match i, h with
  | 0, _ => T.et_NoListing_ValueError
  | 1, _ => T.et_NoPlan_ValueError
  | 2, _ => T.et_NoThrow_ValueError
  | 3, _ => T.et_NoSpread_ValueError
  | 4, _ => T.et_NoTable_ValueError
  | 5, _ => T.et_NoUnits_ValueError
  | 6, _ => T.et_NoLevel_ValueError
  | 7, _ => T.et_TooMany_ValueError
  | 8, _ => T.et_NoTurn_ValueError
  | 9, _ => T.et_NoThing_ValueError
  | 10, _ => T.et_NoAnswers_ValueError
  | 11, _ => T.et_NoBounds_ValueError
  | 12, _ => T.et_NoLot_ValueError
theorem e_of0 (T : Txt K mg) (j : Nat) (h : j < 13) : PySem.W.subIn K (.ref (cA mg (nm 0))) (.ref (cA mg (nm j))) = some (decide (0 = j)) := match j, h with
  | 0, _ => T.e_NoListing_NoListing
  | 1, _ => T.e_NoListing_NoPlan
  | 2, _ => T.e_NoListing_NoThrow
  | 3, _ => T.e_NoListing_NoSpread
  | 4, _ => T.e_NoListing_NoTable
  | 5, _ => T.e_NoListing_NoUnits
  | 6, _ => T.e_NoListing_NoLevel
  | 7, _ => T.e_NoListing_TooMany
  | 8, _ => T.e_NoListing_NoTurn
  | 9, _ => T.e_NoListing_NoThing
  | 10, _ => T.e_NoListing_NoAnswers
  | 11, _ => T.e_NoListing_NoBounds
  | 12, _ => T.e_NoListing_NoLot
theorem e_of1 (T : Txt K mg) (j : Nat) (h : j < 13) : PySem.W.subIn K (.ref (cA mg (nm 1))) (.ref (cA mg (nm j))) = some (decide (1 = j)) := match j, h with
  | 0, _ => T.e_NoPlan_NoListing
  | 1, _ => T.e_NoPlan_NoPlan
  | 2, _ => T.e_NoPlan_NoThrow
  | 3, _ => T.e_NoPlan_NoSpread
  | 4, _ => T.e_NoPlan_NoTable
  | 5, _ => T.e_NoPlan_NoUnits
  | 6, _ => T.e_NoPlan_NoLevel
  | 7, _ => T.e_NoPlan_TooMany
  | 8, _ => T.e_NoPlan_NoTurn
  | 9, _ => T.e_NoPlan_NoThing
  | 10, _ => T.e_NoPlan_NoAnswers
  | 11, _ => T.e_NoPlan_NoBounds
  | 12, _ => T.e_NoPlan_NoLot
theorem e_of2 (T : Txt K mg) (j : Nat) (h : j < 13) : PySem.W.subIn K (.ref (cA mg (nm 2))) (.ref (cA mg (nm j))) = some (decide (2 = j)) := match j, h with
  | 0, _ => T.e_NoThrow_NoListing
  | 1, _ => T.e_NoThrow_NoPlan
  | 2, _ => T.e_NoThrow_NoThrow
  | 3, _ => T.e_NoThrow_NoSpread
  | 4, _ => T.e_NoThrow_NoTable
  | 5, _ => T.e_NoThrow_NoUnits
  | 6, _ => T.e_NoThrow_NoLevel
  | 7, _ => T.e_NoThrow_TooMany
  | 8, _ => T.e_NoThrow_NoTurn
  | 9, _ => T.e_NoThrow_NoThing
  | 10, _ => T.e_NoThrow_NoAnswers
  | 11, _ => T.e_NoThrow_NoBounds
  | 12, _ => T.e_NoThrow_NoLot
theorem e_of3 (T : Txt K mg) (j : Nat) (h : j < 13) : PySem.W.subIn K (.ref (cA mg (nm 3))) (.ref (cA mg (nm j))) = some (decide (3 = j)) := match j, h with
  | 0, _ => T.e_NoSpread_NoListing
  | 1, _ => T.e_NoSpread_NoPlan
  | 2, _ => T.e_NoSpread_NoThrow
  | 3, _ => T.e_NoSpread_NoSpread
  | 4, _ => T.e_NoSpread_NoTable
  | 5, _ => T.e_NoSpread_NoUnits
  | 6, _ => T.e_NoSpread_NoLevel
  | 7, _ => T.e_NoSpread_TooMany
  | 8, _ => T.e_NoSpread_NoTurn
  | 9, _ => T.e_NoSpread_NoThing
  | 10, _ => T.e_NoSpread_NoAnswers
  | 11, _ => T.e_NoSpread_NoBounds
  | 12, _ => T.e_NoSpread_NoLot
theorem e_of4 (T : Txt K mg) (j : Nat) (h : j < 13) : PySem.W.subIn K (.ref (cA mg (nm 4))) (.ref (cA mg (nm j))) = some (decide (4 = j)) := match j, h with
  | 0, _ => T.e_NoTable_NoListing
  | 1, _ => T.e_NoTable_NoPlan
  | 2, _ => T.e_NoTable_NoThrow
  | 3, _ => T.e_NoTable_NoSpread
  | 4, _ => T.e_NoTable_NoTable
  | 5, _ => T.e_NoTable_NoUnits
  | 6, _ => T.e_NoTable_NoLevel
  | 7, _ => T.e_NoTable_TooMany
  | 8, _ => T.e_NoTable_NoTurn
  | 9, _ => T.e_NoTable_NoThing
  | 10, _ => T.e_NoTable_NoAnswers
  | 11, _ => T.e_NoTable_NoBounds
  | 12, _ => T.e_NoTable_NoLot
theorem e_of5 (T : Txt K mg) (j : Nat) (h : j < 13) : PySem.W.subIn K (.ref (cA mg (nm 5))) (.ref (cA mg (nm j))) = some (decide (5 = j)) := match j, h with
  | 0, _ => T.e_NoUnits_NoListing
  | 1, _ => T.e_NoUnits_NoPlan
  | 2, _ => T.e_NoUnits_NoThrow
  | 3, _ => T.e_NoUnits_NoSpread
  | 4, _ => T.e_NoUnits_NoTable
  | 5, _ => T.e_NoUnits_NoUnits
  | 6, _ => T.e_NoUnits_NoLevel
  | 7, _ => T.e_NoUnits_TooMany
  | 8, _ => T.e_NoUnits_NoTurn
  | 9, _ => T.e_NoUnits_NoThing
  | 10, _ => T.e_NoUnits_NoAnswers
  | 11, _ => T.e_NoUnits_NoBounds
  | 12, _ => T.e_NoUnits_NoLot
theorem e_of6 (T : Txt K mg) (j : Nat) (h : j < 13) : PySem.W.subIn K (.ref (cA mg (nm 6))) (.ref (cA mg (nm j))) = some (decide (6 = j)) := match j, h with
  | 0, _ => T.e_NoLevel_NoListing
  | 1, _ => T.e_NoLevel_NoPlan
  | 2, _ => T.e_NoLevel_NoThrow
  | 3, _ => T.e_NoLevel_NoSpread
  | 4, _ => T.e_NoLevel_NoTable
  | 5, _ => T.e_NoLevel_NoUnits
  | 6, _ => T.e_NoLevel_NoLevel
  | 7, _ => T.e_NoLevel_TooMany
  | 8, _ => T.e_NoLevel_NoTurn
  | 9, _ => T.e_NoLevel_NoThing
  | 10, _ => T.e_NoLevel_NoAnswers
  | 11, _ => T.e_NoLevel_NoBounds
  | 12, _ => T.e_NoLevel_NoLot
theorem e_of7 (T : Txt K mg) (j : Nat) (h : j < 13) : PySem.W.subIn K (.ref (cA mg (nm 7))) (.ref (cA mg (nm j))) = some (decide (7 = j)) := match j, h with
  | 0, _ => T.e_TooMany_NoListing
  | 1, _ => T.e_TooMany_NoPlan
  | 2, _ => T.e_TooMany_NoThrow
  | 3, _ => T.e_TooMany_NoSpread
  | 4, _ => T.e_TooMany_NoTable
  | 5, _ => T.e_TooMany_NoUnits
  | 6, _ => T.e_TooMany_NoLevel
  | 7, _ => T.e_TooMany_TooMany
  | 8, _ => T.e_TooMany_NoTurn
  | 9, _ => T.e_TooMany_NoThing
  | 10, _ => T.e_TooMany_NoAnswers
  | 11, _ => T.e_TooMany_NoBounds
  | 12, _ => T.e_TooMany_NoLot
theorem e_of8 (T : Txt K mg) (j : Nat) (h : j < 13) : PySem.W.subIn K (.ref (cA mg (nm 8))) (.ref (cA mg (nm j))) = some (decide (8 = j)) := match j, h with
  | 0, _ => T.e_NoTurn_NoListing
  | 1, _ => T.e_NoTurn_NoPlan
  | 2, _ => T.e_NoTurn_NoThrow
  | 3, _ => T.e_NoTurn_NoSpread
  | 4, _ => T.e_NoTurn_NoTable
  | 5, _ => T.e_NoTurn_NoUnits
  | 6, _ => T.e_NoTurn_NoLevel
  | 7, _ => T.e_NoTurn_TooMany
  | 8, _ => T.e_NoTurn_NoTurn
  | 9, _ => T.e_NoTurn_NoThing
  | 10, _ => T.e_NoTurn_NoAnswers
  | 11, _ => T.e_NoTurn_NoBounds
  | 12, _ => T.e_NoTurn_NoLot
theorem e_of9 (T : Txt K mg) (j : Nat) (h : j < 13) : PySem.W.subIn K (.ref (cA mg (nm 9))) (.ref (cA mg (nm j))) = some (decide (9 = j)) := match j, h with
  | 0, _ => T.e_NoThing_NoListing
  | 1, _ => T.e_NoThing_NoPlan
  | 2, _ => T.e_NoThing_NoThrow
  | 3, _ => T.e_NoThing_NoSpread
  | 4, _ => T.e_NoThing_NoTable
  | 5, _ => T.e_NoThing_NoUnits
  | 6, _ => T.e_NoThing_NoLevel
  | 7, _ => T.e_NoThing_TooMany
  | 8, _ => T.e_NoThing_NoTurn
  | 9, _ => T.e_NoThing_NoThing
  | 10, _ => T.e_NoThing_NoAnswers
  | 11, _ => T.e_NoThing_NoBounds
  | 12, _ => T.e_NoThing_NoLot
theorem e_of10 (T : Txt K mg) (j : Nat) (h : j < 13) : PySem.W.subIn K (.ref (cA mg (nm 10))) (.ref (cA mg (nm j))) = some (decide (10 = j)) := match j, h with
  | 0, _ => T.e_NoAnswers_NoListing
  | 1, _ => T.e_NoAnswers_NoPlan
  | 2, _ => T.e_NoAnswers_NoThrow
  | 3, _ => T.e_NoAnswers_NoSpread
  | 4, _ => T.e_NoAnswers_NoTable
  | 5, _ => T.e_NoAnswers_NoUnits
  | 6, _ => T.e_NoAnswers_NoLevel
  | 7, _ => T.e_NoAnswers_TooMany
  | 8, _ => T.e_NoAnswers_NoTurn
  | 9, _ => T.e_NoAnswers_NoThing
  | 10, _ => T.e_NoAnswers_NoAnswers
  | 11, _ => T.e_NoAnswers_NoBounds
  | 12, _ => T.e_NoAnswers_NoLot
theorem e_of11 (T : Txt K mg) (j : Nat) (h : j < 13) : PySem.W.subIn K (.ref (cA mg (nm 11))) (.ref (cA mg (nm j))) = some (decide (11 = j)) := match j, h with
  | 0, _ => T.e_NoBounds_NoListing
  | 1, _ => T.e_NoBounds_NoPlan
  | 2, _ => T.e_NoBounds_NoThrow
  | 3, _ => T.e_NoBounds_NoSpread
  | 4, _ => T.e_NoBounds_NoTable
  | 5, _ => T.e_NoBounds_NoUnits
  | 6, _ => T.e_NoBounds_NoLevel
  | 7, _ => T.e_NoBounds_TooMany
  | 8, _ => T.e_NoBounds_NoTurn
  | 9, _ => T.e_NoBounds_NoThing
  | 10, _ => T.e_NoBounds_NoAnswers
  | 11, _ => T.e_NoBounds_NoBounds
  | 12, _ => T.e_NoBounds_NoLot
theorem e_of12 (T : Txt K mg) (j : Nat) (h : j < 13) : PySem.W.subIn K (.ref (cA mg (nm 12))) (.ref (cA mg (nm j))) = some (decide (12 = j)) := match j, h with
  | 0, _ => T.e_NoLot_NoListing
  | 1, _ => T.e_NoLot_NoPlan
  | 2, _ => T.e_NoLot_NoThrow
  | 3, _ => T.e_NoLot_NoSpread
  | 4, _ => T.e_NoLot_NoTable
  | 5, _ => T.e_NoLot_NoUnits
  | 6, _ => T.e_NoLot_NoLevel
  | 7, _ => T.e_NoLot_TooMany
  | 8, _ => T.e_NoLot_NoTurn
  | 9, _ => T.e_NoLot_NoThing
  | 10, _ => T.e_NoLot_NoAnswers
  | 11, _ => T.e_NoLot_NoBounds
  | 12, _ => T.e_NoLot_NoLot
theorem e_of (T : Txt K mg) (i j : Nat) (h : i < 13) (k : j < 13) : PySem.W.subIn K (.ref (cA mg (nm i))) (.ref (cA mg (nm j))) = some (decide (i = j)) := match i, h with
  | 0, _ => e_of0 T j k
  | 1, _ => e_of1 T j k
  | 2, _ => e_of2 T j k
  | 3, _ => e_of3 T j k
  | 4, _ => e_of4 T j k
  | 5, _ => e_of5 T j k
  | 6, _ => e_of6 T j k
  | 7, _ => e_of7 T j k
  | 8, _ => e_of8 T j k
  | 9, _ => e_of9 T j k
  | 10, _ => e_of10 T j k
  | 11, _ => e_of11 T j k
  | 12, _ => e_of12 T j k
theorem k_of (T : Txt K mg) (i j : Nat) (h : i < 13) (k : j < 13) : PySem.W.kitOne K (.ref (cA mg (nm i))) (.ref (cA mg (nm j))) = some (decide (i = j)) := kit_ref (by have := e_of T i i h h; rwa [decide_eq_true rfl] at this) (y_of T j k) (e_of T i j h k)
theorem L_k {H : Hp} {Q : VK} (T : Txt K mg) {a : Addr} {i : Nat} {fs : List (Str × V)} (hx : XVal H a (cA mg (nm i)) fs) (hi : i < 13) (j : Nat) (hj : j < 13) (q : Q (.bl (decide (i = j))) H) : rIsV K [.ref a, .ref (cA mg (nm j))] H Q := L_isV hx (z_of T i hi) (.own _) (k_of T i j hi hj) q
theorem dp_bools {H : Hp} {α : Type} (g : α → Bool) : ∀ l : List α, DpAll K H (l.map fun j => V.bl (g j)) (l.map fun j => PyData.bool (g j))
  | [] => .nil
  | _ :: l => .cons (.bl _) (dp_bools g l)
theorem same3 {H : Hp} {a d : Addr} {o1 o2 o3 : HO} (na : H a = none) (nd : H d = none) : Same H (upd (upd (upd H a o1) d o2) a o3) := fun b o h => by
  have n1 : b ≠ a := fun z => by rw [z, na] at h; cases h
  have n2 : b ≠ d := fun z => by rw [z, nd] at h; cases h
  rw [upd_ne n1, upd_ne n2, upd_ne n1]
  exact h
theorem same4 {H : Hp} {a d : Addr} {o1 o2 o3 o4 : HO} (na : H a = none) (nd : H d = none) : Same H (upd (upd (upd (upd H a o1) d o2) a o3) d o4) := fun b o h => by
  have n1 : b ≠ a := fun z => by rw [z, na] at h; cases h
  have n2 : b ≠ d := fun z => by rw [z, nd] at h; cases h
  rw [upd_ne n2, upd_ne n1, upd_ne n2, upd_ne n1]
  exact h
theorem L_v0 {C : Addr} {σ : L2.St} {H : Hp} {Q : VK} (h : ∀ a H', Same H H' → H' a = some (ExI (.ref C) none a) → Q (.ref a) H') : tMk0V C σ H Q := L_mk0V fun a na => h a _ (same_new na) upd_same
/-- what an __init__ with two fields keeps -/
def XIni2 (C : Addr) (f g : Str) (a : Addr) (v w : V) (H : Hp) (Q : VK) : Prop := H a = some (exo a C none) ∧ ∀ d, H d = none → d ≠ a → Q .non (upd (upd (upd H d (exd d [(f, v)])) a (exo a C (some d))) d (exd d [(g, w), (f, v)]))
theorem L_v1 {H : Hp} {C : Addr} {f : Str} {v : V} {Q : VK} (q : ∀ a H', Same H H' → XVal H' a C [(f, v)] → Q (.ref a) H') : [v].length ≤ 1000 ∧ ∀ a, H a = none → XIni1 C f a v (upd H a (exo a C none)) (fun v H2 => v = .non ∧ Q (.ref a) H2) := by
  refine ⟨by rw [List.length_singleton]; decide, fun a na => ⟨upd_same, fun d nd ne => ⟨rfl, ?_⟩⟩⟩
  rw [upd_ne ne] at nd
  exact q a _ (same3 na nd) (.inr ⟨d, upd_same, by rw [upd_ne ne, upd_same]⟩)
theorem L_v2 {H : Hp} {C : Addr} {f g : Str} {v w : V} {Q : VK} (q : ∀ a H', Same H H' → XVal H' a C [(g, w), (f, v)] → Q (.ref a) H') : [v, w].length ≤ 1000 ∧ ∀ a, H a = none → XIni2 C f g a v w (upd H a (exo a C none)) (fun v H2 => v = .non ∧ Q (.ref a) H2) := by
  refine ⟨by simp, fun a na => ⟨upd_same, fun d nd ne => ⟨rfl, ?_⟩⟩⟩
  rw [upd_ne ne] at nd
  exact q a _ (same4 na nd) (.inr ⟨d, by rw [upd_ne ne.symm, upd_same], upd_same⟩)
def sp_NoListing___init__ (K : PySem.W.Frag) (mg : Str → Option Value) : Sp := fun vs H Q _ => match vs with | [.ref a, v, w] => XIni2 (cA mg "NoListing") "line" "word" a v w H Q | _ => False
theorem q_NoListing___init__ {H : Hp} {Q : VK} {E : XK} {a : Addr} {v : V} {w : V} (q : XIni2 (cA mg "NoListing") "line" "word" a v w H Q) : sp_NoListing___init__ K mg [.ref a, v, w] H Q E := q
local macro_rules | `(tactic| walk_at "op") => `(tactic| with_reducible refine q_NoListing___init__ ?_)
theorem x_NoListing (T : Txt K mg) : XMak P w K mg base 1 "NoListing" (cA mg "NoListing") (sp_NoListing___init__ K mg) := by
  refine XIniAt.xmak T.m_NoListing T.xi_NoListing (k := 0) sc_NoListing___init__ (by intro vs H Q E h; unfold sp_NoListing___init__ at h; split at h <;> first | rfl | exact h.elim) fun f cdv A outer s H vs Q E hr h => ?_
  refine ⟨_, (pss_cons (ps_expr (pe_baseI (by rfl) T.m_SpeakError T.b_SpeakError (pa_cons (pv 0) (pa_cons pe_str pa_nil))))
    (pss_cons (ps_ost (pv 0) (pv 1) rfl)
    (pss_one (ps_ost (pv 0) (pv 2) rfl)))), ?_⟩
  try simp only [cxOf_K, cxOf_K', cxOf_mg, cxOf_mg']
  unfold sp_NoListing___init__ at h
  split at h
  case h_2 => exact h.elim
  rename_i a v w
  rw [show L2.start ["self", "line", "word"] [V.ref a, v, w] = [some (V.ref a), some (v), some (w)] from rfl]
  obtain ⟨ha, q⟩ := h
  walk_at "sts"
  refine L_tveI ?_
  walk_at "sts"
  refine L_veI T.o_NoListing ha (by rw [List.length_singleton]; decide) ?_
  walk_at "sts"
  refine L_ost ?_
  walk_at "sts"
  refine L_ost1 T.o_NoListing T.na_NoListing_line ha fun dx nx ne => ?_
  walk_at "sts"
  dsimp only
  refine L_ost ?_
  walk_at "sts"
  exact ⟨a, _, rfl, T.o_NoListing, T.na_NoListing_word, .inr ⟨dx, _, upd_same, by rw [upd_ne ne, upd_same], by simp, q dx nx ne⟩⟩
def sp_NoPlan___init__ (K : PySem.W.Frag) (mg : Str → Option Value) : Sp := fun vs H Q _ => match vs with | [.ref a, v] => XIni1 (cA mg "NoPlan") "place" a v H Q | _ => False
theorem q_NoPlan___init__ {H : Hp} {Q : VK} {E : XK} {a : Addr} {v : V} (q : XIni1 (cA mg "NoPlan") "place" a v H Q) : sp_NoPlan___init__ K mg [.ref a, v] H Q E := q
local macro_rules | `(tactic| walk_at "op") => `(tactic| with_reducible refine q_NoPlan___init__ ?_)
theorem x_NoPlan (T : Txt K mg) : XMak P w K mg base 1 "NoPlan" (cA mg "NoPlan") (sp_NoPlan___init__ K mg) := by
  refine XIniAt.xmak T.m_NoPlan T.xi_NoPlan (k := 0) sc_NoPlan___init__ (by intro vs H Q E h; unfold sp_NoPlan___init__ at h; split at h <;> first | rfl | exact h.elim) fun f cdv A outer s H vs Q E hr h => ?_
  refine ⟨_, (pss_cons (ps_expr (pe_baseI (by rfl) T.m_SpeakError T.b_SpeakError (pa_cons (pv 0) (pa_cons pe_str pa_nil))))
    (pss_one (ps_ost (pv 0) (pv 1) rfl))), ?_⟩
  try simp only [cxOf_K, cxOf_K', cxOf_mg, cxOf_mg']
  unfold sp_NoPlan___init__ at h
  split at h
  case h_2 => exact h.elim
  rename_i a v
  rw [show L2.start ["self", "place"] [V.ref a, v] = [some (V.ref a), some (v)] from rfl]
  obtain ⟨ha, q⟩ := h
  walk_at "sts"
  refine L_tveI ?_
  walk_at "sts"
  refine L_veI T.o_NoPlan ha (by rw [List.length_singleton]; decide) ?_
  walk_at "sts"
  refine L_ost ?_
  walk_at "sts"
  refine L_ost1 T.o_NoPlan T.na_NoPlan_place ha fun dx nx ne => ?_
  exact q dx nx ne
def sp_NoThrow___init__ (K : PySem.W.Frag) (mg : Str → Option Value) : Sp := fun vs H Q _ => match vs with | [.ref a, v] => XIni1 (cA mg "NoThrow") "place" a v H Q | _ => False
theorem q_NoThrow___init__ {H : Hp} {Q : VK} {E : XK} {a : Addr} {v : V} (q : XIni1 (cA mg "NoThrow") "place" a v H Q) : sp_NoThrow___init__ K mg [.ref a, v] H Q E := q
local macro_rules | `(tactic| walk_at "op") => `(tactic| with_reducible refine q_NoThrow___init__ ?_)
theorem x_NoThrow (T : Txt K mg) : XMak P w K mg base 1 "NoThrow" (cA mg "NoThrow") (sp_NoThrow___init__ K mg) := by
  refine XIniAt.xmak T.m_NoThrow T.xi_NoThrow (k := 0) sc_NoThrow___init__ (by intro vs H Q E h; unfold sp_NoThrow___init__ at h; split at h <;> first | rfl | exact h.elim) fun f cdv A outer s H vs Q E hr h => ?_
  refine ⟨_, (pss_cons (ps_expr (pe_baseI (by rfl) T.m_SpeakError T.b_SpeakError (pa_cons (pv 0) (pa_cons pe_str pa_nil))))
    (pss_one (ps_ost (pv 0) (pv 1) rfl))), ?_⟩
  try simp only [cxOf_K, cxOf_K', cxOf_mg, cxOf_mg']
  unfold sp_NoThrow___init__ at h
  split at h
  case h_2 => exact h.elim
  rename_i a v
  rw [show L2.start ["self", "place"] [V.ref a, v] = [some (V.ref a), some (v)] from rfl]
  obtain ⟨ha, q⟩ := h
  walk_at "sts"
  refine L_tveI ?_
  walk_at "sts"
  refine L_veI T.o_NoThrow ha (by rw [List.length_singleton]; decide) ?_
  walk_at "sts"
  refine L_ost ?_
  walk_at "sts"
  refine L_ost1 T.o_NoThrow T.na_NoThrow_place ha fun dx nx ne => ?_
  exact q dx nx ne
def sp_NoSpread___init__ (K : PySem.W.Frag) (mg : Str → Option Value) : Sp := fun vs H Q _ => match vs with | [.ref a, v, w] => XIni2 (cA mg "NoSpread") "one" "other" a v w H Q | _ => False
theorem q_NoSpread___init__ {H : Hp} {Q : VK} {E : XK} {a : Addr} {v : V} {w : V} (q : XIni2 (cA mg "NoSpread") "one" "other" a v w H Q) : sp_NoSpread___init__ K mg [.ref a, v, w] H Q E := q
local macro_rules | `(tactic| walk_at "op") => `(tactic| with_reducible refine q_NoSpread___init__ ?_)
theorem x_NoSpread (T : Txt K mg) : XMak P w K mg base 1 "NoSpread" (cA mg "NoSpread") (sp_NoSpread___init__ K mg) := by
  refine XIniAt.xmak T.m_NoSpread T.xi_NoSpread (k := 0) sc_NoSpread___init__ (by intro vs H Q E h; unfold sp_NoSpread___init__ at h; split at h <;> first | rfl | exact h.elim) fun f cdv A outer s H vs Q E hr h => ?_
  refine ⟨_, (pss_cons (ps_expr (pe_baseI (by rfl) T.m_SpeakError T.b_SpeakError (pa_cons (pv 0) (pa_cons pe_str pa_nil))))
    (pss_cons (ps_ost (pv 0) (pv 1) rfl)
    (pss_one (ps_ost (pv 0) (pv 2) rfl)))), ?_⟩
  try simp only [cxOf_K, cxOf_K', cxOf_mg, cxOf_mg']
  unfold sp_NoSpread___init__ at h
  split at h
  case h_2 => exact h.elim
  rename_i a v w
  rw [show L2.start ["self", "one", "other"] [V.ref a, v, w] = [some (V.ref a), some (v), some (w)] from rfl]
  obtain ⟨ha, q⟩ := h
  walk_at "sts"
  refine L_tveI ?_
  walk_at "sts"
  refine L_veI T.o_NoSpread ha (by rw [List.length_singleton]; decide) ?_
  walk_at "sts"
  refine L_ost ?_
  walk_at "sts"
  refine L_ost1 T.o_NoSpread T.na_NoSpread_one ha fun dx nx ne => ?_
  walk_at "sts"
  dsimp only
  refine L_ost ?_
  walk_at "sts"
  exact ⟨a, _, rfl, T.o_NoSpread, T.na_NoSpread_other, .inr ⟨dx, _, upd_same, by rw [upd_ne ne, upd_same], by simp, q dx nx ne⟩⟩
def sp_NoTable___init__ (K : PySem.W.Frag) (mg : Str → Option Value) : Sp := fun vs H Q _ => match vs with | [.ref a, v] => XIni1 (cA mg "NoTable") "row" a v H Q | _ => False
theorem q_NoTable___init__ {H : Hp} {Q : VK} {E : XK} {a : Addr} {v : V} (q : XIni1 (cA mg "NoTable") "row" a v H Q) : sp_NoTable___init__ K mg [.ref a, v] H Q E := q
local macro_rules | `(tactic| walk_at "op") => `(tactic| with_reducible refine q_NoTable___init__ ?_)
theorem x_NoTable (T : Txt K mg) : XMak P w K mg base 1 "NoTable" (cA mg "NoTable") (sp_NoTable___init__ K mg) := by
  refine XIniAt.xmak T.m_NoTable T.xi_NoTable (k := 0) sc_NoTable___init__ (by intro vs H Q E h; unfold sp_NoTable___init__ at h; split at h <;> first | rfl | exact h.elim) fun f cdv A outer s H vs Q E hr h => ?_
  refine ⟨_, (pss_cons (ps_expr (pe_baseI (by rfl) T.m_SpeakError T.b_SpeakError (pa_cons (pv 0) (pa_cons pe_str pa_nil))))
    (pss_one (ps_ost (pv 0) (pv 1) rfl))), ?_⟩
  try simp only [cxOf_K, cxOf_K', cxOf_mg, cxOf_mg']
  unfold sp_NoTable___init__ at h
  split at h
  case h_2 => exact h.elim
  rename_i a v
  rw [show L2.start ["self", "row"] [V.ref a, v] = [some (V.ref a), some (v)] from rfl]
  obtain ⟨ha, q⟩ := h
  walk_at "sts"
  refine L_tveI ?_
  walk_at "sts"
  refine L_veI T.o_NoTable ha (by rw [List.length_singleton]; decide) ?_
  walk_at "sts"
  refine L_ost ?_
  walk_at "sts"
  refine L_ost1 T.o_NoTable T.na_NoTable_row ha fun dx nx ne => ?_
  exact q dx nx ne
def sp__law_kinds (K : PySem.W.Frag) (mg : Str → Option Value) : Sp := fun vs H Q _ => match vs with | [.ref a] => ∃ (i : Nat) (fs : List (Str × V)), i < 13 ∧ XVal H a (cA mg (nm i)) fs ∧ ∀ p H', Same H H' → H' p = some (.lst ((List.range 13).map fun j => V.bl (decide (i = j)))) → Q (.ref p) H' | _ => False
theorem q__law_kinds {H : Hp} {Q : VK} {E : XK} {a : Addr} (q : ∃ (i : Nat) (fs : List (Str × V)), i < 13 ∧ XVal H a (cA mg (nm i)) fs ∧ ∀ p H', Same H H' → H' p = some (.lst ((List.range 13).map fun j => V.bl (decide (i = j)))) → Q (.ref p) H') : sp__law_kinds K mg [.ref a] H Q E := q
local macro_rules | `(tactic| walk_at "op") => `(tactic| with_reducible refine q__law_kinds ?_)
theorem c__law_kinds (T : Txt K mg) : Cal P w K mg base 1 "_law_kinds" (sp__law_kinds K mg) := by
  refine T.d__law_kinds.cal (k := 0) sc__law_kinds (by intro vs H Q E h; unfold sp__law_kinds at h; split at h <;> first | rfl | exact h.elim) fun f cdv A outer s H vs Q E hr h => ?_
  refine ⟨_, (pss_cons (ps_set (i := 1) sc__law_kinds.nd rfl (.inl rfl) (pe_lst (pa_cons (pe_callB call_isV (by rfl) T.n_isinstance (by decide +kernel) (pa_cons (pv 0) (pa_cons (pe_glob (v := .ref (cA mg "NoListing")) (by rfl) T.m_NoListing rfl) pa_nil))) (pa_cons (pe_callB call_isV (by rfl) T.n_isinstance (by decide +kernel) (pa_cons (pv 0) (pa_cons (pe_glob (v := .ref (cA mg "NoPlan")) (by rfl) T.m_NoPlan rfl) pa_nil))) (pa_cons (pe_callB call_isV (by rfl) T.n_isinstance (by decide +kernel) (pa_cons (pv 0) (pa_cons (pe_glob (v := .ref (cA mg "NoThrow")) (by rfl) T.m_NoThrow rfl) pa_nil))) pa_nil)))))
    (pss_cons (ps_set (i := 1) sc__law_kinds.nd rfl (.inl rfl) (pe_op op_addA (pv 1) (pe_lst (pa_cons (pe_callB call_isV (by rfl) T.n_isinstance (by decide +kernel) (pa_cons (pv 0) (pa_cons (pe_glob (v := .ref (cA mg "NoSpread")) (by rfl) T.m_NoSpread rfl) pa_nil))) (pa_cons (pe_callB call_isV (by rfl) T.n_isinstance (by decide +kernel) (pa_cons (pv 0) (pa_cons (pe_glob (v := .ref (cA mg "NoTable")) (by rfl) T.m_NoTable rfl) pa_nil))) (pa_cons (pe_callB call_isV (by rfl) T.n_isinstance (by decide +kernel) (pa_cons (pv 0) (pa_cons (pe_glob (v := .ref (cA mg "NoUnits")) (by rfl) T.m_NoUnits rfl) pa_nil))) pa_nil))))))
    (pss_cons (ps_set (i := 1) sc__law_kinds.nd rfl (.inl rfl) (pe_op op_addA (pv 1) (pe_lst (pa_cons (pe_callB call_isV (by rfl) T.n_isinstance (by decide +kernel) (pa_cons (pv 0) (pa_cons (pe_glob (v := .ref (cA mg "NoLevel")) (by rfl) T.m_NoLevel rfl) pa_nil))) (pa_cons (pe_callB call_isV (by rfl) T.n_isinstance (by decide +kernel) (pa_cons (pv 0) (pa_cons (pe_glob (v := .ref (cA mg "TooMany")) (by rfl) T.m_TooMany rfl) pa_nil))) (pa_cons (pe_callB call_isV (by rfl) T.n_isinstance (by decide +kernel) (pa_cons (pv 0) (pa_cons (pe_glob (v := .ref (cA mg "NoTurn")) (by rfl) T.m_NoTurn rfl) pa_nil))) pa_nil))))))
    (pss_cons (ps_set (i := 1) sc__law_kinds.nd rfl (.inl rfl) (pe_op op_addA (pv 1) (pe_lst (pa_cons (pe_callB call_isV (by rfl) T.n_isinstance (by decide +kernel) (pa_cons (pv 0) (pa_cons (pe_glob (v := .ref (cA mg "NoThing")) (by rfl) T.m_NoThing rfl) pa_nil))) (pa_cons (pe_callB call_isV (by rfl) T.n_isinstance (by decide +kernel) (pa_cons (pv 0) (pa_cons (pe_glob (v := .ref (cA mg "NoAnswers")) (by rfl) T.m_NoAnswers rfl) pa_nil))) (pa_cons (pe_callB call_isV (by rfl) T.n_isinstance (by decide +kernel) (pa_cons (pv 0) (pa_cons (pe_glob (v := .ref (cA mg "NoBounds")) (by rfl) T.m_NoBounds rfl) pa_nil))) pa_nil))))))
    (pss_one (ps_ret (pe_op op_addA (pv 1) (pe_lst (pa_cons (pe_callB call_isV (by rfl) T.n_isinstance (by decide +kernel) (pa_cons (pv 0) (pa_cons (pe_glob (v := .ref (cA mg "NoLot")) (by rfl) T.m_NoLot rfl) pa_nil))) pa_nil))))))))), ?_⟩
  try simp only [cxOf_K, cxOf_K', cxOf_mg, cxOf_mg']
  unfold sp__law_kinds at h
  split at h
  case h_2 => exact h.elim
  rename_i a
  rw [show L2.start ["_law_error", "_law_kinds_here"] [V.ref a] = [some (V.ref a), none] from rfl]
  obtain ⟨i, fs, hi, hx, q⟩ := h
  walk_at "sts"
  refine L_k T (hx.same (Same.refl _)) hi 0 (by decide) ?_
  walk_at "sts"
  refine L_k T (hx.same (Same.refl _)) hi 1 (by decide) ?_
  walk_at "sts"
  refine L_k T (hx.same (Same.refl _)) hi 2 (by decide) ?_
  walk_at "sts"
  walk_at "nw"
  rename_i p1 hp1 H1 s1 e1
  have r1 := s1
  have g1 := e1
  walk_at "sts"
  refine L_k T (hx.same (s1)) hi 3 (by decide) ?_
  walk_at "sts"
  refine L_k T (hx.same (s1)) hi 4 (by decide) ?_
  walk_at "sts"
  refine L_k T (hx.same (s1)) hi 5 (by decide) ?_
  walk_at "sts"
  walk_at "nw"
  rename_i p3 hp3 H3 s3 e3
  refine L_addL (s3 _ _ g1) e3 (sz_dec (by simp)) ?_
  walk_at "nwp"
  rename_i p4 hp4 H4 s4 e4
  have g4 := e4
  have r4 := (r1.trans s3).trans s4
  walk_at "sts"
  refine L_k T (hx.same (r4)) hi 6 (by decide) ?_
  walk_at "sts"
  refine L_k T (hx.same (r4)) hi 7 (by decide) ?_
  walk_at "sts"
  refine L_k T (hx.same (r4)) hi 8 (by decide) ?_
  walk_at "sts"
  walk_at "nw"
  rename_i p5 hp5 H5 s5 e5
  refine L_addL (s5 _ _ g4) e5 (sz_dec (by simp)) ?_
  walk_at "nwp"
  rename_i p6 hp6 H6 s6 e6
  have g6 := e6
  have r6 := (r4.trans s5).trans s6
  walk_at "sts"
  refine L_k T (hx.same (r6)) hi 9 (by decide) ?_
  walk_at "sts"
  refine L_k T (hx.same (r6)) hi 10 (by decide) ?_
  walk_at "sts"
  refine L_k T (hx.same (r6)) hi 11 (by decide) ?_
  walk_at "sts"
  walk_at "nw"
  rename_i p7 hp7 H7 s7 e7
  refine L_addL (s7 _ _ g6) e7 (sz_dec (by simp)) ?_
  walk_at "nwp"
  rename_i p8 hp8 H8 s8 e8
  have g8 := e8
  have r8 := (r6.trans s7).trans s8
  walk_at "sts"
  refine L_k T (hx.same (r8)) hi 12 (by decide) ?_
  walk_at "sts"
  walk_at "nw"
  rename_i p9 hp9 H9 s9 e9
  refine L_addL (s9 _ _ g8) e9 (sz_dec (by simp)) ?_
  walk_at "nwp"
  rename_i p10 hp10 H10 s10 e10
  have g10 := e10
  have r10 := (r8.trans s9).trans s10
  walk_at "sts"
  exact q _ _ r10 g10
def sp__law_made (K : PySem.W.Frag) (mg : Str → Option Value) : Sp := fun vs H Q _ => match vs with | [.int w, x, y] => ∃ i : Nat, w = (i : Int) ∧ i < 13 ∧ ∀ a H', Same H H' → XVal H' a (cA mg (nm i)) (fl i x y) → Q (.ref a) H' | _ => False
theorem q__law_made {H : Hp} {Q : VK} {E : XK} {w : Int} {x : V} {y : V} (q : ∃ i : Nat, w = (i : Int) ∧ i < 13 ∧ ∀ a H', Same H H' → XVal H' a (cA mg (nm i)) (fl i x y) → Q (.ref a) H') : sp__law_made K mg [.int w, x, y] H Q E := q
local macro_rules | `(tactic| walk_at "op") => `(tactic| with_reducible refine q__law_made ?_)
theorem c__law_made (T : Txt K mg) : Cal P w K mg base 3 "_law_made" (sp__law_made K mg) := by
  refine T.d__law_made.cal (k := 2) sc__law_made (by intro vs H Q E h; unfold sp__law_made at h; split at h <;> first | rfl | exact h.elim) fun f cdv A outer s H vs Q E hr h => ?_
  refine ⟨_, (pss_cons (ps_if (pt_cmpR (op_eqA hr) (pv 0) pe_int (nomark _))
    (pss_one (ps_ret (pe_mkV (x_NoListing T) T.o_NoListing hr (by decide) (by rfl) (pa_cons (pv 1) (pa_cons (pv 2) pa_nil)))))
    pss_nil)
    (pss_cons (ps_if (pt_cmpR (op_eqA hr) (pv 0) pe_int (nomark _))
    (pss_one (ps_ret (pe_mkV (x_NoPlan T) T.o_NoPlan hr (by decide) (by rfl) (pa_cons (pv 1) pa_nil))))
    pss_nil)
    (pss_cons (ps_if (pt_cmpR (op_eqA hr) (pv 0) pe_int (nomark _))
    (pss_one (ps_ret (pe_mkV (x_NoThrow T) T.o_NoThrow hr (by decide) (by rfl) (pa_cons (pv 1) pa_nil))))
    pss_nil)
    (pss_cons (ps_if (pt_cmpR (op_eqA hr) (pv 0) pe_int (nomark _))
    (pss_one (ps_ret (pe_mkV (x_NoSpread T) T.o_NoSpread hr (by decide) (by rfl) (pa_cons (pv 1) (pa_cons (pv 2) pa_nil)))))
    pss_nil)
    (pss_cons (ps_if (pt_cmpR (op_eqA hr) (pv 0) pe_int (nomark _))
    (pss_one (ps_ret (pe_mkV (x_NoTable T) T.o_NoTable hr (by decide) (by rfl) (pa_cons (pv 1) pa_nil))))
    pss_nil)
    (pss_cons (ps_if (pt_cmpR (op_eqA hr) (pv 0) pe_int (nomark _))
    (pss_one (ps_ret (pe_mk0V T.x_NoUnits T.m_NoUnits (by rfl))))
    pss_nil)
    (pss_cons (ps_if (pt_cmpR (op_eqA hr) (pv 0) pe_int (nomark _))
    (pss_one (ps_ret (pe_mk0V T.x_NoLevel T.m_NoLevel (by rfl))))
    pss_nil)
    (pss_one (ps_ret (pe_ix ix_seq (pe_lst (pa_cons (pe_mk0V T.x_TooMany T.m_TooMany (by rfl)) (pa_cons (pe_mk0V T.x_NoTurn T.m_NoTurn (by rfl)) (pa_cons (pe_mk0V T.x_NoThing T.m_NoThing (by rfl)) (pa_cons (pe_mk0V T.x_NoAnswers T.m_NoAnswers (by rfl)) (pa_cons (pe_mk0V T.x_NoBounds T.m_NoBounds (by rfl)) (pa_cons (pe_mk0V T.x_NoLot T.m_NoLot (by rfl)) pa_nil))))))) (pe_op op_sub (pv 0) pe_int) (fun _ _ => rfl))))))))))), ?_⟩
  try simp only [cxOf_K, cxOf_K', cxOf_mg, cxOf_mg']
  unfold sp__law_made at h
  split at h
  case h_2 => exact h.elim
  rename_i w x y
  rw [show L2.start ["_law_way", "_law_one", "_law_other"] [V.int w, x, y] = [some (V.int w), some (x), some (y)] from rfl]
  obtain ⟨i, rfl, hi, q⟩ := h
  obtain rfl | rfl | rfl | rfl | rfl | rfl | rfl | rfl | rfl | rfl | rfl | rfl | rfl : i = 0 ∨ i = 1 ∨ i = 2 ∨ i = 3 ∨ i = 4 ∨ i = 5 ∨ i = 6 ∨ i = 7 ∨ i = 8 ∨ i = 9 ∨ i = 10 ∨ i = 11 ∨ i = 12 := by omega
  · walk_at "sa"
    refine L_mkV ?_
    walk_at "sts"
    refine L_v2 fun a H' s' xv => ?_
    walk_at "sts"
    exact q a H' s' xv
  · walk_at "sa"
    refine L_mkV ?_
    walk_at "sts"
    refine L_v1 fun a H' s' xv => ?_
    walk_at "sts"
    exact q a H' s' xv
  · walk_at "sa"
    refine L_mkV ?_
    walk_at "sts"
    refine L_v1 fun a H' s' xv => ?_
    walk_at "sts"
    exact q a H' s' xv
  · walk_at "sa"
    refine L_mkV ?_
    walk_at "sts"
    refine L_v2 fun a H' s' xv => ?_
    walk_at "sts"
    exact q a H' s' xv
  · walk_at "sa"
    refine L_mkV ?_
    walk_at "sts"
    refine L_v1 fun a H' s' xv => ?_
    walk_at "sts"
    exact q a H' s' xv
  · walk_at "sa"
    refine L_v0 fun a H' s' e => ?_
    walk_at "sts"
    exact q a H' s' (.inl ⟨rfl, e⟩)
  · walk_at "sa"
    refine L_v0 fun a H' s' e => ?_
    walk_at "sts"
    exact q a H' s' (.inl ⟨rfl, e⟩)
  · walk_at "sa"
    refine L_v0 fun a1 H1 s1 e1 => ?_
    walk_at "sts"
    refine L_v0 fun a2 H2 s2 e2 => ?_
    walk_at "sts"
    refine L_v0 fun a3 H3 s3 e3 => ?_
    walk_at "sts"
    refine L_v0 fun a4 H4 s4 e4 => ?_
    walk_at "sts"
    refine L_v0 fun a5 H5 s5 e5 => ?_
    walk_at "sts"
    refine L_v0 fun a6 H6 s6 e6 => ?_
    walk_at "sts"
    walk_at "nw"
    rename_i p hp H7 s7 e7
    walk_at "sa"
    exact q a1 H7 (s1.trans (s2.trans (s3.trans (s4.trans (s5.trans (s6.trans (s7))))))) (.inl ⟨rfl, (s2.trans (s3.trans (s4.trans (s5.trans (s6.trans (s7)))))) _ _ e1⟩)
  · walk_at "sa"
    refine L_v0 fun a1 H1 s1 e1 => ?_
    walk_at "sts"
    refine L_v0 fun a2 H2 s2 e2 => ?_
    walk_at "sts"
    refine L_v0 fun a3 H3 s3 e3 => ?_
    walk_at "sts"
    refine L_v0 fun a4 H4 s4 e4 => ?_
    walk_at "sts"
    refine L_v0 fun a5 H5 s5 e5 => ?_
    walk_at "sts"
    refine L_v0 fun a6 H6 s6 e6 => ?_
    walk_at "sts"
    walk_at "nw"
    rename_i p hp H7 s7 e7
    walk_at "sa"
    exact q a2 H7 (s1.trans (s2.trans (s3.trans (s4.trans (s5.trans (s6.trans (s7))))))) (.inl ⟨rfl, (s3.trans (s4.trans (s5.trans (s6.trans (s7))))) _ _ e2⟩)
  · walk_at "sa"
    refine L_v0 fun a1 H1 s1 e1 => ?_
    walk_at "sts"
    refine L_v0 fun a2 H2 s2 e2 => ?_
    walk_at "sts"
    refine L_v0 fun a3 H3 s3 e3 => ?_
    walk_at "sts"
    refine L_v0 fun a4 H4 s4 e4 => ?_
    walk_at "sts"
    refine L_v0 fun a5 H5 s5 e5 => ?_
    walk_at "sts"
    refine L_v0 fun a6 H6 s6 e6 => ?_
    walk_at "sts"
    walk_at "nw"
    rename_i p hp H7 s7 e7
    walk_at "sa"
    exact q a3 H7 (s1.trans (s2.trans (s3.trans (s4.trans (s5.trans (s6.trans (s7))))))) (.inl ⟨rfl, (s4.trans (s5.trans (s6.trans (s7)))) _ _ e3⟩)
  · walk_at "sa"
    refine L_v0 fun a1 H1 s1 e1 => ?_
    walk_at "sts"
    refine L_v0 fun a2 H2 s2 e2 => ?_
    walk_at "sts"
    refine L_v0 fun a3 H3 s3 e3 => ?_
    walk_at "sts"
    refine L_v0 fun a4 H4 s4 e4 => ?_
    walk_at "sts"
    refine L_v0 fun a5 H5 s5 e5 => ?_
    walk_at "sts"
    refine L_v0 fun a6 H6 s6 e6 => ?_
    walk_at "sts"
    walk_at "nw"
    rename_i p hp H7 s7 e7
    walk_at "sa"
    exact q a4 H7 (s1.trans (s2.trans (s3.trans (s4.trans (s5.trans (s6.trans (s7))))))) (.inl ⟨rfl, (s5.trans (s6.trans (s7))) _ _ e4⟩)
  · walk_at "sa"
    refine L_v0 fun a1 H1 s1 e1 => ?_
    walk_at "sts"
    refine L_v0 fun a2 H2 s2 e2 => ?_
    walk_at "sts"
    refine L_v0 fun a3 H3 s3 e3 => ?_
    walk_at "sts"
    refine L_v0 fun a4 H4 s4 e4 => ?_
    walk_at "sts"
    refine L_v0 fun a5 H5 s5 e5 => ?_
    walk_at "sts"
    refine L_v0 fun a6 H6 s6 e6 => ?_
    walk_at "sts"
    walk_at "nw"
    rename_i p hp H7 s7 e7
    walk_at "sa"
    exact q a5 H7 (s1.trans (s2.trans (s3.trans (s4.trans (s5.trans (s6.trans (s7))))))) (.inl ⟨rfl, (s6.trans (s7)) _ _ e5⟩)
  · walk_at "sa"
    refine L_v0 fun a1 H1 s1 e1 => ?_
    walk_at "sts"
    refine L_v0 fun a2 H2 s2 e2 => ?_
    walk_at "sts"
    refine L_v0 fun a3 H3 s3 e3 => ?_
    walk_at "sts"
    refine L_v0 fun a4 H4 s4 e4 => ?_
    walk_at "sts"
    refine L_v0 fun a5 H5 s5 e5 => ?_
    walk_at "sts"
    refine L_v0 fun a6 H6 s6 e6 => ?_
    walk_at "sts"
    walk_at "nw"
    rename_i p hp H7 s7 e7
    walk_at "sa"
    exact q a6 H7 (s1.trans (s2.trans (s3.trans (s4.trans (s5.trans (s6.trans (s7))))))) (.inl ⟨rfl, (s7) _ _ e6⟩)
def sp__law_fields (K : PySem.W.Frag) (mg : Str → Option Value) : Sp := fun vs H Q _ => match vs with | [.ref a] => ∃ (i : Nat) (x y : Int), i < 13 ∧ XVal H a (cA mg (nm i)) (fl i (.int x) (.int y)) ∧ ∀ p H', Same H H' → H' p = some (.lst ((due i x y).map V.int)) → Q (.ref p) H' | _ => False
theorem q__law_fields {H : Hp} {Q : VK} {E : XK} {a : Addr} (q : ∃ (i : Nat) (x y : Int), i < 13 ∧ XVal H a (cA mg (nm i)) (fl i (.int x) (.int y)) ∧ ∀ p H', Same H H' → H' p = some (.lst ((due i x y).map V.int)) → Q (.ref p) H') : sp__law_fields K mg [.ref a] H Q E := q
local macro_rules | `(tactic| walk_at "op") => `(tactic| with_reducible refine q__law_fields ?_)
theorem c__law_fields (T : Txt K mg) : Cal P w K mg base 1 "_law_fields" (sp__law_fields K mg) := by
  refine T.d__law_fields.cal (k := 0) sc__law_fields (by intro vs H Q E h; unfold sp__law_fields at h; split at h <;> first | rfl | exact h.elim) fun f cdv A outer s H vs Q E hr h => ?_
  refine ⟨_, (pss_cons (ps_if (pt_val (pe_callB call_isV (by rfl) T.n_isinstance (by decide +kernel) (pa_cons (pv 0) (pa_cons (pe_glob (v := .ref (cA mg "NoListing")) (by rfl) T.m_NoListing rfl) pa_nil))))
    (pss_one (ps_ret (pe_lst (pa_cons (pe_xv (pv 0) rfl) (pa_cons (pe_xv (pv 0) rfl) pa_nil)))))
    pss_nil)
    (pss_cons (ps_if (pt_val (pe_callB call_isV (by rfl) T.n_isinstance (by decide +kernel) (pa_cons (pv 0) (pa_cons (pe_glob (v := .ref (cA mg "NoSpread")) (by rfl) T.m_NoSpread rfl) pa_nil))))
    (pss_one (ps_ret (pe_lst (pa_cons (pe_xv (pv 0) rfl) (pa_cons (pe_xv (pv 0) rfl) pa_nil)))))
    pss_nil)
    (pss_cons (ps_if (pt_val (pe_callB call_isV (by rfl) T.n_isinstance (by decide +kernel) (pa_cons (pv 0) (pa_cons (pe_glob (v := .ref (cA mg "NoPlan")) (by rfl) T.m_NoPlan rfl) pa_nil))))
    (pss_one (ps_ret (pe_lst (pa_cons (pe_xv (pv 0) rfl) pa_nil))))
    pss_nil)
    (pss_cons (ps_if (pt_val (pe_callB call_isV (by rfl) T.n_isinstance (by decide +kernel) (pa_cons (pv 0) (pa_cons (pe_glob (v := .ref (cA mg "NoThrow")) (by rfl) T.m_NoThrow rfl) pa_nil))))
    (pss_one (ps_ret (pe_lst (pa_cons (pe_xv (pv 0) rfl) pa_nil))))
    pss_nil)
    (pss_cons (ps_if (pt_val (pe_callB call_isV (by rfl) T.n_isinstance (by decide +kernel) (pa_cons (pv 0) (pa_cons (pe_glob (v := .ref (cA mg "NoTable")) (by rfl) T.m_NoTable rfl) pa_nil))))
    (pss_one (ps_ret (pe_lst (pa_cons (pe_xv (pv 0) rfl) pa_nil))))
    pss_nil)
    (pss_one (ps_ret (pe_lst pa_nil)))))))), ?_⟩
  try simp only [cxOf_K, cxOf_K', cxOf_mg, cxOf_mg']
  unfold sp__law_fields at h
  split at h
  case h_2 => exact h.elim
  rename_i a
  rw [show L2.start ["_law_error"] [V.ref a] = [some (V.ref a)] from rfl]
  obtain ⟨i, x, y, hi, hx, q⟩ := h
  obtain rfl | rfl | rfl | rfl | rfl | rfl | rfl | rfl | rfl | rfl | rfl | rfl | rfl : i = 0 ∨ i = 1 ∨ i = 2 ∨ i = 3 ∨ i = 4 ∨ i = 5 ∨ i = 6 ∨ i = 7 ∨ i = 8 ∨ i = 9 ∨ i = 10 ∨ i = 11 ∨ i = 12 := by omega
  · walk_at "sts"
    refine L_k T hx hi 0 (by decide) ?_
    walk_at "sts"
    refine L_dT rfl ?_
    rcases hx with ⟨z, _⟩ | ⟨d, h1, h2⟩
    · cases z
    walk_at "sts"
    refine L_xv ?_
    walk_at "sts"
    refine ⟨a, _, d, _, _, rfl, T.z_NoListing, T.na_NoListing_line, h1, h2, rfl, ?_⟩
    walk_at "sts"
    refine L_xv ?_
    walk_at "sts"
    refine ⟨a, _, d, _, _, rfl, T.z_NoListing, T.na_NoListing_word, h1, h2, rfl, ?_⟩
    walk_at "sts"
    walk_at "nw"
    rename_i p hp H1 s1 e1
    walk_at "sts"
    exact q p H1 s1 e1
  · walk_at "sts"
    refine L_k T hx hi 0 (by decide) ?_
    walk_at "sts"
    refine L_dF (by decide) ?_
    walk_at "sts"
    refine L_k T hx hi 3 (by decide) ?_
    walk_at "sts"
    refine L_dF (by decide) ?_
    walk_at "sts"
    refine L_k T hx hi 1 (by decide) ?_
    walk_at "sts"
    refine L_dT rfl ?_
    rcases hx with ⟨z, _⟩ | ⟨d, h1, h2⟩
    · cases z
    walk_at "sts"
    refine L_xv ?_
    walk_at "sts"
    refine ⟨a, _, d, _, _, rfl, T.z_NoPlan, T.na_NoPlan_place, h1, h2, rfl, ?_⟩
    walk_at "sts"
    walk_at "nw"
    rename_i p hp H1 s1 e1
    walk_at "sts"
    exact q p H1 s1 e1
  · walk_at "sts"
    refine L_k T hx hi 0 (by decide) ?_
    walk_at "sts"
    refine L_dF (by decide) ?_
    walk_at "sts"
    refine L_k T hx hi 3 (by decide) ?_
    walk_at "sts"
    refine L_dF (by decide) ?_
    walk_at "sts"
    refine L_k T hx hi 1 (by decide) ?_
    walk_at "sts"
    refine L_dF (by decide) ?_
    walk_at "sts"
    refine L_k T hx hi 2 (by decide) ?_
    walk_at "sts"
    refine L_dT rfl ?_
    rcases hx with ⟨z, _⟩ | ⟨d, h1, h2⟩
    · cases z
    walk_at "sts"
    refine L_xv ?_
    walk_at "sts"
    refine ⟨a, _, d, _, _, rfl, T.z_NoThrow, T.na_NoThrow_place, h1, h2, rfl, ?_⟩
    walk_at "sts"
    walk_at "nw"
    rename_i p hp H1 s1 e1
    walk_at "sts"
    exact q p H1 s1 e1
  · walk_at "sts"
    refine L_k T hx hi 0 (by decide) ?_
    walk_at "sts"
    refine L_dF (by decide) ?_
    walk_at "sts"
    refine L_k T hx hi 3 (by decide) ?_
    walk_at "sts"
    refine L_dT rfl ?_
    rcases hx with ⟨z, _⟩ | ⟨d, h1, h2⟩
    · cases z
    walk_at "sts"
    refine L_xv ?_
    walk_at "sts"
    refine ⟨a, _, d, _, _, rfl, T.z_NoSpread, T.na_NoSpread_one, h1, h2, rfl, ?_⟩
    walk_at "sts"
    refine L_xv ?_
    walk_at "sts"
    refine ⟨a, _, d, _, _, rfl, T.z_NoSpread, T.na_NoSpread_other, h1, h2, rfl, ?_⟩
    walk_at "sts"
    walk_at "nw"
    rename_i p hp H1 s1 e1
    walk_at "sts"
    exact q p H1 s1 e1
  · walk_at "sts"
    refine L_k T hx hi 0 (by decide) ?_
    walk_at "sts"
    refine L_dF (by decide) ?_
    walk_at "sts"
    refine L_k T hx hi 3 (by decide) ?_
    walk_at "sts"
    refine L_dF (by decide) ?_
    walk_at "sts"
    refine L_k T hx hi 1 (by decide) ?_
    walk_at "sts"
    refine L_dF (by decide) ?_
    walk_at "sts"
    refine L_k T hx hi 2 (by decide) ?_
    walk_at "sts"
    refine L_dF (by decide) ?_
    walk_at "sts"
    refine L_k T hx hi 4 (by decide) ?_
    walk_at "sts"
    refine L_dT rfl ?_
    rcases hx with ⟨z, _⟩ | ⟨d, h1, h2⟩
    · cases z
    walk_at "sts"
    refine L_xv ?_
    walk_at "sts"
    refine ⟨a, _, d, _, _, rfl, T.z_NoTable, T.na_NoTable_row, h1, h2, rfl, ?_⟩
    walk_at "sts"
    walk_at "nw"
    rename_i p hp H1 s1 e1
    walk_at "sts"
    exact q p H1 s1 e1
  · walk_at "sts"
    refine L_k T hx hi 0 (by decide) ?_
    walk_at "sts"
    refine L_dF (by decide) ?_
    walk_at "sts"
    refine L_k T hx hi 3 (by decide) ?_
    walk_at "sts"
    refine L_dF (by decide) ?_
    walk_at "sts"
    refine L_k T hx hi 1 (by decide) ?_
    walk_at "sts"
    refine L_dF (by decide) ?_
    walk_at "sts"
    refine L_k T hx hi 2 (by decide) ?_
    walk_at "sts"
    refine L_dF (by decide) ?_
    walk_at "sts"
    refine L_k T hx hi 4 (by decide) ?_
    walk_at "sts"
    refine L_dF (by decide) ?_
    walk_at "sts"
    walk_at "nw"
    rename_i p hp H1 s1 e1
    walk_at "sts"
    exact q p H1 s1 e1
  · walk_at "sts"
    refine L_k T hx hi 0 (by decide) ?_
    walk_at "sts"
    refine L_dF (by decide) ?_
    walk_at "sts"
    refine L_k T hx hi 3 (by decide) ?_
    walk_at "sts"
    refine L_dF (by decide) ?_
    walk_at "sts"
    refine L_k T hx hi 1 (by decide) ?_
    walk_at "sts"
    refine L_dF (by decide) ?_
    walk_at "sts"
    refine L_k T hx hi 2 (by decide) ?_
    walk_at "sts"
    refine L_dF (by decide) ?_
    walk_at "sts"
    refine L_k T hx hi 4 (by decide) ?_
    walk_at "sts"
    refine L_dF (by decide) ?_
    walk_at "sts"
    walk_at "nw"
    rename_i p hp H1 s1 e1
    walk_at "sts"
    exact q p H1 s1 e1
  · walk_at "sts"
    refine L_k T hx hi 0 (by decide) ?_
    walk_at "sts"
    refine L_dF (by decide) ?_
    walk_at "sts"
    refine L_k T hx hi 3 (by decide) ?_
    walk_at "sts"
    refine L_dF (by decide) ?_
    walk_at "sts"
    refine L_k T hx hi 1 (by decide) ?_
    walk_at "sts"
    refine L_dF (by decide) ?_
    walk_at "sts"
    refine L_k T hx hi 2 (by decide) ?_
    walk_at "sts"
    refine L_dF (by decide) ?_
    walk_at "sts"
    refine L_k T hx hi 4 (by decide) ?_
    walk_at "sts"
    refine L_dF (by decide) ?_
    walk_at "sts"
    walk_at "nw"
    rename_i p hp H1 s1 e1
    walk_at "sts"
    exact q p H1 s1 e1
  · walk_at "sts"
    refine L_k T hx hi 0 (by decide) ?_
    walk_at "sts"
    refine L_dF (by decide) ?_
    walk_at "sts"
    refine L_k T hx hi 3 (by decide) ?_
    walk_at "sts"
    refine L_dF (by decide) ?_
    walk_at "sts"
    refine L_k T hx hi 1 (by decide) ?_
    walk_at "sts"
    refine L_dF (by decide) ?_
    walk_at "sts"
    refine L_k T hx hi 2 (by decide) ?_
    walk_at "sts"
    refine L_dF (by decide) ?_
    walk_at "sts"
    refine L_k T hx hi 4 (by decide) ?_
    walk_at "sts"
    refine L_dF (by decide) ?_
    walk_at "sts"
    walk_at "nw"
    rename_i p hp H1 s1 e1
    walk_at "sts"
    exact q p H1 s1 e1
  · walk_at "sts"
    refine L_k T hx hi 0 (by decide) ?_
    walk_at "sts"
    refine L_dF (by decide) ?_
    walk_at "sts"
    refine L_k T hx hi 3 (by decide) ?_
    walk_at "sts"
    refine L_dF (by decide) ?_
    walk_at "sts"
    refine L_k T hx hi 1 (by decide) ?_
    walk_at "sts"
    refine L_dF (by decide) ?_
    walk_at "sts"
    refine L_k T hx hi 2 (by decide) ?_
    walk_at "sts"
    refine L_dF (by decide) ?_
    walk_at "sts"
    refine L_k T hx hi 4 (by decide) ?_
    walk_at "sts"
    refine L_dF (by decide) ?_
    walk_at "sts"
    walk_at "nw"
    rename_i p hp H1 s1 e1
    walk_at "sts"
    exact q p H1 s1 e1
  · walk_at "sts"
    refine L_k T hx hi 0 (by decide) ?_
    walk_at "sts"
    refine L_dF (by decide) ?_
    walk_at "sts"
    refine L_k T hx hi 3 (by decide) ?_
    walk_at "sts"
    refine L_dF (by decide) ?_
    walk_at "sts"
    refine L_k T hx hi 1 (by decide) ?_
    walk_at "sts"
    refine L_dF (by decide) ?_
    walk_at "sts"
    refine L_k T hx hi 2 (by decide) ?_
    walk_at "sts"
    refine L_dF (by decide) ?_
    walk_at "sts"
    refine L_k T hx hi 4 (by decide) ?_
    walk_at "sts"
    refine L_dF (by decide) ?_
    walk_at "sts"
    walk_at "nw"
    rename_i p hp H1 s1 e1
    walk_at "sts"
    exact q p H1 s1 e1
  · walk_at "sts"
    refine L_k T hx hi 0 (by decide) ?_
    walk_at "sts"
    refine L_dF (by decide) ?_
    walk_at "sts"
    refine L_k T hx hi 3 (by decide) ?_
    walk_at "sts"
    refine L_dF (by decide) ?_
    walk_at "sts"
    refine L_k T hx hi 1 (by decide) ?_
    walk_at "sts"
    refine L_dF (by decide) ?_
    walk_at "sts"
    refine L_k T hx hi 2 (by decide) ?_
    walk_at "sts"
    refine L_dF (by decide) ?_
    walk_at "sts"
    refine L_k T hx hi 4 (by decide) ?_
    walk_at "sts"
    refine L_dF (by decide) ?_
    walk_at "sts"
    walk_at "nw"
    rename_i p hp H1 s1 e1
    walk_at "sts"
    exact q p H1 s1 e1
  · walk_at "sts"
    refine L_k T hx hi 0 (by decide) ?_
    walk_at "sts"
    refine L_dF (by decide) ?_
    walk_at "sts"
    refine L_k T hx hi 3 (by decide) ?_
    walk_at "sts"
    refine L_dF (by decide) ?_
    walk_at "sts"
    refine L_k T hx hi 1 (by decide) ?_
    walk_at "sts"
    refine L_dF (by decide) ?_
    walk_at "sts"
    refine L_k T hx hi 2 (by decide) ?_
    walk_at "sts"
    refine L_dF (by decide) ?_
    walk_at "sts"
    refine L_k T hx hi 4 (by decide) ?_
    walk_at "sts"
    refine L_dF (by decide) ?_
    walk_at "sts"
    walk_at "nw"
    rename_i p hp H1 s1 e1
    walk_at "sts"
    exact q p H1 s1 e1
def cut (j : Nat) : Int := match j with | 0 => 2 | 1 => 1 | 2 => 1 | 3 => 2 | 4 => 1 | _ => 0
theorem cut_at (j : Nat) (h : j < 13) : atI [V.int 2, .int 1, .int 1, .int 2, .int 1, .int 0] (min (0 + (j : Int)) 5) = some (.int (cut j)) := match j, h with
  | 0, _ => rfl
  | 1, _ => rfl
  | 2, _ => rfl
  | 3, _ => rfl
  | 4, _ => rfl
  | 5, _ => rfl
  | 6, _ => rfl
  | 7, _ => rfl
  | 8, _ => rfl
  | 9, _ => rfl
  | 10, _ => rfl
  | 11, _ => rfl
  | 12, _ => rfl
theorem cut_due {x y : Int} : ∀ j : Nat, cutV [V.int x, .int y] none (some (cut j)) = (due j x y).map V.int
  | 0 => rfl
  | 1 => rfl
  | 2 => rfl
  | 3 => rfl
  | 4 => rfl
  | _ + 5 => rfl
def sp_law (K : PySem.W.Frag) (mg : Str → Option Value) : Sp := fun vs H Q _ => match vs with | [.ref a] => ∃ ns : List Int, SqL K H a (ns.map V.int) ∧ ns.length ≤ 63 ∧ (∀ z ∈ ns, Builtin.Int.intBits z ≤ 1048576) ∧ ∀ H', Q (.bl true) H' | _ => False
theorem q_law {H : Hp} {Q : VK} {E : XK} {a : Addr} (q : ∃ ns : List Int, SqL K H a (ns.map V.int) ∧ ns.length ≤ 63 ∧ (∀ z ∈ ns, Builtin.Int.intBits z ≤ 1048576) ∧ ∀ H', Q (.bl true) H') : sp_law K mg [.ref a] H Q E := q
local macro_rules | `(tactic| walk_at "op") => `(tactic| with_reducible refine q_law ?_)
theorem c_law (T : Txt K mg) {f : Addr} {fd : FuncData} (F : Fun K "law" "law" s_law f fd) : FnOk P w K mg base CX0 4 f fd ["_law_script"] (sp_law K mg) := by
  refine F.ok (k := 3) sc_law (by intro vs H Q E h; unfold sp_law at h; split at h <;> first | rfl | exact h.elim) fun cdv A outer s H vs Q E hr h => ?_
  refine ⟨_, (pss_cons (ps_for PassesOwn.never rfl (pi_range1 (by rfl) T.n_range (pa_cons (pe_callB (call_max2A rfl) (by rfl) T.n_max (by decide +kernel) (pa_cons pe_int (pa_cons (pe_callB (call_min2A rfl) (by rfl) T.n_min (by decide +kernel) (pa_cons pe_int (pa_cons (pe_callB call_lenA (by rfl) T.n_len (by decide +kernel) (pa_cons (pv 0) pa_nil)) pa_nil))) pa_nil))) pa_nil)) (pg_name (i := 1) sc_law.nd rfl (.inl rfl))
    (pss_cons (ps_set (i := 2) sc_law.nd rfl (.inl rfl) (pe_c (c__law_cell T) hr (by decide) (by rfl) (pa_cons (pv 0) (pa_cons (pv 1) pa_nil))))
    (pss_cons (ps_set (i := 3) sc_law.nd rfl (.inl rfl) (pe_op op_mod (pe_c (c__law_mixed T) hr (by decide) (by rfl) (pa_cons (pv 2) (pa_cons pe_int pa_nil))) pe_int))
    (pss_cons (ps_set (i := 4) sc_law.nd rfl (.inl rfl) (pe_op op_mod (pe_c (c__law_mixed T) hr (by decide) (by rfl) (pa_cons (pv 2) (pa_cons pe_int pa_nil))) pe_int))
    (pss_one (ps_for PassesOwn.never rfl (pi_range1 (by rfl) T.n_range (pa_cons pe_int pa_nil)) (pg_name (i := 5) sc_law.nd rfl (.inr rfl))
    (pss_cons (ps_set (i := 6) sc_law.nd rfl (.inl rfl) (pe_c (c__law_made T) hr (by decide) (by rfl) (pa_cons (pv 5) (pa_cons (pv 3) (pa_cons (pv 4) pa_nil)))))
    (pss_cons (ps_if (PW.pt (pw_or (pt_not (pt_val (pe_callB call_isV (by rfl) T.n_isinstance (by decide +kernel) (pa_cons (pv 6) (pa_cons (pe_glob (v := .ref (cA mg "SpeakError")) (by rfl) T.m_SpeakError rfl) pa_nil))))) (pw_or1 (pt_not (pt_val (pe_callB call_isV (by rfl) T.n_isinstance (by decide +kernel) (pa_cons (pv 6) (pa_cons (pe_ty "ValueError" (by rfl) T.n_ValueError (by decide +kernel)) pa_nil))))))))
    (pss_one (ps_ret pe_bl))
    pss_nil)
    (pss_cons (ps_if (pt_cmpR (op_neA hr) (pe_c (c__law_kinds T) hr (by decide) (by rfl) (pa_cons (pv 6) pa_nil)) (pe_lc (own := [("_law_j", 8)]) (g := (gName 8)) (tt := tYes) (te := (tOp (aEq K) (tVar 5) (tVar 8))) rfl sc_law.nd (pi_range1 (by rfl) T.n_range (pa_cons pe_int pa_nil)) (blkOk_by (N := ["_law_script", "_law_k", "_law_cell_here", "_law_one", "_law_other", "_law_way", "_law_error", "_law_due", "_law_j"]) (sc := defScope s_law) (by decide +kernel)) (fun _ _ _ _ _ => by exact (pg_name (i := 8) sc_law.nd rfl (.inl rfl))) (fun _ _ _ _ _ => pts_nil) (fun _ _ _ _ _ => by exact (pe_cmpR (op_eqA hr) (pv 5) (pv 8) (nomark _)))) (nomark _))
    (pss_one (ps_ret pe_bl))
    pss_nil)
    (pss_cons (ps_set (i := 7) sc_law.nd rfl (.inl rfl) (pe_slice sl_list (pe_lst (pa_cons (pv 3) (pa_cons (pv 4) pa_nil))) po_none (po_some (pe_ix ix_seq (pe_lst (pa_cons pe_int (pa_cons pe_int (pa_cons pe_int (pa_cons pe_int (pa_cons pe_int (pa_cons pe_int pa_nil))))))) (pe_callB (call_min2A rfl) (by rfl) T.n_min (by decide +kernel) (pa_cons (pv 5) (pa_cons pe_int pa_nil))) (fun _ _ => rfl)))))
    (pss_one (ps_if (pt_cmpR (op_neA hr) (pe_c (c__law_fields T) hr (by decide) (by rfl) (pa_cons (pv 6) pa_nil)) (pv 7) (nomark _))
    (pss_one (ps_ret pe_bl))
    pss_nil))))))))))))
    (pss_one (ps_ret pe_bl))), ?_⟩
  try simp only [cxOf_K, cxOf_K', cxOf_mg, cxOf_mg']
  unfold sp_law at h
  split at h
  case h_2 => exact h.elim
  rename_i a
  rw [show L2.start ["_law_script", "_law_k", "_law_cell_here", "_law_one", "_law_other", "_law_way", "_law_error", "_law_due", "_law_j"] [V.ref a] = [some (V.ref a), none, none, none, none, none, none, none, none] from rfl]
  obtain ⟨ns, hS, hl, hbits, q⟩ := h
  walk_at "sts"
  refine L_lenL hS ?_
  walk_at "sts"
  rw [List.length_map]
  refine L_r1 (by omega) (by omega) ?_
  refine f_range (fun i σ' H' => Same H H' ∧ ∃ v1 v2 v3 v4 v5 v6 v7 v8 : Option V, σ' = [some (.ref a), v1, v2, v3, v4, v5, v6, v7, v8]) ⟨Same.refl _, _, _, _, _, _, _, _, _, rfl⟩ ?_ ?_
  · rintro i σ' H0 hi ⟨s0, v1, v2, v3, v4, v5, v6, v7, v8, rfl⟩
    walk_at "sts"
    refine ⟨ns, s0.seq hS, by omega, by omega, fun c => ?_⟩
    walk_at "sts"
    refine ⟨by decide, by decide, fun x0 x00 x01 => ?_⟩
    walk_at "sa"
    generalize x0 % 1000 = x
    refine ⟨by decide, by decide, fun y0 y00 y01 => ?_⟩
    walk_at "sa"
    generalize y0 % 1000 = y
    refine L_r1 (by omega) (by omega) ?_
    refine f_range (fun i' σ' H' => Same H H' ∧ ∃ (k : Int) (v2 v5 v6 v7 v8 : Option V), σ' = [some (.ref a), some (.int k), v2, some (.int x), some (.int y), v5, v6, v7, v8]) ⟨s0, _, _, _, _, _, _, rfl⟩ ?_ ?_
    · rintro j σ' H1 hj ⟨s1, k, v2, v5, v6, v7, v8, rfl⟩
      have hj' : j < 13 := by omega
      walk_at "sts"
      refine ⟨j, by omega, hj', fun e H2 s2 hx => ?_⟩
      walk_at "sts"
      refine L_isV hx (z_of T j hj') (.own _) (kit_ref (by have := e_of T j j hj' hj'; rwa [decide_eq_true rfl] at this) T.y_SpeakError (s_of T j hj')) ?_
      walk_at "sts"
      refine L_isV hx (z_of T j hj') (.ty _) (kit_typ (by decide +kernel) (t_of T j hj')) ?_
      walk_at "sts"
      refine ⟨j, _, hj', hx, fun p H3 s3 e3 => ?_⟩
      walk_at "sts"
      refine L_r1 (by omega) (by omega) ?_
      refine lc_fm walk_range (fun m => some (V.bl (decide ((0 + (j : Int)) = 0 + (m : Int))))) (by omega) (fun _ _ => True.intro) ?_ ?_
      · rintro m x1 Ha Hb R R' hm sm ⟨rfl, rfl⟩ q1 q2
        walk_at "sts"
        refine ⟨rfl, ?_⟩
        walk_at "sts"
        exact q1 _ _ rfl (Same.refl _)
      intro p4 H4 hp4 s4 e4
      rw [show (fun m : Nat => some (V.bl (decide ((0 + (j : Int)) = 0 + (m : Int))))) = fun m => some ((fun b => V.bl b) (decide (j = m))) from funext fun m => congrArg (fun b => some (V.bl b)) (decide_eq_decide.mpr (by omega)), fm_map, List.map_map] at e4
      refine L_neR (d := .list ((List.range 13).map fun m => .bool (decide (j = m)))) (.lst (.of (s4 _ _ e3)) (dp_bools _ _)) (.lst (.of e4) (dp_bools _ _)) (shp_lst (n := 1) (shp_map fun _ _ => shp_bl)).ok ?_
      walk_at "sts"
      walk_at "nw"
      rename_i p5 hp5 H5 s5 e5
      walk_at "sts"
      walk_at "nw"
      rename_i p6 hp6 H6 s6 e6
      walk_at "sa"
      refine L_ixL (.of e6) (cut_at j hj') ?_
      walk_at "sts"
      refine L_slL (.of (s6 _ _ e5)) ?_
      walk_at "nwp"
      rename_i p7 hp7 H7 s7 e7
      rw [cut_due] at e7
      walk_at "sts"
      have s27 : Same H2 H7 := s3.trans (s4.trans (s5.trans (s6.trans s7)))
      refine ⟨j, x, y, hj', hx.same s27, fun p8 H8 s8 e8 => ?_⟩
      walk_at "sts"
      refine L_neR (.ints (.of e8)) (.ints (.of (s8 _ _ e7))) (shp_ints (n := 0)).ok ?_
      walk_at "sts"
      exact ⟨s1.trans (s2.trans (s27.trans s8)), _, _, _, _, _, _, rfl⟩
    · rintro σ' H1 ⟨s1, k, v2, v5, v6, v7, v8, rfl⟩
      walk_at "sts"
      exact ⟨s1, _, _, _, _, _, _, _, _, rfl⟩
  · rintro σ' H0 ⟨s0, v1, v2, v3, v4, v5, v6, v7, v8, rfl⟩
    walk_at "sts"
    exact q _
end
theorem txt_mk {K : PySem.W.Frag} {h : Heap} {mg : Str → Option Value} (X : K.In h) (G : h.Ns mainGlobals mg)
    (z_n_len : PySem.W.nsIn K mainGlobals "len" = some none)
    {C_SpeakError : Addr} (aC_SpeakError : PySem.W.nsIn K mainGlobals "SpeakError" = some (some (.ref C_SpeakError)))
    (bi0_SpeakError : PySem.W.readsIn K C_SpeakError (.type "type") = true) (bi1_SpeakError : PySem.W.specialIn K (.ref C_SpeakError) "__getattribute__" = some (some (.builtin "type.__getattribute__"))) (bi2_SpeakError : PySem.W.findCls K (.ref C_SpeakError) (.type "type") "__init__" = some (.val (.builtin "ValueError.__init__")))
    {C_NoListing : Addr} (aC_NoListing : PySem.W.nsIn K mainGlobals "NoListing" = some (some (.ref C_NoListing)))
    (ox_NoListing : ∃ nm q N bs bm sn sub ab col dd k0 k1 k2 k3 k5, K.lookup C_NoListing = some (excClassObj nm q C_NoListing N bs bm true sn sub ab col dd k0 k1 k2 k3 k5 "ValueError.__new__") ∧ PySem.HandSPX.refsVE bm = true) (o0_NoListing : PySem.W.findIn K (.ref C_NoListing) "__setattr__" = some (some (.builtin "object.__setattr__"))) (o1_NoListing : PySem.W.subIn K (.ref C_NoListing) (.type "BaseException") = some true) (o2_NoListing : PySem.W.typeIn K (.ref C_NoListing) = some (.type "type")) (o3_NoListing : PySem.W.keepIn K (.ref C_NoListing) = true)
    (na_NoListing_line : PySem.W.findIn K (.ref C_NoListing) "line" = some none)
    (na_NoListing_word : PySem.W.findIn K (.ref C_NoListing) "word" = some none)
    {C_NoPlan : Addr} (aC_NoPlan : PySem.W.nsIn K mainGlobals "NoPlan" = some (some (.ref C_NoPlan)))
    (ox_NoPlan : ∃ nm q N bs bm sn sub ab col dd k0 k1 k2 k3 k5, K.lookup C_NoPlan = some (excClassObj nm q C_NoPlan N bs bm true sn sub ab col dd k0 k1 k2 k3 k5 "ValueError.__new__") ∧ PySem.HandSPX.refsVE bm = true) (o0_NoPlan : PySem.W.findIn K (.ref C_NoPlan) "__setattr__" = some (some (.builtin "object.__setattr__"))) (o1_NoPlan : PySem.W.subIn K (.ref C_NoPlan) (.type "BaseException") = some true) (o2_NoPlan : PySem.W.typeIn K (.ref C_NoPlan) = some (.type "type")) (o3_NoPlan : PySem.W.keepIn K (.ref C_NoPlan) = true)
    (na_NoPlan_place : PySem.W.findIn K (.ref C_NoPlan) "place" = some none)
    {C_NoThrow : Addr} (aC_NoThrow : PySem.W.nsIn K mainGlobals "NoThrow" = some (some (.ref C_NoThrow)))
    (ox_NoThrow : ∃ nm q N bs bm sn sub ab col dd k0 k1 k2 k3 k5, K.lookup C_NoThrow = some (excClassObj nm q C_NoThrow N bs bm true sn sub ab col dd k0 k1 k2 k3 k5 "ValueError.__new__") ∧ PySem.HandSPX.refsVE bm = true) (o0_NoThrow : PySem.W.findIn K (.ref C_NoThrow) "__setattr__" = some (some (.builtin "object.__setattr__"))) (o1_NoThrow : PySem.W.subIn K (.ref C_NoThrow) (.type "BaseException") = some true) (o2_NoThrow : PySem.W.typeIn K (.ref C_NoThrow) = some (.type "type")) (o3_NoThrow : PySem.W.keepIn K (.ref C_NoThrow) = true)
    (na_NoThrow_place : PySem.W.findIn K (.ref C_NoThrow) "place" = some none)
    {C_NoSpread : Addr} (aC_NoSpread : PySem.W.nsIn K mainGlobals "NoSpread" = some (some (.ref C_NoSpread)))
    (ox_NoSpread : ∃ nm q N bs bm sn sub ab col dd k0 k1 k2 k3 k5, K.lookup C_NoSpread = some (excClassObj nm q C_NoSpread N bs bm true sn sub ab col dd k0 k1 k2 k3 k5 "ValueError.__new__") ∧ PySem.HandSPX.refsVE bm = true) (o0_NoSpread : PySem.W.findIn K (.ref C_NoSpread) "__setattr__" = some (some (.builtin "object.__setattr__"))) (o1_NoSpread : PySem.W.subIn K (.ref C_NoSpread) (.type "BaseException") = some true) (o2_NoSpread : PySem.W.typeIn K (.ref C_NoSpread) = some (.type "type")) (o3_NoSpread : PySem.W.keepIn K (.ref C_NoSpread) = true)
    (na_NoSpread_one : PySem.W.findIn K (.ref C_NoSpread) "one" = some none)
    (na_NoSpread_other : PySem.W.findIn K (.ref C_NoSpread) "other" = some none)
    {C_NoTable : Addr} (aC_NoTable : PySem.W.nsIn K mainGlobals "NoTable" = some (some (.ref C_NoTable)))
    (ox_NoTable : ∃ nm q N bs bm sn sub ab col dd k0 k1 k2 k3 k5, K.lookup C_NoTable = some (excClassObj nm q C_NoTable N bs bm true sn sub ab col dd k0 k1 k2 k3 k5 "ValueError.__new__") ∧ PySem.HandSPX.refsVE bm = true) (o0_NoTable : PySem.W.findIn K (.ref C_NoTable) "__setattr__" = some (some (.builtin "object.__setattr__"))) (o1_NoTable : PySem.W.subIn K (.ref C_NoTable) (.type "BaseException") = some true) (o2_NoTable : PySem.W.typeIn K (.ref C_NoTable) = some (.type "type")) (o3_NoTable : PySem.W.keepIn K (.ref C_NoTable) = true)
    (na_NoTable_row : PySem.W.findIn K (.ref C_NoTable) "row" = some none)
    (z_n_isinstance : PySem.W.nsIn K mainGlobals "isinstance" = some none)
    {C_NoAnswers : Addr} (aC_NoAnswers : PySem.W.nsIn K mainGlobals "NoAnswers" = some (some (.ref C_NoAnswers)))
    {C_NoBounds : Addr} (aC_NoBounds : PySem.W.nsIn K mainGlobals "NoBounds" = some (some (.ref C_NoBounds)))
    {C_NoLevel : Addr} (aC_NoLevel : PySem.W.nsIn K mainGlobals "NoLevel" = some (some (.ref C_NoLevel)))
    {C_NoLot : Addr} (aC_NoLot : PySem.W.nsIn K mainGlobals "NoLot" = some (some (.ref C_NoLot)))
    {C_NoThing : Addr} (aC_NoThing : PySem.W.nsIn K mainGlobals "NoThing" = some (some (.ref C_NoThing)))
    {C_NoTurn : Addr} (aC_NoTurn : PySem.W.nsIn K mainGlobals "NoTurn" = some (some (.ref C_NoTurn)))
    {C_NoUnits : Addr} (aC_NoUnits : PySem.W.nsIn K mainGlobals "NoUnits" = some (some (.ref C_NoUnits)))
    {C_TooMany : Addr} (aC_TooMany : PySem.W.nsIn K mainGlobals "TooMany" = some (some (.ref C_TooMany)))
    (xx_NoAnswers : PySem.W.excIn K C_NoAnswers [.type "ValueError", .type "Exception", .type "BaseException", .type "object"] "ValueError.__new__" = true) (xk_NoAnswers : PySem.W.keepIn K (.ref C_NoAnswers) = true) (xb_NoAnswers : PySem.W.subIn K (.ref C_NoAnswers) (.type "BaseException") = some true) (xt_NoAnswers : PySem.W.typeIn K (.ref C_NoAnswers) = some (.type "type"))
    (xx_NoBounds : PySem.W.excIn K C_NoBounds [.type "ValueError", .type "Exception", .type "BaseException", .type "object"] "ValueError.__new__" = true) (xk_NoBounds : PySem.W.keepIn K (.ref C_NoBounds) = true) (xb_NoBounds : PySem.W.subIn K (.ref C_NoBounds) (.type "BaseException") = some true) (xt_NoBounds : PySem.W.typeIn K (.ref C_NoBounds) = some (.type "type"))
    (xx_NoLevel : PySem.W.excIn K C_NoLevel [.type "ValueError", .type "Exception", .type "BaseException", .type "object"] "ValueError.__new__" = true) (xk_NoLevel : PySem.W.keepIn K (.ref C_NoLevel) = true) (xb_NoLevel : PySem.W.subIn K (.ref C_NoLevel) (.type "BaseException") = some true) (xt_NoLevel : PySem.W.typeIn K (.ref C_NoLevel) = some (.type "type"))
    (xx_NoLot : PySem.W.excIn K C_NoLot [.type "ValueError", .type "Exception", .type "BaseException", .type "object"] "ValueError.__new__" = true) (xk_NoLot : PySem.W.keepIn K (.ref C_NoLot) = true) (xb_NoLot : PySem.W.subIn K (.ref C_NoLot) (.type "BaseException") = some true) (xt_NoLot : PySem.W.typeIn K (.ref C_NoLot) = some (.type "type"))
    (xx_NoThing : PySem.W.excIn K C_NoThing [.type "ValueError", .type "Exception", .type "BaseException", .type "object"] "ValueError.__new__" = true) (xk_NoThing : PySem.W.keepIn K (.ref C_NoThing) = true) (xb_NoThing : PySem.W.subIn K (.ref C_NoThing) (.type "BaseException") = some true) (xt_NoThing : PySem.W.typeIn K (.ref C_NoThing) = some (.type "type"))
    (xx_NoTurn : PySem.W.excIn K C_NoTurn [.type "ValueError", .type "Exception", .type "BaseException", .type "object"] "ValueError.__new__" = true) (xk_NoTurn : PySem.W.keepIn K (.ref C_NoTurn) = true) (xb_NoTurn : PySem.W.subIn K (.ref C_NoTurn) (.type "BaseException") = some true) (xt_NoTurn : PySem.W.typeIn K (.ref C_NoTurn) = some (.type "type"))
    (xx_NoUnits : PySem.W.excIn K C_NoUnits [.type "ValueError", .type "Exception", .type "BaseException", .type "object"] "ValueError.__new__" = true) (xk_NoUnits : PySem.W.keepIn K (.ref C_NoUnits) = true) (xb_NoUnits : PySem.W.subIn K (.ref C_NoUnits) (.type "BaseException") = some true) (xt_NoUnits : PySem.W.typeIn K (.ref C_NoUnits) = some (.type "type"))
    (xx_TooMany : PySem.W.excIn K C_TooMany [.type "ValueError", .type "Exception", .type "BaseException", .type "object"] "ValueError.__new__" = true) (xk_TooMany : PySem.W.keepIn K (.ref C_TooMany) = true) (xb_TooMany : PySem.W.subIn K (.ref C_TooMany) (.type "BaseException") = some true) (xt_TooMany : PySem.W.typeIn K (.ref C_TooMany) = some (.type "type"))
    (z_n_ValueError : PySem.W.nsIn K mainGlobals "ValueError" = some none)
    (z_n_max : PySem.W.nsIn K mainGlobals "max" = some none)
    (z_n_min : PySem.W.nsIn K mainGlobals "min" = some none)
    (z_n_range : PySem.W.nsIn K mainGlobals "range" = some none)
    (z0_NoListing : PySem.W.findIn K (.ref C_NoListing) "__getattribute__" = some (some (.builtin "BaseException.__getattribute__"))) (z1_NoListing : PySem.W.findIn K (.ref C_NoListing) "__getattr__" = some none) (z2_NoListing : PySem.W.subIn K (.ref C_NoListing) (.type "BaseException") = some true) (z3_NoListing : PySem.W.hasDictIn K C_NoListing = true) (z4_NoListing : PySem.W.findIn K (.ref C_NoListing) "__class__" = some (some (.builtin "object.__class__"))) (z5_NoListing : PySem.W.specialIn K (.builtin "object.__class__") "__get__" = some (some (.builtin "getset_descriptor.__get__"))) (z6_NoListing : PySem.W.takesIn K (.builtin "object.__class__") = some true) (z7_NoListing : PySem.W.mroIn K C_NoListing (.type "object") = some true)
    (z0_NoPlan : PySem.W.findIn K (.ref C_NoPlan) "__getattribute__" = some (some (.builtin "BaseException.__getattribute__"))) (z1_NoPlan : PySem.W.findIn K (.ref C_NoPlan) "__getattr__" = some none) (z2_NoPlan : PySem.W.subIn K (.ref C_NoPlan) (.type "BaseException") = some true) (z3_NoPlan : PySem.W.hasDictIn K C_NoPlan = true) (z4_NoPlan : PySem.W.findIn K (.ref C_NoPlan) "__class__" = some (some (.builtin "object.__class__"))) (z5_NoPlan : PySem.W.specialIn K (.builtin "object.__class__") "__get__" = some (some (.builtin "getset_descriptor.__get__"))) (z6_NoPlan : PySem.W.takesIn K (.builtin "object.__class__") = some true) (z7_NoPlan : PySem.W.mroIn K C_NoPlan (.type "object") = some true)
    (z0_NoThrow : PySem.W.findIn K (.ref C_NoThrow) "__getattribute__" = some (some (.builtin "BaseException.__getattribute__"))) (z1_NoThrow : PySem.W.findIn K (.ref C_NoThrow) "__getattr__" = some none) (z2_NoThrow : PySem.W.subIn K (.ref C_NoThrow) (.type "BaseException") = some true) (z3_NoThrow : PySem.W.hasDictIn K C_NoThrow = true) (z4_NoThrow : PySem.W.findIn K (.ref C_NoThrow) "__class__" = some (some (.builtin "object.__class__"))) (z5_NoThrow : PySem.W.specialIn K (.builtin "object.__class__") "__get__" = some (some (.builtin "getset_descriptor.__get__"))) (z6_NoThrow : PySem.W.takesIn K (.builtin "object.__class__") = some true) (z7_NoThrow : PySem.W.mroIn K C_NoThrow (.type "object") = some true)
    (z0_NoSpread : PySem.W.findIn K (.ref C_NoSpread) "__getattribute__" = some (some (.builtin "BaseException.__getattribute__"))) (z1_NoSpread : PySem.W.findIn K (.ref C_NoSpread) "__getattr__" = some none) (z2_NoSpread : PySem.W.subIn K (.ref C_NoSpread) (.type "BaseException") = some true) (z3_NoSpread : PySem.W.hasDictIn K C_NoSpread = true) (z4_NoSpread : PySem.W.findIn K (.ref C_NoSpread) "__class__" = some (some (.builtin "object.__class__"))) (z5_NoSpread : PySem.W.specialIn K (.builtin "object.__class__") "__get__" = some (some (.builtin "getset_descriptor.__get__"))) (z6_NoSpread : PySem.W.takesIn K (.builtin "object.__class__") = some true) (z7_NoSpread : PySem.W.mroIn K C_NoSpread (.type "object") = some true)
    (z0_NoTable : PySem.W.findIn K (.ref C_NoTable) "__getattribute__" = some (some (.builtin "BaseException.__getattribute__"))) (z1_NoTable : PySem.W.findIn K (.ref C_NoTable) "__getattr__" = some none) (z2_NoTable : PySem.W.subIn K (.ref C_NoTable) (.type "BaseException") = some true) (z3_NoTable : PySem.W.hasDictIn K C_NoTable = true) (z4_NoTable : PySem.W.findIn K (.ref C_NoTable) "__class__" = some (some (.builtin "object.__class__"))) (z5_NoTable : PySem.W.specialIn K (.builtin "object.__class__") "__get__" = some (some (.builtin "getset_descriptor.__get__"))) (z6_NoTable : PySem.W.takesIn K (.builtin "object.__class__") = some true) (z7_NoTable : PySem.W.mroIn K C_NoTable (.type "object") = some true)
    (z0_NoUnits : PySem.W.findIn K (.ref C_NoUnits) "__getattribute__" = some (some (.builtin "BaseException.__getattribute__"))) (z1_NoUnits : PySem.W.findIn K (.ref C_NoUnits) "__getattr__" = some none) (z2_NoUnits : PySem.W.subIn K (.ref C_NoUnits) (.type "BaseException") = some true) (z3_NoUnits : PySem.W.hasDictIn K C_NoUnits = true) (z4_NoUnits : PySem.W.findIn K (.ref C_NoUnits) "__class__" = some (some (.builtin "object.__class__"))) (z5_NoUnits : PySem.W.specialIn K (.builtin "object.__class__") "__get__" = some (some (.builtin "getset_descriptor.__get__"))) (z6_NoUnits : PySem.W.takesIn K (.builtin "object.__class__") = some true) (z7_NoUnits : PySem.W.mroIn K C_NoUnits (.type "object") = some true)
    (z0_NoLevel : PySem.W.findIn K (.ref C_NoLevel) "__getattribute__" = some (some (.builtin "BaseException.__getattribute__"))) (z1_NoLevel : PySem.W.findIn K (.ref C_NoLevel) "__getattr__" = some none) (z2_NoLevel : PySem.W.subIn K (.ref C_NoLevel) (.type "BaseException") = some true) (z3_NoLevel : PySem.W.hasDictIn K C_NoLevel = true) (z4_NoLevel : PySem.W.findIn K (.ref C_NoLevel) "__class__" = some (some (.builtin "object.__class__"))) (z5_NoLevel : PySem.W.specialIn K (.builtin "object.__class__") "__get__" = some (some (.builtin "getset_descriptor.__get__"))) (z6_NoLevel : PySem.W.takesIn K (.builtin "object.__class__") = some true) (z7_NoLevel : PySem.W.mroIn K C_NoLevel (.type "object") = some true)
    (z0_TooMany : PySem.W.findIn K (.ref C_TooMany) "__getattribute__" = some (some (.builtin "BaseException.__getattribute__"))) (z1_TooMany : PySem.W.findIn K (.ref C_TooMany) "__getattr__" = some none) (z2_TooMany : PySem.W.subIn K (.ref C_TooMany) (.type "BaseException") = some true) (z3_TooMany : PySem.W.hasDictIn K C_TooMany = true) (z4_TooMany : PySem.W.findIn K (.ref C_TooMany) "__class__" = some (some (.builtin "object.__class__"))) (z5_TooMany : PySem.W.specialIn K (.builtin "object.__class__") "__get__" = some (some (.builtin "getset_descriptor.__get__"))) (z6_TooMany : PySem.W.takesIn K (.builtin "object.__class__") = some true) (z7_TooMany : PySem.W.mroIn K C_TooMany (.type "object") = some true)
    (z0_NoTurn : PySem.W.findIn K (.ref C_NoTurn) "__getattribute__" = some (some (.builtin "BaseException.__getattribute__"))) (z1_NoTurn : PySem.W.findIn K (.ref C_NoTurn) "__getattr__" = some none) (z2_NoTurn : PySem.W.subIn K (.ref C_NoTurn) (.type "BaseException") = some true) (z3_NoTurn : PySem.W.hasDictIn K C_NoTurn = true) (z4_NoTurn : PySem.W.findIn K (.ref C_NoTurn) "__class__" = some (some (.builtin "object.__class__"))) (z5_NoTurn : PySem.W.specialIn K (.builtin "object.__class__") "__get__" = some (some (.builtin "getset_descriptor.__get__"))) (z6_NoTurn : PySem.W.takesIn K (.builtin "object.__class__") = some true) (z7_NoTurn : PySem.W.mroIn K C_NoTurn (.type "object") = some true)
    (z0_NoThing : PySem.W.findIn K (.ref C_NoThing) "__getattribute__" = some (some (.builtin "BaseException.__getattribute__"))) (z1_NoThing : PySem.W.findIn K (.ref C_NoThing) "__getattr__" = some none) (z2_NoThing : PySem.W.subIn K (.ref C_NoThing) (.type "BaseException") = some true) (z3_NoThing : PySem.W.hasDictIn K C_NoThing = true) (z4_NoThing : PySem.W.findIn K (.ref C_NoThing) "__class__" = some (some (.builtin "object.__class__"))) (z5_NoThing : PySem.W.specialIn K (.builtin "object.__class__") "__get__" = some (some (.builtin "getset_descriptor.__get__"))) (z6_NoThing : PySem.W.takesIn K (.builtin "object.__class__") = some true) (z7_NoThing : PySem.W.mroIn K C_NoThing (.type "object") = some true)
    (z0_NoAnswers : PySem.W.findIn K (.ref C_NoAnswers) "__getattribute__" = some (some (.builtin "BaseException.__getattribute__"))) (z1_NoAnswers : PySem.W.findIn K (.ref C_NoAnswers) "__getattr__" = some none) (z2_NoAnswers : PySem.W.subIn K (.ref C_NoAnswers) (.type "BaseException") = some true) (z3_NoAnswers : PySem.W.hasDictIn K C_NoAnswers = true) (z4_NoAnswers : PySem.W.findIn K (.ref C_NoAnswers) "__class__" = some (some (.builtin "object.__class__"))) (z5_NoAnswers : PySem.W.specialIn K (.builtin "object.__class__") "__get__" = some (some (.builtin "getset_descriptor.__get__"))) (z6_NoAnswers : PySem.W.takesIn K (.builtin "object.__class__") = some true) (z7_NoAnswers : PySem.W.mroIn K C_NoAnswers (.type "object") = some true)
    (z0_NoBounds : PySem.W.findIn K (.ref C_NoBounds) "__getattribute__" = some (some (.builtin "BaseException.__getattribute__"))) (z1_NoBounds : PySem.W.findIn K (.ref C_NoBounds) "__getattr__" = some none) (z2_NoBounds : PySem.W.subIn K (.ref C_NoBounds) (.type "BaseException") = some true) (z3_NoBounds : PySem.W.hasDictIn K C_NoBounds = true) (z4_NoBounds : PySem.W.findIn K (.ref C_NoBounds) "__class__" = some (some (.builtin "object.__class__"))) (z5_NoBounds : PySem.W.specialIn K (.builtin "object.__class__") "__get__" = some (some (.builtin "getset_descriptor.__get__"))) (z6_NoBounds : PySem.W.takesIn K (.builtin "object.__class__") = some true) (z7_NoBounds : PySem.W.mroIn K C_NoBounds (.type "object") = some true)
    (z0_NoLot : PySem.W.findIn K (.ref C_NoLot) "__getattribute__" = some (some (.builtin "BaseException.__getattribute__"))) (z1_NoLot : PySem.W.findIn K (.ref C_NoLot) "__getattr__" = some none) (z2_NoLot : PySem.W.subIn K (.ref C_NoLot) (.type "BaseException") = some true) (z3_NoLot : PySem.W.hasDictIn K C_NoLot = true) (z4_NoLot : PySem.W.findIn K (.ref C_NoLot) "__class__" = some (some (.builtin "object.__class__"))) (z5_NoLot : PySem.W.specialIn K (.builtin "object.__class__") "__get__" = some (some (.builtin "getset_descriptor.__get__"))) (z6_NoLot : PySem.W.takesIn K (.builtin "object.__class__") = some true) (z7_NoLot : PySem.W.mroIn K C_NoLot (.type "object") = some true)
    (yb_NoListing : PySem.W.subIn K (.ref C_NoListing) (.type "BaseException") = some true) (yi_NoListing : PySem.W.isClsIn K C_NoListing = true) (yt_NoListing : PySem.W.typeIn K (.ref C_NoListing) = some (.type "type"))
    (yb_NoPlan : PySem.W.subIn K (.ref C_NoPlan) (.type "BaseException") = some true) (yi_NoPlan : PySem.W.isClsIn K C_NoPlan = true) (yt_NoPlan : PySem.W.typeIn K (.ref C_NoPlan) = some (.type "type"))
    (yb_NoThrow : PySem.W.subIn K (.ref C_NoThrow) (.type "BaseException") = some true) (yi_NoThrow : PySem.W.isClsIn K C_NoThrow = true) (yt_NoThrow : PySem.W.typeIn K (.ref C_NoThrow) = some (.type "type"))
    (yb_NoSpread : PySem.W.subIn K (.ref C_NoSpread) (.type "BaseException") = some true) (yi_NoSpread : PySem.W.isClsIn K C_NoSpread = true) (yt_NoSpread : PySem.W.typeIn K (.ref C_NoSpread) = some (.type "type"))
    (yb_NoTable : PySem.W.subIn K (.ref C_NoTable) (.type "BaseException") = some true) (yi_NoTable : PySem.W.isClsIn K C_NoTable = true) (yt_NoTable : PySem.W.typeIn K (.ref C_NoTable) = some (.type "type"))
    (yb_NoUnits : PySem.W.subIn K (.ref C_NoUnits) (.type "BaseException") = some true) (yi_NoUnits : PySem.W.isClsIn K C_NoUnits = true) (yt_NoUnits : PySem.W.typeIn K (.ref C_NoUnits) = some (.type "type"))
    (yb_NoLevel : PySem.W.subIn K (.ref C_NoLevel) (.type "BaseException") = some true) (yi_NoLevel : PySem.W.isClsIn K C_NoLevel = true) (yt_NoLevel : PySem.W.typeIn K (.ref C_NoLevel) = some (.type "type"))
    (yb_TooMany : PySem.W.subIn K (.ref C_TooMany) (.type "BaseException") = some true) (yi_TooMany : PySem.W.isClsIn K C_TooMany = true) (yt_TooMany : PySem.W.typeIn K (.ref C_TooMany) = some (.type "type"))
    (yb_NoTurn : PySem.W.subIn K (.ref C_NoTurn) (.type "BaseException") = some true) (yi_NoTurn : PySem.W.isClsIn K C_NoTurn = true) (yt_NoTurn : PySem.W.typeIn K (.ref C_NoTurn) = some (.type "type"))
    (yb_NoThing : PySem.W.subIn K (.ref C_NoThing) (.type "BaseException") = some true) (yi_NoThing : PySem.W.isClsIn K C_NoThing = true) (yt_NoThing : PySem.W.typeIn K (.ref C_NoThing) = some (.type "type"))
    (yb_NoAnswers : PySem.W.subIn K (.ref C_NoAnswers) (.type "BaseException") = some true) (yi_NoAnswers : PySem.W.isClsIn K C_NoAnswers = true) (yt_NoAnswers : PySem.W.typeIn K (.ref C_NoAnswers) = some (.type "type"))
    (yb_NoBounds : PySem.W.subIn K (.ref C_NoBounds) (.type "BaseException") = some true) (yi_NoBounds : PySem.W.isClsIn K C_NoBounds = true) (yt_NoBounds : PySem.W.typeIn K (.ref C_NoBounds) = some (.type "type"))
    (yb_NoLot : PySem.W.subIn K (.ref C_NoLot) (.type "BaseException") = some true) (yi_NoLot : PySem.W.isClsIn K C_NoLot = true) (yt_NoLot : PySem.W.typeIn K (.ref C_NoLot) = some (.type "type"))
    (yb_SpeakError : PySem.W.subIn K (.ref C_SpeakError) (.type "BaseException") = some true) (yi_SpeakError : PySem.W.isClsIn K C_SpeakError = true) (yt_SpeakError : PySem.W.typeIn K (.ref C_SpeakError) = some (.type "type"))
    (es_NoListing_NoListing : PySem.W.subIn K (.ref C_NoListing) (.ref C_NoListing) = some true)
    (es_NoListing_NoPlan : PySem.W.subIn K (.ref C_NoListing) (.ref C_NoPlan) = some false)
    (es_NoListing_NoThrow : PySem.W.subIn K (.ref C_NoListing) (.ref C_NoThrow) = some false)
    (es_NoListing_NoSpread : PySem.W.subIn K (.ref C_NoListing) (.ref C_NoSpread) = some false)
    (es_NoListing_NoTable : PySem.W.subIn K (.ref C_NoListing) (.ref C_NoTable) = some false)
    (es_NoListing_NoUnits : PySem.W.subIn K (.ref C_NoListing) (.ref C_NoUnits) = some false)
    (es_NoListing_NoLevel : PySem.W.subIn K (.ref C_NoListing) (.ref C_NoLevel) = some false)
    (es_NoListing_TooMany : PySem.W.subIn K (.ref C_NoListing) (.ref C_TooMany) = some false)
    (es_NoListing_NoTurn : PySem.W.subIn K (.ref C_NoListing) (.ref C_NoTurn) = some false)
    (es_NoListing_NoThing : PySem.W.subIn K (.ref C_NoListing) (.ref C_NoThing) = some false)
    (es_NoListing_NoAnswers : PySem.W.subIn K (.ref C_NoListing) (.ref C_NoAnswers) = some false)
    (es_NoListing_NoBounds : PySem.W.subIn K (.ref C_NoListing) (.ref C_NoBounds) = some false)
    (es_NoListing_NoLot : PySem.W.subIn K (.ref C_NoListing) (.ref C_NoLot) = some false)
    (es_NoListing_SpeakError : PySem.W.subIn K (.ref C_NoListing) (.ref C_SpeakError) = some true)
    (et_NoListing_ValueError : PySem.W.subIn K (.ref C_NoListing) (.type "ValueError") = some true)
    (es_NoPlan_NoListing : PySem.W.subIn K (.ref C_NoPlan) (.ref C_NoListing) = some false)
    (es_NoPlan_NoPlan : PySem.W.subIn K (.ref C_NoPlan) (.ref C_NoPlan) = some true)
    (es_NoPlan_NoThrow : PySem.W.subIn K (.ref C_NoPlan) (.ref C_NoThrow) = some false)
    (es_NoPlan_NoSpread : PySem.W.subIn K (.ref C_NoPlan) (.ref C_NoSpread) = some false)
    (es_NoPlan_NoTable : PySem.W.subIn K (.ref C_NoPlan) (.ref C_NoTable) = some false)
    (es_NoPlan_NoUnits : PySem.W.subIn K (.ref C_NoPlan) (.ref C_NoUnits) = some false)
    (es_NoPlan_NoLevel : PySem.W.subIn K (.ref C_NoPlan) (.ref C_NoLevel) = some false)
    (es_NoPlan_TooMany : PySem.W.subIn K (.ref C_NoPlan) (.ref C_TooMany) = some false)
    (es_NoPlan_NoTurn : PySem.W.subIn K (.ref C_NoPlan) (.ref C_NoTurn) = some false)
    (es_NoPlan_NoThing : PySem.W.subIn K (.ref C_NoPlan) (.ref C_NoThing) = some false)
    (es_NoPlan_NoAnswers : PySem.W.subIn K (.ref C_NoPlan) (.ref C_NoAnswers) = some false)
    (es_NoPlan_NoBounds : PySem.W.subIn K (.ref C_NoPlan) (.ref C_NoBounds) = some false)
    (es_NoPlan_NoLot : PySem.W.subIn K (.ref C_NoPlan) (.ref C_NoLot) = some false)
    (es_NoPlan_SpeakError : PySem.W.subIn K (.ref C_NoPlan) (.ref C_SpeakError) = some true)
    (et_NoPlan_ValueError : PySem.W.subIn K (.ref C_NoPlan) (.type "ValueError") = some true)
    (es_NoThrow_NoListing : PySem.W.subIn K (.ref C_NoThrow) (.ref C_NoListing) = some false)
    (es_NoThrow_NoPlan : PySem.W.subIn K (.ref C_NoThrow) (.ref C_NoPlan) = some false)
    (es_NoThrow_NoThrow : PySem.W.subIn K (.ref C_NoThrow) (.ref C_NoThrow) = some true)
    (es_NoThrow_NoSpread : PySem.W.subIn K (.ref C_NoThrow) (.ref C_NoSpread) = some false)
    (es_NoThrow_NoTable : PySem.W.subIn K (.ref C_NoThrow) (.ref C_NoTable) = some false)
    (es_NoThrow_NoUnits : PySem.W.subIn K (.ref C_NoThrow) (.ref C_NoUnits) = some false)
    (es_NoThrow_NoLevel : PySem.W.subIn K (.ref C_NoThrow) (.ref C_NoLevel) = some false)
    (es_NoThrow_TooMany : PySem.W.subIn K (.ref C_NoThrow) (.ref C_TooMany) = some false)
    (es_NoThrow_NoTurn : PySem.W.subIn K (.ref C_NoThrow) (.ref C_NoTurn) = some false)
    (es_NoThrow_NoThing : PySem.W.subIn K (.ref C_NoThrow) (.ref C_NoThing) = some false)
    (es_NoThrow_NoAnswers : PySem.W.subIn K (.ref C_NoThrow) (.ref C_NoAnswers) = some false)
    (es_NoThrow_NoBounds : PySem.W.subIn K (.ref C_NoThrow) (.ref C_NoBounds) = some false)
    (es_NoThrow_NoLot : PySem.W.subIn K (.ref C_NoThrow) (.ref C_NoLot) = some false)
    (es_NoThrow_SpeakError : PySem.W.subIn K (.ref C_NoThrow) (.ref C_SpeakError) = some true)
    (et_NoThrow_ValueError : PySem.W.subIn K (.ref C_NoThrow) (.type "ValueError") = some true)
    (es_NoSpread_NoListing : PySem.W.subIn K (.ref C_NoSpread) (.ref C_NoListing) = some false)
    (es_NoSpread_NoPlan : PySem.W.subIn K (.ref C_NoSpread) (.ref C_NoPlan) = some false)
    (es_NoSpread_NoThrow : PySem.W.subIn K (.ref C_NoSpread) (.ref C_NoThrow) = some false)
    (es_NoSpread_NoSpread : PySem.W.subIn K (.ref C_NoSpread) (.ref C_NoSpread) = some true)
    (es_NoSpread_NoTable : PySem.W.subIn K (.ref C_NoSpread) (.ref C_NoTable) = some false)
    (es_NoSpread_NoUnits : PySem.W.subIn K (.ref C_NoSpread) (.ref C_NoUnits) = some false)
    (es_NoSpread_NoLevel : PySem.W.subIn K (.ref C_NoSpread) (.ref C_NoLevel) = some false)
    (es_NoSpread_TooMany : PySem.W.subIn K (.ref C_NoSpread) (.ref C_TooMany) = some false)
    (es_NoSpread_NoTurn : PySem.W.subIn K (.ref C_NoSpread) (.ref C_NoTurn) = some false)
    (es_NoSpread_NoThing : PySem.W.subIn K (.ref C_NoSpread) (.ref C_NoThing) = some false)
    (es_NoSpread_NoAnswers : PySem.W.subIn K (.ref C_NoSpread) (.ref C_NoAnswers) = some false)
    (es_NoSpread_NoBounds : PySem.W.subIn K (.ref C_NoSpread) (.ref C_NoBounds) = some false)
    (es_NoSpread_NoLot : PySem.W.subIn K (.ref C_NoSpread) (.ref C_NoLot) = some false)
    (es_NoSpread_SpeakError : PySem.W.subIn K (.ref C_NoSpread) (.ref C_SpeakError) = some true)
    (et_NoSpread_ValueError : PySem.W.subIn K (.ref C_NoSpread) (.type "ValueError") = some true)
    (es_NoTable_NoListing : PySem.W.subIn K (.ref C_NoTable) (.ref C_NoListing) = some false)
    (es_NoTable_NoPlan : PySem.W.subIn K (.ref C_NoTable) (.ref C_NoPlan) = some false)
    (es_NoTable_NoThrow : PySem.W.subIn K (.ref C_NoTable) (.ref C_NoThrow) = some false)
    (es_NoTable_NoSpread : PySem.W.subIn K (.ref C_NoTable) (.ref C_NoSpread) = some false)
    (es_NoTable_NoTable : PySem.W.subIn K (.ref C_NoTable) (.ref C_NoTable) = some true)
    (es_NoTable_NoUnits : PySem.W.subIn K (.ref C_NoTable) (.ref C_NoUnits) = some false)
    (es_NoTable_NoLevel : PySem.W.subIn K (.ref C_NoTable) (.ref C_NoLevel) = some false)
    (es_NoTable_TooMany : PySem.W.subIn K (.ref C_NoTable) (.ref C_TooMany) = some false)
    (es_NoTable_NoTurn : PySem.W.subIn K (.ref C_NoTable) (.ref C_NoTurn) = some false)
    (es_NoTable_NoThing : PySem.W.subIn K (.ref C_NoTable) (.ref C_NoThing) = some false)
    (es_NoTable_NoAnswers : PySem.W.subIn K (.ref C_NoTable) (.ref C_NoAnswers) = some false)
    (es_NoTable_NoBounds : PySem.W.subIn K (.ref C_NoTable) (.ref C_NoBounds) = some false)
    (es_NoTable_NoLot : PySem.W.subIn K (.ref C_NoTable) (.ref C_NoLot) = some false)
    (es_NoTable_SpeakError : PySem.W.subIn K (.ref C_NoTable) (.ref C_SpeakError) = some true)
    (et_NoTable_ValueError : PySem.W.subIn K (.ref C_NoTable) (.type "ValueError") = some true)
    (es_NoUnits_NoListing : PySem.W.subIn K (.ref C_NoUnits) (.ref C_NoListing) = some false)
    (es_NoUnits_NoPlan : PySem.W.subIn K (.ref C_NoUnits) (.ref C_NoPlan) = some false)
    (es_NoUnits_NoThrow : PySem.W.subIn K (.ref C_NoUnits) (.ref C_NoThrow) = some false)
    (es_NoUnits_NoSpread : PySem.W.subIn K (.ref C_NoUnits) (.ref C_NoSpread) = some false)
    (es_NoUnits_NoTable : PySem.W.subIn K (.ref C_NoUnits) (.ref C_NoTable) = some false)
    (es_NoUnits_NoUnits : PySem.W.subIn K (.ref C_NoUnits) (.ref C_NoUnits) = some true)
    (es_NoUnits_NoLevel : PySem.W.subIn K (.ref C_NoUnits) (.ref C_NoLevel) = some false)
    (es_NoUnits_TooMany : PySem.W.subIn K (.ref C_NoUnits) (.ref C_TooMany) = some false)
    (es_NoUnits_NoTurn : PySem.W.subIn K (.ref C_NoUnits) (.ref C_NoTurn) = some false)
    (es_NoUnits_NoThing : PySem.W.subIn K (.ref C_NoUnits) (.ref C_NoThing) = some false)
    (es_NoUnits_NoAnswers : PySem.W.subIn K (.ref C_NoUnits) (.ref C_NoAnswers) = some false)
    (es_NoUnits_NoBounds : PySem.W.subIn K (.ref C_NoUnits) (.ref C_NoBounds) = some false)
    (es_NoUnits_NoLot : PySem.W.subIn K (.ref C_NoUnits) (.ref C_NoLot) = some false)
    (es_NoUnits_SpeakError : PySem.W.subIn K (.ref C_NoUnits) (.ref C_SpeakError) = some true)
    (et_NoUnits_ValueError : PySem.W.subIn K (.ref C_NoUnits) (.type "ValueError") = some true)
    (es_NoLevel_NoListing : PySem.W.subIn K (.ref C_NoLevel) (.ref C_NoListing) = some false)
    (es_NoLevel_NoPlan : PySem.W.subIn K (.ref C_NoLevel) (.ref C_NoPlan) = some false)
    (es_NoLevel_NoThrow : PySem.W.subIn K (.ref C_NoLevel) (.ref C_NoThrow) = some false)
    (es_NoLevel_NoSpread : PySem.W.subIn K (.ref C_NoLevel) (.ref C_NoSpread) = some false)
    (es_NoLevel_NoTable : PySem.W.subIn K (.ref C_NoLevel) (.ref C_NoTable) = some false)
    (es_NoLevel_NoUnits : PySem.W.subIn K (.ref C_NoLevel) (.ref C_NoUnits) = some false)
    (es_NoLevel_NoLevel : PySem.W.subIn K (.ref C_NoLevel) (.ref C_NoLevel) = some true)
    (es_NoLevel_TooMany : PySem.W.subIn K (.ref C_NoLevel) (.ref C_TooMany) = some false)
    (es_NoLevel_NoTurn : PySem.W.subIn K (.ref C_NoLevel) (.ref C_NoTurn) = some false)
    (es_NoLevel_NoThing : PySem.W.subIn K (.ref C_NoLevel) (.ref C_NoThing) = some false)
    (es_NoLevel_NoAnswers : PySem.W.subIn K (.ref C_NoLevel) (.ref C_NoAnswers) = some false)
    (es_NoLevel_NoBounds : PySem.W.subIn K (.ref C_NoLevel) (.ref C_NoBounds) = some false)
    (es_NoLevel_NoLot : PySem.W.subIn K (.ref C_NoLevel) (.ref C_NoLot) = some false)
    (es_NoLevel_SpeakError : PySem.W.subIn K (.ref C_NoLevel) (.ref C_SpeakError) = some true)
    (et_NoLevel_ValueError : PySem.W.subIn K (.ref C_NoLevel) (.type "ValueError") = some true)
    (es_TooMany_NoListing : PySem.W.subIn K (.ref C_TooMany) (.ref C_NoListing) = some false)
    (es_TooMany_NoPlan : PySem.W.subIn K (.ref C_TooMany) (.ref C_NoPlan) = some false)
    (es_TooMany_NoThrow : PySem.W.subIn K (.ref C_TooMany) (.ref C_NoThrow) = some false)
    (es_TooMany_NoSpread : PySem.W.subIn K (.ref C_TooMany) (.ref C_NoSpread) = some false)
    (es_TooMany_NoTable : PySem.W.subIn K (.ref C_TooMany) (.ref C_NoTable) = some false)
    (es_TooMany_NoUnits : PySem.W.subIn K (.ref C_TooMany) (.ref C_NoUnits) = some false)
    (es_TooMany_NoLevel : PySem.W.subIn K (.ref C_TooMany) (.ref C_NoLevel) = some false)
    (es_TooMany_TooMany : PySem.W.subIn K (.ref C_TooMany) (.ref C_TooMany) = some true)
    (es_TooMany_NoTurn : PySem.W.subIn K (.ref C_TooMany) (.ref C_NoTurn) = some false)
    (es_TooMany_NoThing : PySem.W.subIn K (.ref C_TooMany) (.ref C_NoThing) = some false)
    (es_TooMany_NoAnswers : PySem.W.subIn K (.ref C_TooMany) (.ref C_NoAnswers) = some false)
    (es_TooMany_NoBounds : PySem.W.subIn K (.ref C_TooMany) (.ref C_NoBounds) = some false)
    (es_TooMany_NoLot : PySem.W.subIn K (.ref C_TooMany) (.ref C_NoLot) = some false)
    (es_TooMany_SpeakError : PySem.W.subIn K (.ref C_TooMany) (.ref C_SpeakError) = some true)
    (et_TooMany_ValueError : PySem.W.subIn K (.ref C_TooMany) (.type "ValueError") = some true)
    (es_NoTurn_NoListing : PySem.W.subIn K (.ref C_NoTurn) (.ref C_NoListing) = some false)
    (es_NoTurn_NoPlan : PySem.W.subIn K (.ref C_NoTurn) (.ref C_NoPlan) = some false)
    (es_NoTurn_NoThrow : PySem.W.subIn K (.ref C_NoTurn) (.ref C_NoThrow) = some false)
    (es_NoTurn_NoSpread : PySem.W.subIn K (.ref C_NoTurn) (.ref C_NoSpread) = some false)
    (es_NoTurn_NoTable : PySem.W.subIn K (.ref C_NoTurn) (.ref C_NoTable) = some false)
    (es_NoTurn_NoUnits : PySem.W.subIn K (.ref C_NoTurn) (.ref C_NoUnits) = some false)
    (es_NoTurn_NoLevel : PySem.W.subIn K (.ref C_NoTurn) (.ref C_NoLevel) = some false)
    (es_NoTurn_TooMany : PySem.W.subIn K (.ref C_NoTurn) (.ref C_TooMany) = some false)
    (es_NoTurn_NoTurn : PySem.W.subIn K (.ref C_NoTurn) (.ref C_NoTurn) = some true)
    (es_NoTurn_NoThing : PySem.W.subIn K (.ref C_NoTurn) (.ref C_NoThing) = some false)
    (es_NoTurn_NoAnswers : PySem.W.subIn K (.ref C_NoTurn) (.ref C_NoAnswers) = some false)
    (es_NoTurn_NoBounds : PySem.W.subIn K (.ref C_NoTurn) (.ref C_NoBounds) = some false)
    (es_NoTurn_NoLot : PySem.W.subIn K (.ref C_NoTurn) (.ref C_NoLot) = some false)
    (es_NoTurn_SpeakError : PySem.W.subIn K (.ref C_NoTurn) (.ref C_SpeakError) = some true)
    (et_NoTurn_ValueError : PySem.W.subIn K (.ref C_NoTurn) (.type "ValueError") = some true)
    (es_NoThing_NoListing : PySem.W.subIn K (.ref C_NoThing) (.ref C_NoListing) = some false)
    (es_NoThing_NoPlan : PySem.W.subIn K (.ref C_NoThing) (.ref C_NoPlan) = some false)
    (es_NoThing_NoThrow : PySem.W.subIn K (.ref C_NoThing) (.ref C_NoThrow) = some false)
    (es_NoThing_NoSpread : PySem.W.subIn K (.ref C_NoThing) (.ref C_NoSpread) = some false)
    (es_NoThing_NoTable : PySem.W.subIn K (.ref C_NoThing) (.ref C_NoTable) = some false)
    (es_NoThing_NoUnits : PySem.W.subIn K (.ref C_NoThing) (.ref C_NoUnits) = some false)
    (es_NoThing_NoLevel : PySem.W.subIn K (.ref C_NoThing) (.ref C_NoLevel) = some false)
    (es_NoThing_TooMany : PySem.W.subIn K (.ref C_NoThing) (.ref C_TooMany) = some false)
    (es_NoThing_NoTurn : PySem.W.subIn K (.ref C_NoThing) (.ref C_NoTurn) = some false)
    (es_NoThing_NoThing : PySem.W.subIn K (.ref C_NoThing) (.ref C_NoThing) = some true)
    (es_NoThing_NoAnswers : PySem.W.subIn K (.ref C_NoThing) (.ref C_NoAnswers) = some false)
    (es_NoThing_NoBounds : PySem.W.subIn K (.ref C_NoThing) (.ref C_NoBounds) = some false)
    (es_NoThing_NoLot : PySem.W.subIn K (.ref C_NoThing) (.ref C_NoLot) = some false)
    (es_NoThing_SpeakError : PySem.W.subIn K (.ref C_NoThing) (.ref C_SpeakError) = some true)
    (et_NoThing_ValueError : PySem.W.subIn K (.ref C_NoThing) (.type "ValueError") = some true)
    (es_NoAnswers_NoListing : PySem.W.subIn K (.ref C_NoAnswers) (.ref C_NoListing) = some false)
    (es_NoAnswers_NoPlan : PySem.W.subIn K (.ref C_NoAnswers) (.ref C_NoPlan) = some false)
    (es_NoAnswers_NoThrow : PySem.W.subIn K (.ref C_NoAnswers) (.ref C_NoThrow) = some false)
    (es_NoAnswers_NoSpread : PySem.W.subIn K (.ref C_NoAnswers) (.ref C_NoSpread) = some false)
    (es_NoAnswers_NoTable : PySem.W.subIn K (.ref C_NoAnswers) (.ref C_NoTable) = some false)
    (es_NoAnswers_NoUnits : PySem.W.subIn K (.ref C_NoAnswers) (.ref C_NoUnits) = some false)
    (es_NoAnswers_NoLevel : PySem.W.subIn K (.ref C_NoAnswers) (.ref C_NoLevel) = some false)
    (es_NoAnswers_TooMany : PySem.W.subIn K (.ref C_NoAnswers) (.ref C_TooMany) = some false)
    (es_NoAnswers_NoTurn : PySem.W.subIn K (.ref C_NoAnswers) (.ref C_NoTurn) = some false)
    (es_NoAnswers_NoThing : PySem.W.subIn K (.ref C_NoAnswers) (.ref C_NoThing) = some false)
    (es_NoAnswers_NoAnswers : PySem.W.subIn K (.ref C_NoAnswers) (.ref C_NoAnswers) = some true)
    (es_NoAnswers_NoBounds : PySem.W.subIn K (.ref C_NoAnswers) (.ref C_NoBounds) = some false)
    (es_NoAnswers_NoLot : PySem.W.subIn K (.ref C_NoAnswers) (.ref C_NoLot) = some false)
    (es_NoAnswers_SpeakError : PySem.W.subIn K (.ref C_NoAnswers) (.ref C_SpeakError) = some true)
    (et_NoAnswers_ValueError : PySem.W.subIn K (.ref C_NoAnswers) (.type "ValueError") = some true)
    (es_NoBounds_NoListing : PySem.W.subIn K (.ref C_NoBounds) (.ref C_NoListing) = some false)
    (es_NoBounds_NoPlan : PySem.W.subIn K (.ref C_NoBounds) (.ref C_NoPlan) = some false)
    (es_NoBounds_NoThrow : PySem.W.subIn K (.ref C_NoBounds) (.ref C_NoThrow) = some false)
    (es_NoBounds_NoSpread : PySem.W.subIn K (.ref C_NoBounds) (.ref C_NoSpread) = some false)
    (es_NoBounds_NoTable : PySem.W.subIn K (.ref C_NoBounds) (.ref C_NoTable) = some false)
    (es_NoBounds_NoUnits : PySem.W.subIn K (.ref C_NoBounds) (.ref C_NoUnits) = some false)
    (es_NoBounds_NoLevel : PySem.W.subIn K (.ref C_NoBounds) (.ref C_NoLevel) = some false)
    (es_NoBounds_TooMany : PySem.W.subIn K (.ref C_NoBounds) (.ref C_TooMany) = some false)
    (es_NoBounds_NoTurn : PySem.W.subIn K (.ref C_NoBounds) (.ref C_NoTurn) = some false)
    (es_NoBounds_NoThing : PySem.W.subIn K (.ref C_NoBounds) (.ref C_NoThing) = some false)
    (es_NoBounds_NoAnswers : PySem.W.subIn K (.ref C_NoBounds) (.ref C_NoAnswers) = some false)
    (es_NoBounds_NoBounds : PySem.W.subIn K (.ref C_NoBounds) (.ref C_NoBounds) = some true)
    (es_NoBounds_NoLot : PySem.W.subIn K (.ref C_NoBounds) (.ref C_NoLot) = some false)
    (es_NoBounds_SpeakError : PySem.W.subIn K (.ref C_NoBounds) (.ref C_SpeakError) = some true)
    (et_NoBounds_ValueError : PySem.W.subIn K (.ref C_NoBounds) (.type "ValueError") = some true)
    (es_NoLot_NoListing : PySem.W.subIn K (.ref C_NoLot) (.ref C_NoListing) = some false)
    (es_NoLot_NoPlan : PySem.W.subIn K (.ref C_NoLot) (.ref C_NoPlan) = some false)
    (es_NoLot_NoThrow : PySem.W.subIn K (.ref C_NoLot) (.ref C_NoThrow) = some false)
    (es_NoLot_NoSpread : PySem.W.subIn K (.ref C_NoLot) (.ref C_NoSpread) = some false)
    (es_NoLot_NoTable : PySem.W.subIn K (.ref C_NoLot) (.ref C_NoTable) = some false)
    (es_NoLot_NoUnits : PySem.W.subIn K (.ref C_NoLot) (.ref C_NoUnits) = some false)
    (es_NoLot_NoLevel : PySem.W.subIn K (.ref C_NoLot) (.ref C_NoLevel) = some false)
    (es_NoLot_TooMany : PySem.W.subIn K (.ref C_NoLot) (.ref C_TooMany) = some false)
    (es_NoLot_NoTurn : PySem.W.subIn K (.ref C_NoLot) (.ref C_NoTurn) = some false)
    (es_NoLot_NoThing : PySem.W.subIn K (.ref C_NoLot) (.ref C_NoThing) = some false)
    (es_NoLot_NoAnswers : PySem.W.subIn K (.ref C_NoLot) (.ref C_NoAnswers) = some false)
    (es_NoLot_NoBounds : PySem.W.subIn K (.ref C_NoLot) (.ref C_NoBounds) = some false)
    (es_NoLot_NoLot : PySem.W.subIn K (.ref C_NoLot) (.ref C_NoLot) = some true)
    (es_NoLot_SpeakError : PySem.W.subIn K (.ref C_NoLot) (.ref C_SpeakError) = some true)
    (et_NoLot_ValueError : PySem.W.subIn K (.ref C_NoLot) (.type "ValueError") = some true)
    {f__law_cell : Addr} {od__law_cell an__law_cell : Option Addr} {sl__law_cell : Array (Option Value)} {oc__law_cell kV__law_cell dc__law_cell pm__law_cell cd__law_cell ct__law_cell : Value}
    (a__law_cell : PySem.W.nsIn K mainGlobals "_law_cell" = some (some (.ref f__law_cell))) (l__law_cell : K.lookup f__law_cell = some ⟨oc__law_cell, od__law_cell, .func (PySem.W.fnOf "_law_cell" "_law_cell" (defArgs s__law_cell) (defBody s__law_cell) (defScope s__law_cell) .none kV__law_cell dc__law_cell pm__law_cell an__law_cell cd__law_cell ct__law_cell), sl__law_cell⟩) (c__law_cell : PySem.W.codeIn K cd__law_cell "_law_cell" = true) (k__law_cell : PySem.W.keepIn K (.ref f__law_cell) = true)
    {f__law_mixed : Addr} {od__law_mixed an__law_mixed : Option Addr} {sl__law_mixed : Array (Option Value)} {oc__law_mixed kV__law_mixed dc__law_mixed pm__law_mixed cd__law_mixed ct__law_mixed : Value}
    (a__law_mixed : PySem.W.nsIn K mainGlobals "_law_mixed" = some (some (.ref f__law_mixed))) (l__law_mixed : K.lookup f__law_mixed = some ⟨oc__law_mixed, od__law_mixed, .func (PySem.W.fnOf "_law_mixed" "_law_mixed" (defArgs s__law_mixed) (defBody s__law_mixed) (defScope s__law_mixed) .none kV__law_mixed dc__law_mixed pm__law_mixed an__law_mixed cd__law_mixed ct__law_mixed), sl__law_mixed⟩) (c__law_mixed : PySem.W.codeIn K cd__law_mixed "_law_mixed" = true) (k__law_mixed : PySem.W.keepIn K (.ref f__law_mixed) = true)
    {f_NoListing___init__ : Addr} {od_NoListing___init__ an_NoListing___init__ : Option Addr} {sl_NoListing___init__ : Array (Option Value)} {oc_NoListing___init__ kV_NoListing___init__ dc_NoListing___init__ pm_NoListing___init__ cd_NoListing___init__ ct_NoListing___init__ : Value}
    (a_NoListing___init__ : PySem.W.findIn K (.ref C_NoListing) "__init__" = some (some (.ref f_NoListing___init__))) (i_NoListing___init__ : PySem.W.isFn K (.ref f_NoListing___init__) = true) (l_NoListing___init__ : K.lookup f_NoListing___init__ = some ⟨oc_NoListing___init__, od_NoListing___init__, .func (PySem.W.fnOf "__init__" "NoListing.__init__" (defArgs s_NoListing___init__) (defBody s_NoListing___init__) (defScope s_NoListing___init__) .none kV_NoListing___init__ dc_NoListing___init__ pm_NoListing___init__ an_NoListing___init__ cd_NoListing___init__ ct_NoListing___init__), sl_NoListing___init__⟩) (c_NoListing___init__ : PySem.W.codeIn K cd_NoListing___init__ "NoListing.__init__" = true) (k_NoListing___init__ : PySem.W.keepIn K (.ref f_NoListing___init__) = true)
    {f_NoPlan___init__ : Addr} {od_NoPlan___init__ an_NoPlan___init__ : Option Addr} {sl_NoPlan___init__ : Array (Option Value)} {oc_NoPlan___init__ kV_NoPlan___init__ dc_NoPlan___init__ pm_NoPlan___init__ cd_NoPlan___init__ ct_NoPlan___init__ : Value}
    (a_NoPlan___init__ : PySem.W.findIn K (.ref C_NoPlan) "__init__" = some (some (.ref f_NoPlan___init__))) (i_NoPlan___init__ : PySem.W.isFn K (.ref f_NoPlan___init__) = true) (l_NoPlan___init__ : K.lookup f_NoPlan___init__ = some ⟨oc_NoPlan___init__, od_NoPlan___init__, .func (PySem.W.fnOf "__init__" "NoPlan.__init__" (defArgs s_NoPlan___init__) (defBody s_NoPlan___init__) (defScope s_NoPlan___init__) .none kV_NoPlan___init__ dc_NoPlan___init__ pm_NoPlan___init__ an_NoPlan___init__ cd_NoPlan___init__ ct_NoPlan___init__), sl_NoPlan___init__⟩) (c_NoPlan___init__ : PySem.W.codeIn K cd_NoPlan___init__ "NoPlan.__init__" = true) (k_NoPlan___init__ : PySem.W.keepIn K (.ref f_NoPlan___init__) = true)
    {f_NoThrow___init__ : Addr} {od_NoThrow___init__ an_NoThrow___init__ : Option Addr} {sl_NoThrow___init__ : Array (Option Value)} {oc_NoThrow___init__ kV_NoThrow___init__ dc_NoThrow___init__ pm_NoThrow___init__ cd_NoThrow___init__ ct_NoThrow___init__ : Value}
    (a_NoThrow___init__ : PySem.W.findIn K (.ref C_NoThrow) "__init__" = some (some (.ref f_NoThrow___init__))) (i_NoThrow___init__ : PySem.W.isFn K (.ref f_NoThrow___init__) = true) (l_NoThrow___init__ : K.lookup f_NoThrow___init__ = some ⟨oc_NoThrow___init__, od_NoThrow___init__, .func (PySem.W.fnOf "__init__" "NoThrow.__init__" (defArgs s_NoThrow___init__) (defBody s_NoThrow___init__) (defScope s_NoThrow___init__) .none kV_NoThrow___init__ dc_NoThrow___init__ pm_NoThrow___init__ an_NoThrow___init__ cd_NoThrow___init__ ct_NoThrow___init__), sl_NoThrow___init__⟩) (c_NoThrow___init__ : PySem.W.codeIn K cd_NoThrow___init__ "NoThrow.__init__" = true) (k_NoThrow___init__ : PySem.W.keepIn K (.ref f_NoThrow___init__) = true)
    {f_NoSpread___init__ : Addr} {od_NoSpread___init__ an_NoSpread___init__ : Option Addr} {sl_NoSpread___init__ : Array (Option Value)} {oc_NoSpread___init__ kV_NoSpread___init__ dc_NoSpread___init__ pm_NoSpread___init__ cd_NoSpread___init__ ct_NoSpread___init__ : Value}
    (a_NoSpread___init__ : PySem.W.findIn K (.ref C_NoSpread) "__init__" = some (some (.ref f_NoSpread___init__))) (i_NoSpread___init__ : PySem.W.isFn K (.ref f_NoSpread___init__) = true) (l_NoSpread___init__ : K.lookup f_NoSpread___init__ = some ⟨oc_NoSpread___init__, od_NoSpread___init__, .func (PySem.W.fnOf "__init__" "NoSpread.__init__" (defArgs s_NoSpread___init__) (defBody s_NoSpread___init__) (defScope s_NoSpread___init__) .none kV_NoSpread___init__ dc_NoSpread___init__ pm_NoSpread___init__ an_NoSpread___init__ cd_NoSpread___init__ ct_NoSpread___init__), sl_NoSpread___init__⟩) (c_NoSpread___init__ : PySem.W.codeIn K cd_NoSpread___init__ "NoSpread.__init__" = true) (k_NoSpread___init__ : PySem.W.keepIn K (.ref f_NoSpread___init__) = true)
    {f_NoTable___init__ : Addr} {od_NoTable___init__ an_NoTable___init__ : Option Addr} {sl_NoTable___init__ : Array (Option Value)} {oc_NoTable___init__ kV_NoTable___init__ dc_NoTable___init__ pm_NoTable___init__ cd_NoTable___init__ ct_NoTable___init__ : Value}
    (a_NoTable___init__ : PySem.W.findIn K (.ref C_NoTable) "__init__" = some (some (.ref f_NoTable___init__))) (i_NoTable___init__ : PySem.W.isFn K (.ref f_NoTable___init__) = true) (l_NoTable___init__ : K.lookup f_NoTable___init__ = some ⟨oc_NoTable___init__, od_NoTable___init__, .func (PySem.W.fnOf "__init__" "NoTable.__init__" (defArgs s_NoTable___init__) (defBody s_NoTable___init__) (defScope s_NoTable___init__) .none kV_NoTable___init__ dc_NoTable___init__ pm_NoTable___init__ an_NoTable___init__ cd_NoTable___init__ ct_NoTable___init__), sl_NoTable___init__⟩) (c_NoTable___init__ : PySem.W.codeIn K cd_NoTable___init__ "NoTable.__init__" = true) (k_NoTable___init__ : PySem.W.keepIn K (.ref f_NoTable___init__) = true)
    {f__law_kinds : Addr} {od__law_kinds an__law_kinds : Option Addr} {sl__law_kinds : Array (Option Value)} {oc__law_kinds kV__law_kinds dc__law_kinds pm__law_kinds cd__law_kinds ct__law_kinds : Value}
    (a__law_kinds : PySem.W.nsIn K mainGlobals "_law_kinds" = some (some (.ref f__law_kinds))) (l__law_kinds : K.lookup f__law_kinds = some ⟨oc__law_kinds, od__law_kinds, .func (PySem.W.fnOf "_law_kinds" "_law_kinds" (defArgs s__law_kinds) (defBody s__law_kinds) (defScope s__law_kinds) .none kV__law_kinds dc__law_kinds pm__law_kinds an__law_kinds cd__law_kinds ct__law_kinds), sl__law_kinds⟩) (c__law_kinds : PySem.W.codeIn K cd__law_kinds "_law_kinds" = true) (k__law_kinds : PySem.W.keepIn K (.ref f__law_kinds) = true)
    {f__law_made : Addr} {od__law_made an__law_made : Option Addr} {sl__law_made : Array (Option Value)} {oc__law_made kV__law_made dc__law_made pm__law_made cd__law_made ct__law_made : Value}
    (a__law_made : PySem.W.nsIn K mainGlobals "_law_made" = some (some (.ref f__law_made))) (l__law_made : K.lookup f__law_made = some ⟨oc__law_made, od__law_made, .func (PySem.W.fnOf "_law_made" "_law_made" (defArgs s__law_made) (defBody s__law_made) (defScope s__law_made) .none kV__law_made dc__law_made pm__law_made an__law_made cd__law_made ct__law_made), sl__law_made⟩) (c__law_made : PySem.W.codeIn K cd__law_made "_law_made" = true) (k__law_made : PySem.W.keepIn K (.ref f__law_made) = true)
    {f__law_fields : Addr} {od__law_fields an__law_fields : Option Addr} {sl__law_fields : Array (Option Value)} {oc__law_fields kV__law_fields dc__law_fields pm__law_fields cd__law_fields ct__law_fields : Value}
    (a__law_fields : PySem.W.nsIn K mainGlobals "_law_fields" = some (some (.ref f__law_fields))) (l__law_fields : K.lookup f__law_fields = some ⟨oc__law_fields, od__law_fields, .func (PySem.W.fnOf "_law_fields" "_law_fields" (defArgs s__law_fields) (defBody s__law_fields) (defScope s__law_fields) .none kV__law_fields dc__law_fields pm__law_fields an__law_fields cd__law_fields ct__law_fields), sl__law_fields⟩) (c__law_fields : PySem.W.codeIn K cd__law_fields "_law_fields" = true) (k__law_fields : PySem.W.keepIn K (.ref f__law_fields) = true)
    {f_law : Addr} {od_law an_law : Option Addr} {sl_law : Array (Option Value)} {oc_law kV_law dc_law pm_law cd_law ct_law : Value}
    (a_law : PySem.W.nsIn K mainGlobals "law" = some (some (.ref f_law))) (l_law : K.lookup f_law = some ⟨oc_law, od_law, .func (PySem.W.fnOf "law" "law" (defArgs s_law) (defBody s_law) (defScope s_law) .none kV_law dc_law pm_law an_law cd_law ct_law), sl_law⟩) (c_law : PySem.W.codeIn K cd_law "law" = true) (k_law : PySem.W.keepIn K (.ref f_law) = true) : Txt K mg := by
  have e_SpeakError : cA mg "SpeakError" = C_SpeakError := cA_of (PySem.W.mg_of X G aC_SpeakError)
  have e_NoListing : cA mg "NoListing" = C_NoListing := cA_of (PySem.W.mg_of X G aC_NoListing)
  have e_NoPlan : cA mg "NoPlan" = C_NoPlan := cA_of (PySem.W.mg_of X G aC_NoPlan)
  have e_NoThrow : cA mg "NoThrow" = C_NoThrow := cA_of (PySem.W.mg_of X G aC_NoThrow)
  have e_NoSpread : cA mg "NoSpread" = C_NoSpread := cA_of (PySem.W.mg_of X G aC_NoSpread)
  have e_NoTable : cA mg "NoTable" = C_NoTable := cA_of (PySem.W.mg_of X G aC_NoTable)
  have e_NoAnswers : cA mg "NoAnswers" = C_NoAnswers := cA_of (PySem.W.mg_of X G aC_NoAnswers)
  have e_NoBounds : cA mg "NoBounds" = C_NoBounds := cA_of (PySem.W.mg_of X G aC_NoBounds)
  have e_NoLevel : cA mg "NoLevel" = C_NoLevel := cA_of (PySem.W.mg_of X G aC_NoLevel)
  have e_NoLot : cA mg "NoLot" = C_NoLot := cA_of (PySem.W.mg_of X G aC_NoLot)
  have e_NoThing : cA mg "NoThing" = C_NoThing := cA_of (PySem.W.mg_of X G aC_NoThing)
  have e_NoTurn : cA mg "NoTurn" = C_NoTurn := cA_of (PySem.W.mg_of X G aC_NoTurn)
  have e_NoUnits : cA mg "NoUnits" = C_NoUnits := cA_of (PySem.W.mg_of X G aC_NoUnits)
  have e_TooMany : cA mg "TooMany" = C_TooMany := cA_of (PySem.W.mg_of X G aC_TooMany)
  exact ⟨(PySem.W.mg_none_of X G z_n_len), (by rw [e_SpeakError]; exact PySem.W.mg_of X G aC_SpeakError), (by rw [e_SpeakError]; exact ⟨bi0_SpeakError, bi1_SpeakError, bi2_SpeakError⟩), (by rw [e_NoListing]; exact PySem.W.mg_of X G aC_NoListing), (by rw [e_NoListing]; exact ⟨ox_NoListing, o0_NoListing, o1_NoListing, o2_NoListing, o3_NoListing⟩), (by rw [e_NoListing]; exact na_NoListing_line), (by rw [e_NoListing]; exact na_NoListing_word), (by rw [e_NoPlan]; exact PySem.W.mg_of X G aC_NoPlan), (by rw [e_NoPlan]; exact ⟨ox_NoPlan, o0_NoPlan, o1_NoPlan, o2_NoPlan, o3_NoPlan⟩), (by rw [e_NoPlan]; exact na_NoPlan_place), (by rw [e_NoThrow]; exact PySem.W.mg_of X G aC_NoThrow), (by rw [e_NoThrow]; exact ⟨ox_NoThrow, o0_NoThrow, o1_NoThrow, o2_NoThrow, o3_NoThrow⟩), (by rw [e_NoThrow]; exact na_NoThrow_place), (by rw [e_NoSpread]; exact PySem.W.mg_of X G aC_NoSpread), (by rw [e_NoSpread]; exact ⟨ox_NoSpread, o0_NoSpread, o1_NoSpread, o2_NoSpread, o3_NoSpread⟩), (by rw [e_NoSpread]; exact na_NoSpread_one), (by rw [e_NoSpread]; exact na_NoSpread_other), (by rw [e_NoTable]; exact PySem.W.mg_of X G aC_NoTable), (by rw [e_NoTable]; exact ⟨ox_NoTable, o0_NoTable, o1_NoTable, o2_NoTable, o3_NoTable⟩), (by rw [e_NoTable]; exact na_NoTable_row), (PySem.W.mg_none_of X G z_n_isinstance), (by rw [e_NoAnswers]; exact PySem.W.mg_of X G aC_NoAnswers), (by rw [e_NoBounds]; exact PySem.W.mg_of X G aC_NoBounds), (by rw [e_NoLevel]; exact PySem.W.mg_of X G aC_NoLevel), (by rw [e_NoLot]; exact PySem.W.mg_of X G aC_NoLot), (by rw [e_NoThing]; exact PySem.W.mg_of X G aC_NoThing), (by rw [e_NoTurn]; exact PySem.W.mg_of X G aC_NoTurn), (by rw [e_NoUnits]; exact PySem.W.mg_of X G aC_NoUnits), (by rw [e_TooMany]; exact PySem.W.mg_of X G aC_TooMany), (by rw [e_NoAnswers]; exact ⟨xx_NoAnswers, xk_NoAnswers, xb_NoAnswers, xt_NoAnswers⟩), (by rw [e_NoBounds]; exact ⟨xx_NoBounds, xk_NoBounds, xb_NoBounds, xt_NoBounds⟩), (by rw [e_NoLevel]; exact ⟨xx_NoLevel, xk_NoLevel, xb_NoLevel, xt_NoLevel⟩), (by rw [e_NoLot]; exact ⟨xx_NoLot, xk_NoLot, xb_NoLot, xt_NoLot⟩), (by rw [e_NoThing]; exact ⟨xx_NoThing, xk_NoThing, xb_NoThing, xt_NoThing⟩), (by rw [e_NoTurn]; exact ⟨xx_NoTurn, xk_NoTurn, xb_NoTurn, xt_NoTurn⟩), (by rw [e_NoUnits]; exact ⟨xx_NoUnits, xk_NoUnits, xb_NoUnits, xt_NoUnits⟩), (by rw [e_TooMany]; exact ⟨xx_TooMany, xk_TooMany, xb_TooMany, xt_TooMany⟩), (PySem.W.mg_none_of X G z_n_ValueError), (PySem.W.mg_none_of X G z_n_max), (PySem.W.mg_none_of X G z_n_min), (PySem.W.mg_none_of X G z_n_range), (by rw [e_NoListing]; exact ⟨z0_NoListing, z1_NoListing, z2_NoListing, z3_NoListing, z4_NoListing, z5_NoListing, z6_NoListing, z7_NoListing⟩), (by rw [e_NoPlan]; exact ⟨z0_NoPlan, z1_NoPlan, z2_NoPlan, z3_NoPlan, z4_NoPlan, z5_NoPlan, z6_NoPlan, z7_NoPlan⟩), (by rw [e_NoThrow]; exact ⟨z0_NoThrow, z1_NoThrow, z2_NoThrow, z3_NoThrow, z4_NoThrow, z5_NoThrow, z6_NoThrow, z7_NoThrow⟩), (by rw [e_NoSpread]; exact ⟨z0_NoSpread, z1_NoSpread, z2_NoSpread, z3_NoSpread, z4_NoSpread, z5_NoSpread, z6_NoSpread, z7_NoSpread⟩), (by rw [e_NoTable]; exact ⟨z0_NoTable, z1_NoTable, z2_NoTable, z3_NoTable, z4_NoTable, z5_NoTable, z6_NoTable, z7_NoTable⟩), (by rw [e_NoUnits]; exact ⟨z0_NoUnits, z1_NoUnits, z2_NoUnits, z3_NoUnits, z4_NoUnits, z5_NoUnits, z6_NoUnits, z7_NoUnits⟩), (by rw [e_NoLevel]; exact ⟨z0_NoLevel, z1_NoLevel, z2_NoLevel, z3_NoLevel, z4_NoLevel, z5_NoLevel, z6_NoLevel, z7_NoLevel⟩), (by rw [e_TooMany]; exact ⟨z0_TooMany, z1_TooMany, z2_TooMany, z3_TooMany, z4_TooMany, z5_TooMany, z6_TooMany, z7_TooMany⟩), (by rw [e_NoTurn]; exact ⟨z0_NoTurn, z1_NoTurn, z2_NoTurn, z3_NoTurn, z4_NoTurn, z5_NoTurn, z6_NoTurn, z7_NoTurn⟩), (by rw [e_NoThing]; exact ⟨z0_NoThing, z1_NoThing, z2_NoThing, z3_NoThing, z4_NoThing, z5_NoThing, z6_NoThing, z7_NoThing⟩), (by rw [e_NoAnswers]; exact ⟨z0_NoAnswers, z1_NoAnswers, z2_NoAnswers, z3_NoAnswers, z4_NoAnswers, z5_NoAnswers, z6_NoAnswers, z7_NoAnswers⟩), (by rw [e_NoBounds]; exact ⟨z0_NoBounds, z1_NoBounds, z2_NoBounds, z3_NoBounds, z4_NoBounds, z5_NoBounds, z6_NoBounds, z7_NoBounds⟩), (by rw [e_NoLot]; exact ⟨z0_NoLot, z1_NoLot, z2_NoLot, z3_NoLot, z4_NoLot, z5_NoLot, z6_NoLot, z7_NoLot⟩), (by rw [e_NoListing]; exact ⟨yb_NoListing, yi_NoListing, yt_NoListing⟩), (by rw [e_NoPlan]; exact ⟨yb_NoPlan, yi_NoPlan, yt_NoPlan⟩), (by rw [e_NoThrow]; exact ⟨yb_NoThrow, yi_NoThrow, yt_NoThrow⟩), (by rw [e_NoSpread]; exact ⟨yb_NoSpread, yi_NoSpread, yt_NoSpread⟩), (by rw [e_NoTable]; exact ⟨yb_NoTable, yi_NoTable, yt_NoTable⟩), (by rw [e_NoUnits]; exact ⟨yb_NoUnits, yi_NoUnits, yt_NoUnits⟩), (by rw [e_NoLevel]; exact ⟨yb_NoLevel, yi_NoLevel, yt_NoLevel⟩), (by rw [e_TooMany]; exact ⟨yb_TooMany, yi_TooMany, yt_TooMany⟩), (by rw [e_NoTurn]; exact ⟨yb_NoTurn, yi_NoTurn, yt_NoTurn⟩), (by rw [e_NoThing]; exact ⟨yb_NoThing, yi_NoThing, yt_NoThing⟩), (by rw [e_NoAnswers]; exact ⟨yb_NoAnswers, yi_NoAnswers, yt_NoAnswers⟩), (by rw [e_NoBounds]; exact ⟨yb_NoBounds, yi_NoBounds, yt_NoBounds⟩), (by rw [e_NoLot]; exact ⟨yb_NoLot, yi_NoLot, yt_NoLot⟩), (by rw [e_SpeakError]; exact ⟨yb_SpeakError, yi_SpeakError, yt_SpeakError⟩), (by rw [e_NoListing]; exact es_NoListing_NoListing), (by rw [e_NoListing, e_NoPlan]; exact es_NoListing_NoPlan), (by rw [e_NoListing, e_NoThrow]; exact es_NoListing_NoThrow), (by rw [e_NoListing, e_NoSpread]; exact es_NoListing_NoSpread), (by rw [e_NoListing, e_NoTable]; exact es_NoListing_NoTable), (by rw [e_NoListing, e_NoUnits]; exact es_NoListing_NoUnits), (by rw [e_NoListing, e_NoLevel]; exact es_NoListing_NoLevel), (by rw [e_NoListing, e_TooMany]; exact es_NoListing_TooMany), (by rw [e_NoListing, e_NoTurn]; exact es_NoListing_NoTurn), (by rw [e_NoListing, e_NoThing]; exact es_NoListing_NoThing), (by rw [e_NoListing, e_NoAnswers]; exact es_NoListing_NoAnswers), (by rw [e_NoListing, e_NoBounds]; exact es_NoListing_NoBounds), (by rw [e_NoListing, e_NoLot]; exact es_NoListing_NoLot), (by rw [e_NoListing, e_SpeakError]; exact es_NoListing_SpeakError), (by rw [e_NoListing]; exact et_NoListing_ValueError), (by rw [e_NoPlan, e_NoListing]; exact es_NoPlan_NoListing), (by rw [e_NoPlan]; exact es_NoPlan_NoPlan), (by rw [e_NoPlan, e_NoThrow]; exact es_NoPlan_NoThrow), (by rw [e_NoPlan, e_NoSpread]; exact es_NoPlan_NoSpread), (by rw [e_NoPlan, e_NoTable]; exact es_NoPlan_NoTable), (by rw [e_NoPlan, e_NoUnits]; exact es_NoPlan_NoUnits), (by rw [e_NoPlan, e_NoLevel]; exact es_NoPlan_NoLevel), (by rw [e_NoPlan, e_TooMany]; exact es_NoPlan_TooMany), (by rw [e_NoPlan, e_NoTurn]; exact es_NoPlan_NoTurn), (by rw [e_NoPlan, e_NoThing]; exact es_NoPlan_NoThing), (by rw [e_NoPlan, e_NoAnswers]; exact es_NoPlan_NoAnswers), (by rw [e_NoPlan, e_NoBounds]; exact es_NoPlan_NoBounds), (by rw [e_NoPlan, e_NoLot]; exact es_NoPlan_NoLot), (by rw [e_NoPlan, e_SpeakError]; exact es_NoPlan_SpeakError), (by rw [e_NoPlan]; exact et_NoPlan_ValueError), (by rw [e_NoThrow, e_NoListing]; exact es_NoThrow_NoListing), (by rw [e_NoThrow, e_NoPlan]; exact es_NoThrow_NoPlan), (by rw [e_NoThrow]; exact es_NoThrow_NoThrow), (by rw [e_NoThrow, e_NoSpread]; exact es_NoThrow_NoSpread), (by rw [e_NoThrow, e_NoTable]; exact es_NoThrow_NoTable), (by rw [e_NoThrow, e_NoUnits]; exact es_NoThrow_NoUnits), (by rw [e_NoThrow, e_NoLevel]; exact es_NoThrow_NoLevel), (by rw [e_NoThrow, e_TooMany]; exact es_NoThrow_TooMany), (by rw [e_NoThrow, e_NoTurn]; exact es_NoThrow_NoTurn), (by rw [e_NoThrow, e_NoThing]; exact es_NoThrow_NoThing), (by rw [e_NoThrow, e_NoAnswers]; exact es_NoThrow_NoAnswers), (by rw [e_NoThrow, e_NoBounds]; exact es_NoThrow_NoBounds), (by rw [e_NoThrow, e_NoLot]; exact es_NoThrow_NoLot), (by rw [e_NoThrow, e_SpeakError]; exact es_NoThrow_SpeakError), (by rw [e_NoThrow]; exact et_NoThrow_ValueError), (by rw [e_NoSpread, e_NoListing]; exact es_NoSpread_NoListing), (by rw [e_NoSpread, e_NoPlan]; exact es_NoSpread_NoPlan), (by rw [e_NoSpread, e_NoThrow]; exact es_NoSpread_NoThrow), (by rw [e_NoSpread]; exact es_NoSpread_NoSpread), (by rw [e_NoSpread, e_NoTable]; exact es_NoSpread_NoTable), (by rw [e_NoSpread, e_NoUnits]; exact es_NoSpread_NoUnits), (by rw [e_NoSpread, e_NoLevel]; exact es_NoSpread_NoLevel), (by rw [e_NoSpread, e_TooMany]; exact es_NoSpread_TooMany), (by rw [e_NoSpread, e_NoTurn]; exact es_NoSpread_NoTurn), (by rw [e_NoSpread, e_NoThing]; exact es_NoSpread_NoThing), (by rw [e_NoSpread, e_NoAnswers]; exact es_NoSpread_NoAnswers), (by rw [e_NoSpread, e_NoBounds]; exact es_NoSpread_NoBounds), (by rw [e_NoSpread, e_NoLot]; exact es_NoSpread_NoLot), (by rw [e_NoSpread, e_SpeakError]; exact es_NoSpread_SpeakError), (by rw [e_NoSpread]; exact et_NoSpread_ValueError), (by rw [e_NoTable, e_NoListing]; exact es_NoTable_NoListing), (by rw [e_NoTable, e_NoPlan]; exact es_NoTable_NoPlan), (by rw [e_NoTable, e_NoThrow]; exact es_NoTable_NoThrow), (by rw [e_NoTable, e_NoSpread]; exact es_NoTable_NoSpread), (by rw [e_NoTable]; exact es_NoTable_NoTable), (by rw [e_NoTable, e_NoUnits]; exact es_NoTable_NoUnits), (by rw [e_NoTable, e_NoLevel]; exact es_NoTable_NoLevel), (by rw [e_NoTable, e_TooMany]; exact es_NoTable_TooMany), (by rw [e_NoTable, e_NoTurn]; exact es_NoTable_NoTurn), (by rw [e_NoTable, e_NoThing]; exact es_NoTable_NoThing), (by rw [e_NoTable, e_NoAnswers]; exact es_NoTable_NoAnswers), (by rw [e_NoTable, e_NoBounds]; exact es_NoTable_NoBounds), (by rw [e_NoTable, e_NoLot]; exact es_NoTable_NoLot), (by rw [e_NoTable, e_SpeakError]; exact es_NoTable_SpeakError), (by rw [e_NoTable]; exact et_NoTable_ValueError), (by rw [e_NoUnits, e_NoListing]; exact es_NoUnits_NoListing), (by rw [e_NoUnits, e_NoPlan]; exact es_NoUnits_NoPlan), (by rw [e_NoUnits, e_NoThrow]; exact es_NoUnits_NoThrow), (by rw [e_NoUnits, e_NoSpread]; exact es_NoUnits_NoSpread), (by rw [e_NoUnits, e_NoTable]; exact es_NoUnits_NoTable), (by rw [e_NoUnits]; exact es_NoUnits_NoUnits), (by rw [e_NoUnits, e_NoLevel]; exact es_NoUnits_NoLevel), (by rw [e_NoUnits, e_TooMany]; exact es_NoUnits_TooMany), (by rw [e_NoUnits, e_NoTurn]; exact es_NoUnits_NoTurn), (by rw [e_NoUnits, e_NoThing]; exact es_NoUnits_NoThing), (by rw [e_NoUnits, e_NoAnswers]; exact es_NoUnits_NoAnswers), (by rw [e_NoUnits, e_NoBounds]; exact es_NoUnits_NoBounds), (by rw [e_NoUnits, e_NoLot]; exact es_NoUnits_NoLot), (by rw [e_NoUnits, e_SpeakError]; exact es_NoUnits_SpeakError), (by rw [e_NoUnits]; exact et_NoUnits_ValueError), (by rw [e_NoLevel, e_NoListing]; exact es_NoLevel_NoListing), (by rw [e_NoLevel, e_NoPlan]; exact es_NoLevel_NoPlan), (by rw [e_NoLevel, e_NoThrow]; exact es_NoLevel_NoThrow), (by rw [e_NoLevel, e_NoSpread]; exact es_NoLevel_NoSpread), (by rw [e_NoLevel, e_NoTable]; exact es_NoLevel_NoTable), (by rw [e_NoLevel, e_NoUnits]; exact es_NoLevel_NoUnits), (by rw [e_NoLevel]; exact es_NoLevel_NoLevel), (by rw [e_NoLevel, e_TooMany]; exact es_NoLevel_TooMany), (by rw [e_NoLevel, e_NoTurn]; exact es_NoLevel_NoTurn), (by rw [e_NoLevel, e_NoThing]; exact es_NoLevel_NoThing), (by rw [e_NoLevel, e_NoAnswers]; exact es_NoLevel_NoAnswers), (by rw [e_NoLevel, e_NoBounds]; exact es_NoLevel_NoBounds), (by rw [e_NoLevel, e_NoLot]; exact es_NoLevel_NoLot), (by rw [e_NoLevel, e_SpeakError]; exact es_NoLevel_SpeakError), (by rw [e_NoLevel]; exact et_NoLevel_ValueError), (by rw [e_TooMany, e_NoListing]; exact es_TooMany_NoListing), (by rw [e_TooMany, e_NoPlan]; exact es_TooMany_NoPlan), (by rw [e_TooMany, e_NoThrow]; exact es_TooMany_NoThrow), (by rw [e_TooMany, e_NoSpread]; exact es_TooMany_NoSpread), (by rw [e_TooMany, e_NoTable]; exact es_TooMany_NoTable), (by rw [e_TooMany, e_NoUnits]; exact es_TooMany_NoUnits), (by rw [e_TooMany, e_NoLevel]; exact es_TooMany_NoLevel), (by rw [e_TooMany]; exact es_TooMany_TooMany), (by rw [e_TooMany, e_NoTurn]; exact es_TooMany_NoTurn), (by rw [e_TooMany, e_NoThing]; exact es_TooMany_NoThing), (by rw [e_TooMany, e_NoAnswers]; exact es_TooMany_NoAnswers), (by rw [e_TooMany, e_NoBounds]; exact es_TooMany_NoBounds), (by rw [e_TooMany, e_NoLot]; exact es_TooMany_NoLot), (by rw [e_TooMany, e_SpeakError]; exact es_TooMany_SpeakError), (by rw [e_TooMany]; exact et_TooMany_ValueError), (by rw [e_NoTurn, e_NoListing]; exact es_NoTurn_NoListing), (by rw [e_NoTurn, e_NoPlan]; exact es_NoTurn_NoPlan), (by rw [e_NoTurn, e_NoThrow]; exact es_NoTurn_NoThrow), (by rw [e_NoTurn, e_NoSpread]; exact es_NoTurn_NoSpread), (by rw [e_NoTurn, e_NoTable]; exact es_NoTurn_NoTable), (by rw [e_NoTurn, e_NoUnits]; exact es_NoTurn_NoUnits), (by rw [e_NoTurn, e_NoLevel]; exact es_NoTurn_NoLevel), (by rw [e_NoTurn, e_TooMany]; exact es_NoTurn_TooMany), (by rw [e_NoTurn]; exact es_NoTurn_NoTurn), (by rw [e_NoTurn, e_NoThing]; exact es_NoTurn_NoThing), (by rw [e_NoTurn, e_NoAnswers]; exact es_NoTurn_NoAnswers), (by rw [e_NoTurn, e_NoBounds]; exact es_NoTurn_NoBounds), (by rw [e_NoTurn, e_NoLot]; exact es_NoTurn_NoLot), (by rw [e_NoTurn, e_SpeakError]; exact es_NoTurn_SpeakError), (by rw [e_NoTurn]; exact et_NoTurn_ValueError), (by rw [e_NoThing, e_NoListing]; exact es_NoThing_NoListing), (by rw [e_NoThing, e_NoPlan]; exact es_NoThing_NoPlan), (by rw [e_NoThing, e_NoThrow]; exact es_NoThing_NoThrow), (by rw [e_NoThing, e_NoSpread]; exact es_NoThing_NoSpread), (by rw [e_NoThing, e_NoTable]; exact es_NoThing_NoTable), (by rw [e_NoThing, e_NoUnits]; exact es_NoThing_NoUnits), (by rw [e_NoThing, e_NoLevel]; exact es_NoThing_NoLevel), (by rw [e_NoThing, e_TooMany]; exact es_NoThing_TooMany), (by rw [e_NoThing, e_NoTurn]; exact es_NoThing_NoTurn), (by rw [e_NoThing]; exact es_NoThing_NoThing), (by rw [e_NoThing, e_NoAnswers]; exact es_NoThing_NoAnswers), (by rw [e_NoThing, e_NoBounds]; exact es_NoThing_NoBounds), (by rw [e_NoThing, e_NoLot]; exact es_NoThing_NoLot), (by rw [e_NoThing, e_SpeakError]; exact es_NoThing_SpeakError), (by rw [e_NoThing]; exact et_NoThing_ValueError), (by rw [e_NoAnswers, e_NoListing]; exact es_NoAnswers_NoListing), (by rw [e_NoAnswers, e_NoPlan]; exact es_NoAnswers_NoPlan), (by rw [e_NoAnswers, e_NoThrow]; exact es_NoAnswers_NoThrow), (by rw [e_NoAnswers, e_NoSpread]; exact es_NoAnswers_NoSpread), (by rw [e_NoAnswers, e_NoTable]; exact es_NoAnswers_NoTable), (by rw [e_NoAnswers, e_NoUnits]; exact es_NoAnswers_NoUnits), (by rw [e_NoAnswers, e_NoLevel]; exact es_NoAnswers_NoLevel), (by rw [e_NoAnswers, e_TooMany]; exact es_NoAnswers_TooMany), (by rw [e_NoAnswers, e_NoTurn]; exact es_NoAnswers_NoTurn), (by rw [e_NoAnswers, e_NoThing]; exact es_NoAnswers_NoThing), (by rw [e_NoAnswers]; exact es_NoAnswers_NoAnswers), (by rw [e_NoAnswers, e_NoBounds]; exact es_NoAnswers_NoBounds), (by rw [e_NoAnswers, e_NoLot]; exact es_NoAnswers_NoLot), (by rw [e_NoAnswers, e_SpeakError]; exact es_NoAnswers_SpeakError), (by rw [e_NoAnswers]; exact et_NoAnswers_ValueError), (by rw [e_NoBounds, e_NoListing]; exact es_NoBounds_NoListing), (by rw [e_NoBounds, e_NoPlan]; exact es_NoBounds_NoPlan), (by rw [e_NoBounds, e_NoThrow]; exact es_NoBounds_NoThrow), (by rw [e_NoBounds, e_NoSpread]; exact es_NoBounds_NoSpread), (by rw [e_NoBounds, e_NoTable]; exact es_NoBounds_NoTable), (by rw [e_NoBounds, e_NoUnits]; exact es_NoBounds_NoUnits), (by rw [e_NoBounds, e_NoLevel]; exact es_NoBounds_NoLevel), (by rw [e_NoBounds, e_TooMany]; exact es_NoBounds_TooMany), (by rw [e_NoBounds, e_NoTurn]; exact es_NoBounds_NoTurn), (by rw [e_NoBounds, e_NoThing]; exact es_NoBounds_NoThing), (by rw [e_NoBounds, e_NoAnswers]; exact es_NoBounds_NoAnswers), (by rw [e_NoBounds]; exact es_NoBounds_NoBounds), (by rw [e_NoBounds, e_NoLot]; exact es_NoBounds_NoLot), (by rw [e_NoBounds, e_SpeakError]; exact es_NoBounds_SpeakError), (by rw [e_NoBounds]; exact et_NoBounds_ValueError), (by rw [e_NoLot, e_NoListing]; exact es_NoLot_NoListing), (by rw [e_NoLot, e_NoPlan]; exact es_NoLot_NoPlan), (by rw [e_NoLot, e_NoThrow]; exact es_NoLot_NoThrow), (by rw [e_NoLot, e_NoSpread]; exact es_NoLot_NoSpread), (by rw [e_NoLot, e_NoTable]; exact es_NoLot_NoTable), (by rw [e_NoLot, e_NoUnits]; exact es_NoLot_NoUnits), (by rw [e_NoLot, e_NoLevel]; exact es_NoLot_NoLevel), (by rw [e_NoLot, e_TooMany]; exact es_NoLot_TooMany), (by rw [e_NoLot, e_NoTurn]; exact es_NoLot_NoTurn), (by rw [e_NoLot, e_NoThing]; exact es_NoLot_NoThing), (by rw [e_NoLot, e_NoAnswers]; exact es_NoLot_NoAnswers), (by rw [e_NoLot, e_NoBounds]; exact es_NoLot_NoBounds), (by rw [e_NoLot]; exact es_NoLot_NoLot), (by rw [e_NoLot, e_SpeakError]; exact es_NoLot_SpeakError), (by rw [e_NoLot]; exact et_NoLot_ValueError), (⟨f__law_cell, _, fun_mk (st := s__law_cell) l__law_cell c__law_cell k__law_cell, PySem.W.mg_of X G a__law_cell, (fun_mk (st := s__law_cell) l__law_cell c__law_cell k__law_cell).binds (ps := ["_law_script", "_law_k"]) fun _ _ _ _ _ _ us hl => match us, hl with | [_, _], _ => rfl⟩), (⟨f__law_mixed, _, fun_mk (st := s__law_mixed) l__law_mixed c__law_mixed k__law_mixed, PySem.W.mg_of X G a__law_mixed, (fun_mk (st := s__law_mixed) l__law_mixed c__law_mixed k__law_mixed).binds (ps := ["_law_cell_here", "_law_k"]) fun _ _ _ _ _ _ us hl => match us, hl with | [_, _], _ => rfl⟩), (by rw [e_NoListing]; exact ⟨f_NoListing___init__, _, fun_mk (st := s_NoListing___init__) l_NoListing___init__ c_NoListing___init__ k_NoListing___init__, a_NoListing___init__, i_NoListing___init__, (fun_mk (st := s_NoListing___init__) l_NoListing___init__ c_NoListing___init__ k_NoListing___init__).binds (ps := ["self", "line", "word"]) fun _ _ _ _ _ _ us hl => match us, hl with | [_, _, _], _ => rfl⟩), (by rw [e_NoPlan]; exact ⟨f_NoPlan___init__, _, fun_mk (st := s_NoPlan___init__) l_NoPlan___init__ c_NoPlan___init__ k_NoPlan___init__, a_NoPlan___init__, i_NoPlan___init__, (fun_mk (st := s_NoPlan___init__) l_NoPlan___init__ c_NoPlan___init__ k_NoPlan___init__).binds (ps := ["self", "place"]) fun _ _ _ _ _ _ us hl => match us, hl with | [_, _], _ => rfl⟩), (by rw [e_NoThrow]; exact ⟨f_NoThrow___init__, _, fun_mk (st := s_NoThrow___init__) l_NoThrow___init__ c_NoThrow___init__ k_NoThrow___init__, a_NoThrow___init__, i_NoThrow___init__, (fun_mk (st := s_NoThrow___init__) l_NoThrow___init__ c_NoThrow___init__ k_NoThrow___init__).binds (ps := ["self", "place"]) fun _ _ _ _ _ _ us hl => match us, hl with | [_, _], _ => rfl⟩), (by rw [e_NoSpread]; exact ⟨f_NoSpread___init__, _, fun_mk (st := s_NoSpread___init__) l_NoSpread___init__ c_NoSpread___init__ k_NoSpread___init__, a_NoSpread___init__, i_NoSpread___init__, (fun_mk (st := s_NoSpread___init__) l_NoSpread___init__ c_NoSpread___init__ k_NoSpread___init__).binds (ps := ["self", "one", "other"]) fun _ _ _ _ _ _ us hl => match us, hl with | [_, _, _], _ => rfl⟩), (by rw [e_NoTable]; exact ⟨f_NoTable___init__, _, fun_mk (st := s_NoTable___init__) l_NoTable___init__ c_NoTable___init__ k_NoTable___init__, a_NoTable___init__, i_NoTable___init__, (fun_mk (st := s_NoTable___init__) l_NoTable___init__ c_NoTable___init__ k_NoTable___init__).binds (ps := ["self", "row"]) fun _ _ _ _ _ _ us hl => match us, hl with | [_, _], _ => rfl⟩), (⟨f__law_kinds, _, fun_mk (st := s__law_kinds) l__law_kinds c__law_kinds k__law_kinds, PySem.W.mg_of X G a__law_kinds, (fun_mk (st := s__law_kinds) l__law_kinds c__law_kinds k__law_kinds).binds (ps := ["_law_error"]) fun _ _ _ _ _ _ us hl => match us, hl with | [_], _ => rfl⟩), (⟨f__law_made, _, fun_mk (st := s__law_made) l__law_made c__law_made k__law_made, PySem.W.mg_of X G a__law_made, (fun_mk (st := s__law_made) l__law_made c__law_made k__law_made).binds (ps := ["_law_way", "_law_one", "_law_other"]) fun _ _ _ _ _ _ us hl => match us, hl with | [_, _, _], _ => rfl⟩), (⟨f__law_fields, _, fun_mk (st := s__law_fields) l__law_fields c__law_fields k__law_fields, PySem.W.mg_of X G a__law_fields, (fun_mk (st := s__law_fields) l__law_fields c__law_fields k__law_fields).binds (ps := ["_law_error"]) fun _ _ _ _ _ _ us hl => match us, hl with | [_], _ => rfl⟩), (⟨f_law, _, fun_mk (st := s_law) l_law c_law k_law, PySem.W.mg_of X G a_law, (fun_mk (st := s_law) l_law c_law k_law).binds (ps := ["_law_script"]) fun _ _ _ _ _ _ us hl => match us, hl with | [_], _ => rfl⟩)⟩
theorem law_mk {P : Program} {w : World} {K : PySem.W.Frag} {mg : Str → Option Value} {fa : Addr} (T : Txt K mg) (hfa : mg "law" = some (.ref fa)) :
    ∃ fd : FuncData, (∀ (s : Shared) (v : Value), BindsTo s fd ⟨[v], []⟩ [("_law_script", v)]) ∧ ∀ base : Heap, K.In base → base.Ns mainGlobals mg → FnOk P w K mg base CX0 4 fa fd ["_law_script"] (sp_law K mg) := by
  obtain ⟨f, fd, F, hm, b⟩ := T.d_law.ex
  have e := hfa.symm.trans hm
  cases e
  refine ⟨fd, fun s v => ?_, fun base _ _ => c_law T F⟩
  obtain ⟨oc, od, kV, doc, pm, an, cdv, ct, osl, rfl, lk, hcd⟩ := F.ex
  exact .of_eq rfl
end My
open PySem PySem.W PyProof.Rows
set_option maxRecDepth 100000 in
set_option maxHeartbeats 0 in
theorem PySem.Challenge.cw_fewspeak_k07_refusals_apart_holds : PySem.Challenge.rw_fewspeak_k07_refusals_apart.Holds := by
  w_on; o_law; k_head; (case hw => w_witness2)
  k_fill
  refine L2.walk_ofB (l := PySem.Challenge.rw_fewspeak_k07_refusals_apart) (n := 63) (k := 4) (x := "_law_script") (CX := fun _ => L2.CX0) (sp := fun w => My.sp_law _ (fun _ => none)) rfl (by decide) rfl ⟨rfl, by decide, by decide⟩ (fun w h Y => PySem.W.kIn_of Y) ?F (fun _ _ a ns hl hb _ hS => ⟨ns, hS, hl, hb, fun _ => rfl⟩) (fun _ _ _ _ _ h => h)
  case F =>
    intro w mg fa h KX G hmg
    refine' My.law_mk (My.txt_mk KX G ?z_n_len ?aC_SpeakError ?bi0_SpeakError ?bi1_SpeakError ?bi2_SpeakError ?aC_NoListing ?ox_NoListing ?o0_NoListing ?o1_NoListing ?o2_NoListing ?o3_NoListing ?na_NoListing_line ?na_NoListing_word ?aC_NoPlan ?ox_NoPlan ?o0_NoPlan ?o1_NoPlan ?o2_NoPlan ?o3_NoPlan ?na_NoPlan_place ?aC_NoThrow ?ox_NoThrow ?o0_NoThrow ?o1_NoThrow ?o2_NoThrow ?o3_NoThrow ?na_NoThrow_place ?aC_NoSpread ?ox_NoSpread ?o0_NoSpread ?o1_NoSpread ?o2_NoSpread ?o3_NoSpread ?na_NoSpread_one ?na_NoSpread_other ?aC_NoTable ?ox_NoTable ?o0_NoTable ?o1_NoTable ?o2_NoTable ?o3_NoTable ?na_NoTable_row ?z_n_isinstance ?aC_NoAnswers ?aC_NoBounds ?aC_NoLevel ?aC_NoLot ?aC_NoThing ?aC_NoTurn ?aC_NoUnits ?aC_TooMany ?xx_NoAnswers ?xk_NoAnswers ?xb_NoAnswers ?xt_NoAnswers ?xx_NoBounds ?xk_NoBounds ?xb_NoBounds ?xt_NoBounds ?xx_NoLevel ?xk_NoLevel ?xb_NoLevel ?xt_NoLevel ?xx_NoLot ?xk_NoLot ?xb_NoLot ?xt_NoLot ?xx_NoThing ?xk_NoThing ?xb_NoThing ?xt_NoThing ?xx_NoTurn ?xk_NoTurn ?xb_NoTurn ?xt_NoTurn ?xx_NoUnits ?xk_NoUnits ?xb_NoUnits ?xt_NoUnits ?xx_TooMany ?xk_TooMany ?xb_TooMany ?xt_TooMany ?z_n_ValueError ?z_n_max ?z_n_min ?z_n_range ?z0_NoListing ?z1_NoListing ?z2_NoListing ?z3_NoListing ?z4_NoListing ?z5_NoListing ?z6_NoListing ?z7_NoListing ?z0_NoPlan ?z1_NoPlan ?z2_NoPlan ?z3_NoPlan ?z4_NoPlan ?z5_NoPlan ?z6_NoPlan ?z7_NoPlan ?z0_NoThrow ?z1_NoThrow ?z2_NoThrow ?z3_NoThrow ?z4_NoThrow ?z5_NoThrow ?z6_NoThrow ?z7_NoThrow ?z0_NoSpread ?z1_NoSpread ?z2_NoSpread ?z3_NoSpread ?z4_NoSpread ?z5_NoSpread ?z6_NoSpread ?z7_NoSpread ?z0_NoTable ?z1_NoTable ?z2_NoTable ?z3_NoTable ?z4_NoTable ?z5_NoTable ?z6_NoTable ?z7_NoTable ?z0_NoUnits ?z1_NoUnits ?z2_NoUnits ?z3_NoUnits ?z4_NoUnits ?z5_NoUnits ?z6_NoUnits ?z7_NoUnits ?z0_NoLevel ?z1_NoLevel ?z2_NoLevel ?z3_NoLevel ?z4_NoLevel ?z5_NoLevel ?z6_NoLevel ?z7_NoLevel ?z0_TooMany ?z1_TooMany ?z2_TooMany ?z3_TooMany ?z4_TooMany ?z5_TooMany ?z6_TooMany ?z7_TooMany ?z0_NoTurn ?z1_NoTurn ?z2_NoTurn ?z3_NoTurn ?z4_NoTurn ?z5_NoTurn ?z6_NoTurn ?z7_NoTurn ?z0_NoThing ?z1_NoThing ?z2_NoThing ?z3_NoThing ?z4_NoThing ?z5_NoThing ?z6_NoThing ?z7_NoThing ?z0_NoAnswers ?z1_NoAnswers ?z2_NoAnswers ?z3_NoAnswers ?z4_NoAnswers ?z5_NoAnswers ?z6_NoAnswers ?z7_NoAnswers ?z0_NoBounds ?z1_NoBounds ?z2_NoBounds ?z3_NoBounds ?z4_NoBounds ?z5_NoBounds ?z6_NoBounds ?z7_NoBounds ?z0_NoLot ?z1_NoLot ?z2_NoLot ?z3_NoLot ?z4_NoLot ?z5_NoLot ?z6_NoLot ?z7_NoLot ?yb_NoListing ?yi_NoListing ?yt_NoListing ?yb_NoPlan ?yi_NoPlan ?yt_NoPlan ?yb_NoThrow ?yi_NoThrow ?yt_NoThrow ?yb_NoSpread ?yi_NoSpread ?yt_NoSpread ?yb_NoTable ?yi_NoTable ?yt_NoTable ?yb_NoUnits ?yi_NoUnits ?yt_NoUnits ?yb_NoLevel ?yi_NoLevel ?yt_NoLevel ?yb_TooMany ?yi_TooMany ?yt_TooMany ?yb_NoTurn ?yi_NoTurn ?yt_NoTurn ?yb_NoThing ?yi_NoThing ?yt_NoThing ?yb_NoAnswers ?yi_NoAnswers ?yt_NoAnswers ?yb_NoBounds ?yi_NoBounds ?yt_NoBounds ?yb_NoLot ?yi_NoLot ?yt_NoLot ?yb_SpeakError ?yi_SpeakError ?yt_SpeakError ?es_NoListing_NoListing ?es_NoListing_NoPlan ?es_NoListing_NoThrow ?es_NoListing_NoSpread ?es_NoListing_NoTable ?es_NoListing_NoUnits ?es_NoListing_NoLevel ?es_NoListing_TooMany ?es_NoListing_NoTurn ?es_NoListing_NoThing ?es_NoListing_NoAnswers ?es_NoListing_NoBounds ?es_NoListing_NoLot ?es_NoListing_SpeakError ?et_NoListing_ValueError ?es_NoPlan_NoListing ?es_NoPlan_NoPlan ?es_NoPlan_NoThrow ?es_NoPlan_NoSpread ?es_NoPlan_NoTable ?es_NoPlan_NoUnits ?es_NoPlan_NoLevel ?es_NoPlan_TooMany ?es_NoPlan_NoTurn ?es_NoPlan_NoThing ?es_NoPlan_NoAnswers ?es_NoPlan_NoBounds ?es_NoPlan_NoLot ?es_NoPlan_SpeakError ?et_NoPlan_ValueError ?es_NoThrow_NoListing ?es_NoThrow_NoPlan ?es_NoThrow_NoThrow ?es_NoThrow_NoSpread ?es_NoThrow_NoTable ?es_NoThrow_NoUnits ?es_NoThrow_NoLevel ?es_NoThrow_TooMany ?es_NoThrow_NoTurn ?es_NoThrow_NoThing ?es_NoThrow_NoAnswers ?es_NoThrow_NoBounds ?es_NoThrow_NoLot ?es_NoThrow_SpeakError ?et_NoThrow_ValueError ?es_NoSpread_NoListing ?es_NoSpread_NoPlan ?es_NoSpread_NoThrow ?es_NoSpread_NoSpread ?es_NoSpread_NoTable ?es_NoSpread_NoUnits ?es_NoSpread_NoLevel ?es_NoSpread_TooMany ?es_NoSpread_NoTurn ?es_NoSpread_NoThing ?es_NoSpread_NoAnswers ?es_NoSpread_NoBounds ?es_NoSpread_NoLot ?es_NoSpread_SpeakError ?et_NoSpread_ValueError ?es_NoTable_NoListing ?es_NoTable_NoPlan ?es_NoTable_NoThrow ?es_NoTable_NoSpread ?es_NoTable_NoTable ?es_NoTable_NoUnits ?es_NoTable_NoLevel ?es_NoTable_TooMany ?es_NoTable_NoTurn ?es_NoTable_NoThing ?es_NoTable_NoAnswers ?es_NoTable_NoBounds ?es_NoTable_NoLot ?es_NoTable_SpeakError ?et_NoTable_ValueError ?es_NoUnits_NoListing ?es_NoUnits_NoPlan ?es_NoUnits_NoThrow ?es_NoUnits_NoSpread ?es_NoUnits_NoTable ?es_NoUnits_NoUnits ?es_NoUnits_NoLevel ?es_NoUnits_TooMany ?es_NoUnits_NoTurn ?es_NoUnits_NoThing ?es_NoUnits_NoAnswers ?es_NoUnits_NoBounds ?es_NoUnits_NoLot ?es_NoUnits_SpeakError ?et_NoUnits_ValueError ?es_NoLevel_NoListing ?es_NoLevel_NoPlan ?es_NoLevel_NoThrow ?es_NoLevel_NoSpread ?es_NoLevel_NoTable ?es_NoLevel_NoUnits ?es_NoLevel_NoLevel ?es_NoLevel_TooMany ?es_NoLevel_NoTurn ?es_NoLevel_NoThing ?es_NoLevel_NoAnswers ?es_NoLevel_NoBounds ?es_NoLevel_NoLot ?es_NoLevel_SpeakError ?et_NoLevel_ValueError ?es_TooMany_NoListing ?es_TooMany_NoPlan ?es_TooMany_NoThrow ?es_TooMany_NoSpread ?es_TooMany_NoTable ?es_TooMany_NoUnits ?es_TooMany_NoLevel ?es_TooMany_TooMany ?es_TooMany_NoTurn ?es_TooMany_NoThing ?es_TooMany_NoAnswers ?es_TooMany_NoBounds ?es_TooMany_NoLot ?es_TooMany_SpeakError ?et_TooMany_ValueError ?es_NoTurn_NoListing ?es_NoTurn_NoPlan ?es_NoTurn_NoThrow ?es_NoTurn_NoSpread ?es_NoTurn_NoTable ?es_NoTurn_NoUnits ?es_NoTurn_NoLevel ?es_NoTurn_TooMany ?es_NoTurn_NoTurn ?es_NoTurn_NoThing ?es_NoTurn_NoAnswers ?es_NoTurn_NoBounds ?es_NoTurn_NoLot ?es_NoTurn_SpeakError ?et_NoTurn_ValueError ?es_NoThing_NoListing ?es_NoThing_NoPlan ?es_NoThing_NoThrow ?es_NoThing_NoSpread ?es_NoThing_NoTable ?es_NoThing_NoUnits ?es_NoThing_NoLevel ?es_NoThing_TooMany ?es_NoThing_NoTurn ?es_NoThing_NoThing ?es_NoThing_NoAnswers ?es_NoThing_NoBounds ?es_NoThing_NoLot ?es_NoThing_SpeakError ?et_NoThing_ValueError ?es_NoAnswers_NoListing ?es_NoAnswers_NoPlan ?es_NoAnswers_NoThrow ?es_NoAnswers_NoSpread ?es_NoAnswers_NoTable ?es_NoAnswers_NoUnits ?es_NoAnswers_NoLevel ?es_NoAnswers_TooMany ?es_NoAnswers_NoTurn ?es_NoAnswers_NoThing ?es_NoAnswers_NoAnswers ?es_NoAnswers_NoBounds ?es_NoAnswers_NoLot ?es_NoAnswers_SpeakError ?et_NoAnswers_ValueError ?es_NoBounds_NoListing ?es_NoBounds_NoPlan ?es_NoBounds_NoThrow ?es_NoBounds_NoSpread ?es_NoBounds_NoTable ?es_NoBounds_NoUnits ?es_NoBounds_NoLevel ?es_NoBounds_TooMany ?es_NoBounds_NoTurn ?es_NoBounds_NoThing ?es_NoBounds_NoAnswers ?es_NoBounds_NoBounds ?es_NoBounds_NoLot ?es_NoBounds_SpeakError ?et_NoBounds_ValueError ?es_NoLot_NoListing ?es_NoLot_NoPlan ?es_NoLot_NoThrow ?es_NoLot_NoSpread ?es_NoLot_NoTable ?es_NoLot_NoUnits ?es_NoLot_NoLevel ?es_NoLot_TooMany ?es_NoLot_NoTurn ?es_NoLot_NoThing ?es_NoLot_NoAnswers ?es_NoLot_NoBounds ?es_NoLot_NoLot ?es_NoLot_SpeakError ?et_NoLot_ValueError ?a__law_cell ?l__law_cell ?c__law_cell ?k__law_cell ?a__law_mixed ?l__law_mixed ?c__law_mixed ?k__law_mixed ?a_NoListing___init__ ?i_NoListing___init__ ?l_NoListing___init__ ?c_NoListing___init__ ?k_NoListing___init__ ?a_NoPlan___init__ ?i_NoPlan___init__ ?l_NoPlan___init__ ?c_NoPlan___init__ ?k_NoPlan___init__ ?a_NoThrow___init__ ?i_NoThrow___init__ ?l_NoThrow___init__ ?c_NoThrow___init__ ?k_NoThrow___init__ ?a_NoSpread___init__ ?i_NoSpread___init__ ?l_NoSpread___init__ ?c_NoSpread___init__ ?k_NoSpread___init__ ?a_NoTable___init__ ?i_NoTable___init__ ?l_NoTable___init__ ?c_NoTable___init__ ?k_NoTable___init__ ?a__law_kinds ?l__law_kinds ?c__law_kinds ?k__law_kinds ?a__law_made ?l__law_made ?c__law_made ?k__law_made ?a__law_fields ?l__law_fields ?c__law_fields ?k__law_fields ?a_law ?l_law ?c_law ?k_law) hmg
    (case z_n_len => k_is)
    (case aC_SpeakError => k_is)
    (case bi0_SpeakError => k_is)
    (case bi1_SpeakError => k_is)
    (case bi2_SpeakError => k_is)
    (case aC_NoListing => k_is)
    (case ox_NoListing => first | exact ⟨_, _, _, _, _, _, _, _, _, _, _, _, _, _, _, by k_is, by first | rfl | decide +kernel | k_is⟩ | exact ⟨_, _, _, _, _, _, _, _, _, _, _, _, _, _, _, rfl, by first | rfl | decide +kernel⟩)
    (case o0_NoListing => k_is)
    (case o1_NoListing => k_is)
    (case o2_NoListing => k_is)
    (case o3_NoListing => k_is)
    (case na_NoListing_line => k_is)
    (case na_NoListing_word => k_is)
    (case aC_NoPlan => k_is)
    (case ox_NoPlan => first | exact ⟨_, _, _, _, _, _, _, _, _, _, _, _, _, _, _, by k_is, by first | rfl | decide +kernel | k_is⟩ | exact ⟨_, _, _, _, _, _, _, _, _, _, _, _, _, _, _, rfl, by first | rfl | decide +kernel⟩)
    (case o0_NoPlan => k_is)
    (case o1_NoPlan => k_is)
    (case o2_NoPlan => k_is)
    (case o3_NoPlan => k_is)
    (case na_NoPlan_place => k_is)
    (case aC_NoThrow => k_is)
    (case ox_NoThrow => first | exact ⟨_, _, _, _, _, _, _, _, _, _, _, _, _, _, _, by k_is, by first | rfl | decide +kernel | k_is⟩ | exact ⟨_, _, _, _, _, _, _, _, _, _, _, _, _, _, _, rfl, by first | rfl | decide +kernel⟩)
    (case o0_NoThrow => k_is)
    (case o1_NoThrow => k_is)
    (case o2_NoThrow => k_is)
    (case o3_NoThrow => k_is)
    (case na_NoThrow_place => k_is)
    (case aC_NoSpread => k_is)
    (case ox_NoSpread => first | exact ⟨_, _, _, _, _, _, _, _, _, _, _, _, _, _, _, by k_is, by first | rfl | decide +kernel | k_is⟩ | exact ⟨_, _, _, _, _, _, _, _, _, _, _, _, _, _, _, rfl, by first | rfl | decide +kernel⟩)
    (case o0_NoSpread => k_is)
    (case o1_NoSpread => k_is)
    (case o2_NoSpread => k_is)
    (case o3_NoSpread => k_is)
    (case na_NoSpread_one => k_is)
    (case na_NoSpread_other => k_is)
    (case aC_NoTable => k_is)
    (case ox_NoTable => first | exact ⟨_, _, _, _, _, _, _, _, _, _, _, _, _, _, _, by k_is, by first | rfl | decide +kernel | k_is⟩ | exact ⟨_, _, _, _, _, _, _, _, _, _, _, _, _, _, _, rfl, by first | rfl | decide +kernel⟩)
    (case o0_NoTable => k_is)
    (case o1_NoTable => k_is)
    (case o2_NoTable => k_is)
    (case o3_NoTable => k_is)
    (case na_NoTable_row => k_is)
    (case z_n_isinstance => k_is)
    (case aC_NoAnswers => k_is)
    (case aC_NoBounds => k_is)
    (case aC_NoLevel => k_is)
    (case aC_NoLot => k_is)
    (case aC_NoThing => k_is)
    (case aC_NoTurn => k_is)
    (case aC_NoUnits => k_is)
    (case aC_TooMany => k_is)
    (case xx_NoAnswers => k_exc)
    (case xk_NoAnswers => k_is)
    (case xb_NoAnswers => k_is)
    (case xt_NoAnswers => k_is)
    (case xx_NoBounds => k_exc)
    (case xk_NoBounds => k_is)
    (case xb_NoBounds => k_is)
    (case xt_NoBounds => k_is)
    (case xx_NoLevel => k_exc)
    (case xk_NoLevel => k_is)
    (case xb_NoLevel => k_is)
    (case xt_NoLevel => k_is)
    (case xx_NoLot => k_exc)
    (case xk_NoLot => k_is)
    (case xb_NoLot => k_is)
    (case xt_NoLot => k_is)
    (case xx_NoThing => k_exc)
    (case xk_NoThing => k_is)
    (case xb_NoThing => k_is)
    (case xt_NoThing => k_is)
    (case xx_NoTurn => k_exc)
    (case xk_NoTurn => k_is)
    (case xb_NoTurn => k_is)
    (case xt_NoTurn => k_is)
    (case xx_NoUnits => k_exc)
    (case xk_NoUnits => k_is)
    (case xb_NoUnits => k_is)
    (case xt_NoUnits => k_is)
    (case xx_TooMany => k_exc)
    (case xk_TooMany => k_is)
    (case xb_TooMany => k_is)
    (case xt_TooMany => k_is)
    (case z_n_ValueError => k_is)
    (case z_n_max => k_is)
    (case z_n_min => k_is)
    (case z_n_range => k_is)
    (case z0_NoListing => k_is)
    (case z1_NoListing => k_is)
    (case z2_NoListing => k_is)
    (case z3_NoListing => k_is)
    (case z4_NoListing => k_is)
    (case z5_NoListing => k_is)
    (case z6_NoListing => k_is)
    (case z7_NoListing => k_is)
    (case z0_NoPlan => k_is)
    (case z1_NoPlan => k_is)
    (case z2_NoPlan => k_is)
    (case z3_NoPlan => k_is)
    (case z4_NoPlan => k_is)
    (case z5_NoPlan => k_is)
    (case z6_NoPlan => k_is)
    (case z7_NoPlan => k_is)
    (case z0_NoThrow => k_is)
    (case z1_NoThrow => k_is)
    (case z2_NoThrow => k_is)
    (case z3_NoThrow => k_is)
    (case z4_NoThrow => k_is)
    (case z5_NoThrow => k_is)
    (case z6_NoThrow => k_is)
    (case z7_NoThrow => k_is)
    (case z0_NoSpread => k_is)
    (case z1_NoSpread => k_is)
    (case z2_NoSpread => k_is)
    (case z3_NoSpread => k_is)
    (case z4_NoSpread => k_is)
    (case z5_NoSpread => k_is)
    (case z6_NoSpread => k_is)
    (case z7_NoSpread => k_is)
    (case z0_NoTable => k_is)
    (case z1_NoTable => k_is)
    (case z2_NoTable => k_is)
    (case z3_NoTable => k_is)
    (case z4_NoTable => k_is)
    (case z5_NoTable => k_is)
    (case z6_NoTable => k_is)
    (case z7_NoTable => k_is)
    (case z0_NoUnits => k_is)
    (case z1_NoUnits => k_is)
    (case z2_NoUnits => k_is)
    (case z3_NoUnits => k_is)
    (case z4_NoUnits => k_is)
    (case z5_NoUnits => k_is)
    (case z6_NoUnits => k_is)
    (case z7_NoUnits => k_is)
    (case z0_NoLevel => k_is)
    (case z1_NoLevel => k_is)
    (case z2_NoLevel => k_is)
    (case z3_NoLevel => k_is)
    (case z4_NoLevel => k_is)
    (case z5_NoLevel => k_is)
    (case z6_NoLevel => k_is)
    (case z7_NoLevel => k_is)
    (case z0_TooMany => k_is)
    (case z1_TooMany => k_is)
    (case z2_TooMany => k_is)
    (case z3_TooMany => k_is)
    (case z4_TooMany => k_is)
    (case z5_TooMany => k_is)
    (case z6_TooMany => k_is)
    (case z7_TooMany => k_is)
    (case z0_NoTurn => k_is)
    (case z1_NoTurn => k_is)
    (case z2_NoTurn => k_is)
    (case z3_NoTurn => k_is)
    (case z4_NoTurn => k_is)
    (case z5_NoTurn => k_is)
    (case z6_NoTurn => k_is)
    (case z7_NoTurn => k_is)
    (case z0_NoThing => k_is)
    (case z1_NoThing => k_is)
    (case z2_NoThing => k_is)
    (case z3_NoThing => k_is)
    (case z4_NoThing => k_is)
    (case z5_NoThing => k_is)
    (case z6_NoThing => k_is)
    (case z7_NoThing => k_is)
    (case z0_NoAnswers => k_is)
    (case z1_NoAnswers => k_is)
    (case z2_NoAnswers => k_is)
    (case z3_NoAnswers => k_is)
    (case z4_NoAnswers => k_is)
    (case z5_NoAnswers => k_is)
    (case z6_NoAnswers => k_is)
    (case z7_NoAnswers => k_is)
    (case z0_NoBounds => k_is)
    (case z1_NoBounds => k_is)
    (case z2_NoBounds => k_is)
    (case z3_NoBounds => k_is)
    (case z4_NoBounds => k_is)
    (case z5_NoBounds => k_is)
    (case z6_NoBounds => k_is)
    (case z7_NoBounds => k_is)
    (case z0_NoLot => k_is)
    (case z1_NoLot => k_is)
    (case z2_NoLot => k_is)
    (case z3_NoLot => k_is)
    (case z4_NoLot => k_is)
    (case z5_NoLot => k_is)
    (case z6_NoLot => k_is)
    (case z7_NoLot => k_is)
    (case yb_NoListing => k_is)
    (case yi_NoListing => k_is)
    (case yt_NoListing => k_is)
    (case yb_NoPlan => k_is)
    (case yi_NoPlan => k_is)
    (case yt_NoPlan => k_is)
    (case yb_NoThrow => k_is)
    (case yi_NoThrow => k_is)
    (case yt_NoThrow => k_is)
    (case yb_NoSpread => k_is)
    (case yi_NoSpread => k_is)
    (case yt_NoSpread => k_is)
    (case yb_NoTable => k_is)
    (case yi_NoTable => k_is)
    (case yt_NoTable => k_is)
    (case yb_NoUnits => k_is)
    (case yi_NoUnits => k_is)
    (case yt_NoUnits => k_is)
    (case yb_NoLevel => k_is)
    (case yi_NoLevel => k_is)
    (case yt_NoLevel => k_is)
    (case yb_TooMany => k_is)
    (case yi_TooMany => k_is)
    (case yt_TooMany => k_is)
    (case yb_NoTurn => k_is)
    (case yi_NoTurn => k_is)
    (case yt_NoTurn => k_is)
    (case yb_NoThing => k_is)
    (case yi_NoThing => k_is)
    (case yt_NoThing => k_is)
    (case yb_NoAnswers => k_is)
    (case yi_NoAnswers => k_is)
    (case yt_NoAnswers => k_is)
    (case yb_NoBounds => k_is)
    (case yi_NoBounds => k_is)
    (case yt_NoBounds => k_is)
    (case yb_NoLot => k_is)
    (case yi_NoLot => k_is)
    (case yt_NoLot => k_is)
    (case yb_SpeakError => k_is)
    (case yi_SpeakError => k_is)
    (case yt_SpeakError => k_is)
    (case es_NoListing_NoListing => first | rfl | k_is)
    (case es_NoListing_NoPlan => first | rfl | k_is)
    (case es_NoListing_NoThrow => first | rfl | k_is)
    (case es_NoListing_NoSpread => first | rfl | k_is)
    (case es_NoListing_NoTable => first | rfl | k_is)
    (case es_NoListing_NoUnits => first | rfl | k_is)
    (case es_NoListing_NoLevel => first | rfl | k_is)
    (case es_NoListing_TooMany => first | rfl | k_is)
    (case es_NoListing_NoTurn => first | rfl | k_is)
    (case es_NoListing_NoThing => first | rfl | k_is)
    (case es_NoListing_NoAnswers => first | rfl | k_is)
    (case es_NoListing_NoBounds => first | rfl | k_is)
    (case es_NoListing_NoLot => first | rfl | k_is)
    (case es_NoListing_SpeakError => first | rfl | k_is)
    (case et_NoListing_ValueError => first | rfl | k_is)
    (case es_NoPlan_NoListing => first | rfl | k_is)
    (case es_NoPlan_NoPlan => first | rfl | k_is)
    (case es_NoPlan_NoThrow => first | rfl | k_is)
    (case es_NoPlan_NoSpread => first | rfl | k_is)
    (case es_NoPlan_NoTable => first | rfl | k_is)
    (case es_NoPlan_NoUnits => first | rfl | k_is)
    (case es_NoPlan_NoLevel => first | rfl | k_is)
    (case es_NoPlan_TooMany => first | rfl | k_is)
    (case es_NoPlan_NoTurn => first | rfl | k_is)
    (case es_NoPlan_NoThing => first | rfl | k_is)
    (case es_NoPlan_NoAnswers => first | rfl | k_is)
    (case es_NoPlan_NoBounds => first | rfl | k_is)
    (case es_NoPlan_NoLot => first | rfl | k_is)
    (case es_NoPlan_SpeakError => first | rfl | k_is)
    (case et_NoPlan_ValueError => first | rfl | k_is)
    (case es_NoThrow_NoListing => first | rfl | k_is)
    (case es_NoThrow_NoPlan => first | rfl | k_is)
    (case es_NoThrow_NoThrow => first | rfl | k_is)
    (case es_NoThrow_NoSpread => first | rfl | k_is)
    (case es_NoThrow_NoTable => first | rfl | k_is)
    (case es_NoThrow_NoUnits => first | rfl | k_is)
    (case es_NoThrow_NoLevel => first | rfl | k_is)
    (case es_NoThrow_TooMany => first | rfl | k_is)
    (case es_NoThrow_NoTurn => first | rfl | k_is)
    (case es_NoThrow_NoThing => first | rfl | k_is)
    (case es_NoThrow_NoAnswers => first | rfl | k_is)
    (case es_NoThrow_NoBounds => first | rfl | k_is)
    (case es_NoThrow_NoLot => first | rfl | k_is)
    (case es_NoThrow_SpeakError => first | rfl | k_is)
    (case et_NoThrow_ValueError => first | rfl | k_is)
    (case es_NoSpread_NoListing => first | rfl | k_is)
    (case es_NoSpread_NoPlan => first | rfl | k_is)
    (case es_NoSpread_NoThrow => first | rfl | k_is)
    (case es_NoSpread_NoSpread => first | rfl | k_is)
    (case es_NoSpread_NoTable => first | rfl | k_is)
    (case es_NoSpread_NoUnits => first | rfl | k_is)
    (case es_NoSpread_NoLevel => first | rfl | k_is)
    (case es_NoSpread_TooMany => first | rfl | k_is)
    (case es_NoSpread_NoTurn => first | rfl | k_is)
    (case es_NoSpread_NoThing => first | rfl | k_is)
    (case es_NoSpread_NoAnswers => first | rfl | k_is)
    (case es_NoSpread_NoBounds => first | rfl | k_is)
    (case es_NoSpread_NoLot => first | rfl | k_is)
    (case es_NoSpread_SpeakError => first | rfl | k_is)
    (case et_NoSpread_ValueError => first | rfl | k_is)
    (case es_NoTable_NoListing => first | rfl | k_is)
    (case es_NoTable_NoPlan => first | rfl | k_is)
    (case es_NoTable_NoThrow => first | rfl | k_is)
    (case es_NoTable_NoSpread => first | rfl | k_is)
    (case es_NoTable_NoTable => first | rfl | k_is)
    (case es_NoTable_NoUnits => first | rfl | k_is)
    (case es_NoTable_NoLevel => first | rfl | k_is)
    (case es_NoTable_TooMany => first | rfl | k_is)
    (case es_NoTable_NoTurn => first | rfl | k_is)
    (case es_NoTable_NoThing => first | rfl | k_is)
    (case es_NoTable_NoAnswers => first | rfl | k_is)
    (case es_NoTable_NoBounds => first | rfl | k_is)
    (case es_NoTable_NoLot => first | rfl | k_is)
    (case es_NoTable_SpeakError => first | rfl | k_is)
    (case et_NoTable_ValueError => first | rfl | k_is)
    (case es_NoUnits_NoListing => first | rfl | k_is)
    (case es_NoUnits_NoPlan => first | rfl | k_is)
    (case es_NoUnits_NoThrow => first | rfl | k_is)
    (case es_NoUnits_NoSpread => first | rfl | k_is)
    (case es_NoUnits_NoTable => first | rfl | k_is)
    (case es_NoUnits_NoUnits => first | rfl | k_is)
    (case es_NoUnits_NoLevel => first | rfl | k_is)
    (case es_NoUnits_TooMany => first | rfl | k_is)
    (case es_NoUnits_NoTurn => first | rfl | k_is)
    (case es_NoUnits_NoThing => first | rfl | k_is)
    (case es_NoUnits_NoAnswers => first | rfl | k_is)
    (case es_NoUnits_NoBounds => first | rfl | k_is)
    (case es_NoUnits_NoLot => first | rfl | k_is)
    (case es_NoUnits_SpeakError => first | rfl | k_is)
    (case et_NoUnits_ValueError => first | rfl | k_is)
    (case es_NoLevel_NoListing => first | rfl | k_is)
    (case es_NoLevel_NoPlan => first | rfl | k_is)
    (case es_NoLevel_NoThrow => first | rfl | k_is)
    (case es_NoLevel_NoSpread => first | rfl | k_is)
    (case es_NoLevel_NoTable => first | rfl | k_is)
    (case es_NoLevel_NoUnits => first | rfl | k_is)
    (case es_NoLevel_NoLevel => first | rfl | k_is)
    (case es_NoLevel_TooMany => first | rfl | k_is)
    (case es_NoLevel_NoTurn => first | rfl | k_is)
    (case es_NoLevel_NoThing => first | rfl | k_is)
    (case es_NoLevel_NoAnswers => first | rfl | k_is)
    (case es_NoLevel_NoBounds => first | rfl | k_is)
    (case es_NoLevel_NoLot => first | rfl | k_is)
    (case es_NoLevel_SpeakError => first | rfl | k_is)
    (case et_NoLevel_ValueError => first | rfl | k_is)
    (case es_TooMany_NoListing => first | rfl | k_is)
    (case es_TooMany_NoPlan => first | rfl | k_is)
    (case es_TooMany_NoThrow => first | rfl | k_is)
    (case es_TooMany_NoSpread => first | rfl | k_is)
    (case es_TooMany_NoTable => first | rfl | k_is)
    (case es_TooMany_NoUnits => first | rfl | k_is)
    (case es_TooMany_NoLevel => first | rfl | k_is)
    (case es_TooMany_TooMany => first | rfl | k_is)
    (case es_TooMany_NoTurn => first | rfl | k_is)
    (case es_TooMany_NoThing => first | rfl | k_is)
    (case es_TooMany_NoAnswers => first | rfl | k_is)
    (case es_TooMany_NoBounds => first | rfl | k_is)
    (case es_TooMany_NoLot => first | rfl | k_is)
    (case es_TooMany_SpeakError => first | rfl | k_is)
    (case et_TooMany_ValueError => first | rfl | k_is)
    (case es_NoTurn_NoListing => first | rfl | k_is)
    (case es_NoTurn_NoPlan => first | rfl | k_is)
    (case es_NoTurn_NoThrow => first | rfl | k_is)
    (case es_NoTurn_NoSpread => first | rfl | k_is)
    (case es_NoTurn_NoTable => first | rfl | k_is)
    (case es_NoTurn_NoUnits => first | rfl | k_is)
    (case es_NoTurn_NoLevel => first | rfl | k_is)
    (case es_NoTurn_TooMany => first | rfl | k_is)
    (case es_NoTurn_NoTurn => first | rfl | k_is)
    (case es_NoTurn_NoThing => first | rfl | k_is)
    (case es_NoTurn_NoAnswers => first | rfl | k_is)
    (case es_NoTurn_NoBounds => first | rfl | k_is)
    (case es_NoTurn_NoLot => first | rfl | k_is)
    (case es_NoTurn_SpeakError => first | rfl | k_is)
    (case et_NoTurn_ValueError => first | rfl | k_is)
    (case es_NoThing_NoListing => first | rfl | k_is)
    (case es_NoThing_NoPlan => first | rfl | k_is)
    (case es_NoThing_NoThrow => first | rfl | k_is)
    (case es_NoThing_NoSpread => first | rfl | k_is)
    (case es_NoThing_NoTable => first | rfl | k_is)
    (case es_NoThing_NoUnits => first | rfl | k_is)
    (case es_NoThing_NoLevel => first | rfl | k_is)
    (case es_NoThing_TooMany => first | rfl | k_is)
    (case es_NoThing_NoTurn => first | rfl | k_is)
    (case es_NoThing_NoThing => first | rfl | k_is)
    (case es_NoThing_NoAnswers => first | rfl | k_is)
    (case es_NoThing_NoBounds => first | rfl | k_is)
    (case es_NoThing_NoLot => first | rfl | k_is)
    (case es_NoThing_SpeakError => first | rfl | k_is)
    (case et_NoThing_ValueError => first | rfl | k_is)
    (case es_NoAnswers_NoListing => first | rfl | k_is)
    (case es_NoAnswers_NoPlan => first | rfl | k_is)
    (case es_NoAnswers_NoThrow => first | rfl | k_is)
    (case es_NoAnswers_NoSpread => first | rfl | k_is)
    (case es_NoAnswers_NoTable => first | rfl | k_is)
    (case es_NoAnswers_NoUnits => first | rfl | k_is)
    (case es_NoAnswers_NoLevel => first | rfl | k_is)
    (case es_NoAnswers_TooMany => first | rfl | k_is)
    (case es_NoAnswers_NoTurn => first | rfl | k_is)
    (case es_NoAnswers_NoThing => first | rfl | k_is)
    (case es_NoAnswers_NoAnswers => first | rfl | k_is)
    (case es_NoAnswers_NoBounds => first | rfl | k_is)
    (case es_NoAnswers_NoLot => first | rfl | k_is)
    (case es_NoAnswers_SpeakError => first | rfl | k_is)
    (case et_NoAnswers_ValueError => first | rfl | k_is)
    (case es_NoBounds_NoListing => first | rfl | k_is)
    (case es_NoBounds_NoPlan => first | rfl | k_is)
    (case es_NoBounds_NoThrow => first | rfl | k_is)
    (case es_NoBounds_NoSpread => first | rfl | k_is)
    (case es_NoBounds_NoTable => first | rfl | k_is)
    (case es_NoBounds_NoUnits => first | rfl | k_is)
    (case es_NoBounds_NoLevel => first | rfl | k_is)
    (case es_NoBounds_TooMany => first | rfl | k_is)
    (case es_NoBounds_NoTurn => first | rfl | k_is)
    (case es_NoBounds_NoThing => first | rfl | k_is)
    (case es_NoBounds_NoAnswers => first | rfl | k_is)
    (case es_NoBounds_NoBounds => first | rfl | k_is)
    (case es_NoBounds_NoLot => first | rfl | k_is)
    (case es_NoBounds_SpeakError => first | rfl | k_is)
    (case et_NoBounds_ValueError => first | rfl | k_is)
    (case es_NoLot_NoListing => first | rfl | k_is)
    (case es_NoLot_NoPlan => first | rfl | k_is)
    (case es_NoLot_NoThrow => first | rfl | k_is)
    (case es_NoLot_NoSpread => first | rfl | k_is)
    (case es_NoLot_NoTable => first | rfl | k_is)
    (case es_NoLot_NoUnits => first | rfl | k_is)
    (case es_NoLot_NoLevel => first | rfl | k_is)
    (case es_NoLot_TooMany => first | rfl | k_is)
    (case es_NoLot_NoTurn => first | rfl | k_is)
    (case es_NoLot_NoThing => first | rfl | k_is)
    (case es_NoLot_NoAnswers => first | rfl | k_is)
    (case es_NoLot_NoBounds => first | rfl | k_is)
    (case es_NoLot_NoLot => first | rfl | k_is)
    (case es_NoLot_SpeakError => first | rfl | k_is)
    (case et_NoLot_ValueError => first | rfl | k_is)
    (case a__law_cell => k_is)
    (case l__law_cell => k_is)
    (case c__law_cell => k_is)
    (case k__law_cell => k_is)
    (case a__law_mixed => k_is)
    (case l__law_mixed => k_is)
    (case c__law_mixed => k_is)
    (case k__law_mixed => k_is)
    (case a_NoListing___init__ => k_is)
    (case i_NoListing___init__ => k_is)
    (case l_NoListing___init__ => k_is)
    (case c_NoListing___init__ => k_is)
    (case k_NoListing___init__ => k_is)
    (case a_NoPlan___init__ => k_is)
    (case i_NoPlan___init__ => k_is)
    (case l_NoPlan___init__ => k_is)
    (case c_NoPlan___init__ => k_is)
    (case k_NoPlan___init__ => k_is)
    (case a_NoThrow___init__ => k_is)
    (case i_NoThrow___init__ => k_is)
    (case l_NoThrow___init__ => k_is)
    (case c_NoThrow___init__ => k_is)
    (case k_NoThrow___init__ => k_is)
    (case a_NoSpread___init__ => k_is)
    (case i_NoSpread___init__ => k_is)
    (case l_NoSpread___init__ => k_is)
    (case c_NoSpread___init__ => k_is)
    (case k_NoSpread___init__ => k_is)
    (case a_NoTable___init__ => k_is)
    (case i_NoTable___init__ => k_is)
    (case l_NoTable___init__ => k_is)
    (case c_NoTable___init__ => k_is)
    (case k_NoTable___init__ => k_is)
    (case a__law_kinds => k_is)
    (case l__law_kinds => k_is)
    (case c__law_kinds => k_is)
    (case k__law_kinds => k_is)
    (case a__law_made => k_is)
    (case l__law_made => k_is)
    (case c__law_made => k_is)
    (case k__law_made => k_is)
    (case a__law_fields => k_is)
    (case l__law_fields => k_is)
    (case c__law_fields => k_is)
    (case k__law_fields => k_is)
    (case a_law => k_is)
    (case l_law => k_is)
    (case c_law => k_is)
    (case k_law => k_is)
#print axioms PySem.Challenge.cw_fewspeak_k07_refusals_apart_holds

