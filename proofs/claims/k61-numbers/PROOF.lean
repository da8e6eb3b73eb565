import PyProof.Rows.All
import Wide.All
import OpenK.AllK
import Wide.FinOn
import HandS.ForMost
import HandS.Exc
import HandS.TryOnly
import HandS.ExcOwn
import HandS.WordsExc
import HandS.Wide
import HandS.IsInst
import HandS.EndBits
import HandS.Conv
import HandS.Style
import HandS.TupAny
import HandS.Evl
import HandS.Walk
import HandS.Iter
import PySem.Challenge.RW_fewspeak_k61_numbers_in_turns
set_option Elab.async false
set_option linter.all false
set_option maxRecDepth 100000
set_option maxHeartbeats 4000000
namespace Kt
open PySem PySem.Spec PyProof.Rows L2
/-- a def of the top, as it stands behind the top -/
structure DefAt (K : PySem.W.Frag) (mg : Str → Option Value) (x : Str) (st : Stmt) (ps : List Str) : Prop where
  ex : ∃ (f : Addr) (fd : FuncData), Fun K x x st f fd ∧ mg x = some (.ref f) ∧ Binds K fd ps []
/-- a method of the class at C -/
structure MethAt (K : PySem.W.Frag) (C : Addr) (m qual : Str) (st : Stmt) (ps : List Str) : Prop where
  ex : ∃ (f : Addr) (fd : FuncData), Fun K m qual st f fd ∧ Meth K C m f ∧ Binds K fd ps []
structure InitAt (K : PySem.W.Frag) (C : Addr) (qual : Str) (st : Stmt) (ps : List Str) : Prop where
  ex : ∃ (f : Addr) (fd : FuncData), Fun K "__init__" qual st f fd ∧ Mk K C f ∧ Binds K fd ps []
/-- the class that a name of the module holds -/
def cA (mg : Str → Option Value) (x : Str) : Addr := match mg x with | some (.ref a) => a | _ => 0
theorem cA_of {mg : Str → Option Value} {x : Str} {a : Addr} (h : mg x = some (.ref a)) : cA mg x = a := by unfold cA; rw [h]
/-- a def that may be called by its name; a method of the class at C; a class that may be made -/
structure Cal (P : Program) (w : World) (K : PySem.W.Frag) (mg : Str → Option Value) (base : Heap) (k : Nat) (x : Str) (sp : Sp) : Prop where
  ex : ∃ (f : Addr) (fd : FuncData) (ps : List Str), FnOk P w K mg base CX0 k f fd ps sp ∧ mg x = some (.ref f) ∧ PySem.W.keepIn K (.ref f) = true ∧ Binds K fd ps []
structure Met (P : Program) (w : World) (K : PySem.W.Frag) (mg : Str → Option Value) (base : Heap) (k : Nat) (C : Addr) (m : Str) (sp : Sp) : Prop where
  ex : ∃ (f : Addr) (fd : FuncData) (ps : List Str), Cls K C ∧ Meth K C m f ∧ FnOk P w K mg base CX0 k f fd ps sp ∧ Binds K fd ps []
structure Mak (P : Program) (w : World) (K : PySem.W.Frag) (mg : Str → Option Value) (base : Heap) (k : Nat) (x : Str) (C : Addr) (sp : Sp) : Prop where
  ex : ∃ (f : Addr) (fd : FuncData) (ps : List Str), Mk K C f ∧ FnOk P w K mg base CX0 k f fd ps sp ∧ mg x = some (.ref C) ∧ Binds K fd ps []
section
variable {P : Program} {w : World} {K : PySem.W.Frag} {mg : Str → Option Value} {base : Heap}
theorem DefAt.cal {x : Str} {st : Stmt} {N ps : List Str} {k : Nat} {sp : Sp} (d : DefAt K mg x st ps) (S : FnScope N ps (defScope st)) (len : ∀ vs H Q E, sp vs H Q E → vs.length = ps.length)
    (hbody : ∀ (f : Addr) (cdv : Value) (A : Around) (outer : List Env) (s : Shared) (H : Hp) (vs : List V) (Q : VK) (E : XK), Room k (A.deeper (envOfC x (defScope st) s.heap.objs.size f cdv)) → sp vs H Q E →
      ∃ t, PSs (cxOf CX0 P w K mg base N x (defScope st) f cdv A outer s H E).nox (defBody st) t ∧ t { nx := fun _ H' => Q .non H', rt := Q } (start N vs) H) : Cal P w K mg base (k + 1) x sp := by
  obtain ⟨f, fd, F, hm, b⟩ := d.ex
  exact ⟨f, fd, ps, F.ok S len (hbody f), hm, F.kp, b⟩
theorem MethAt.met {C : Addr} {m qual : Str} {st : Stmt} {N ps : List Str} {k : Nat} {sp : Sp} (c : Cls K C) (d : MethAt K C m qual st ps) (S : FnScope N ps (defScope st)) (len : ∀ vs H Q E, sp vs H Q E → vs.length = ps.length)
    (hbody : ∀ (f : Addr) (cdv : Value) (A : Around) (outer : List Env) (s : Shared) (H : Hp) (vs : List V) (Q : VK) (E : XK), Room k (A.deeper (envOfC qual (defScope st) s.heap.objs.size f cdv)) → sp vs H Q E →
      ∃ t, PSs (cxOf CX0 P w K mg base N qual (defScope st) f cdv A outer s H E).nox (defBody st) t ∧ t { nx := fun _ H' => Q .non H', rt := Q } (start N vs) H) : Met P w K mg base (k + 1) C m sp := by
  obtain ⟨f, fd, F, hm, b⟩ := d.ex
  exact ⟨f, fd, ps, c, hm, F.ok S len (hbody f), b⟩
theorem InitAt.mak {x : Str} {C : Addr} {qual : Str} {st : Stmt} {N ps : List Str} {k : Nat} {sp : Sp} (hx : mg x = some (.ref C)) (d : InitAt K C qual st ps) (S : FnScope N ps (defScope st)) (len : ∀ vs H Q E, sp vs H Q E → vs.length = ps.length)
    (hbody : ∀ (f : Addr) (cdv : Value) (A : Around) (outer : List Env) (s : Shared) (H : Hp) (vs : List V) (Q : VK) (E : XK), Room k (A.deeper (envOfC qual (defScope st) s.heap.objs.size f cdv)) → sp vs H Q E →
      ∃ t, PSs (cxOf CX0 P w K mg base N qual (defScope st) f cdv A outer s H E).nox (defBody st) t ∧ t { nx := fun _ H' => Q .non H', rt := Q } (start N vs) H) : Mak P w K mg base (k + 1) x C sp := by
  obtain ⟨f, fd, F, hm, b⟩ := d.ex
  exact ⟨f, fd, ps, hm, F.ok S len (hbody f), hx, b⟩
/-- a def that may raise -/
structure CalX (P : Program) (w : World) (K : PySem.W.Frag) (mg : Str → Option Value) (base : Heap) (k : Nat) (x : Str) (sp : Sp) : Prop where
  ex : ∃ (f : Addr) (fd : FuncData) (ps : List Str), FnOk P w K mg base (L2.CX P w) k f fd ps sp ∧ mg x = some (.ref f) ∧ PySem.W.keepIn K (.ref f) = true ∧ Binds K fd ps []
theorem DefAt.calX {x : Str} {st : Stmt} {N ps : List Str} {k : Nat} {sp : Sp} (d : DefAt K mg x st ps) (S : FnScope N ps (defScope st)) (len : ∀ vs H Q E, sp vs H Q E → vs.length = ps.length)
    (hbody : ∀ (f : Addr) (cdv : Value) (A : Around) (outer : List Env) (s : Shared) (H : Hp) (vs : List V) (Q : VK) (E : XK), Room k (A.deeper (envOfC x (defScope st) s.heap.objs.size f cdv)) → sp vs H Q E →
      ∃ t, PSs (cxOf (L2.CX P w) P w K mg base N x (defScope st) f cdv A outer s H E) (defBody st) t ∧ t { nx := fun _ H' => Q .non H', rt := Q } (start N vs) H) : CalX P w K mg base (k + 1) x sp := by
  obtain ⟨f, fd, F, hm, b⟩ := d.ex
  exact ⟨f, fd, ps, F.okX S len (hbody f), hm, F.kp, b⟩
end
section
variable {X : Cx} {k j : Nat} {C : Addr} {x m : Str} {sp : Sp} {p pos apos : Pos} {e o : Expr} {es : List Expr} {ta : TE} {t : TA}
theorem pe_c (c : Cal X.prog X.w X.K X.mg X.base k x sp) (hr : Room j X.A) (hk : k ≤ j) (hg : Gl X x) (ha : PA X (e :: es) t)
    (hdb : (x == ("__debug__" : Str)) = false := by decide) (he : starEach (e :: es) X.env = (false, eval e X.env) :: starEach es X.env := by rfl) (hpl : (backTo pos (starEach es X.env)).any (·.1) = false := by rfl) :
    PE X (.Call (.Name x p) (e :: es) [] pos) (tCall sp [] E0 t) := by
  obtain ⟨f, fd, ps, F, hm, kp, b⟩ := c.ex
  exact pe_call F (hr.mono hk) hg hm kp b .nil pass0 ha hdb he hpl
theorem pe_c0 (c : Cal X.prog X.w X.K X.mg X.base k x sp) (hr : Room j X.A) (hk : k ≤ j) (hg : Gl X x)
    (hdb : (x == ("__debug__" : Str)) = false := by decide) :
    PE X (.Call (.Name x p) [] [] pos) (tCall sp [] E0 tNil) := by
  obtain ⟨f, fd, ps, F, hm, kp, b⟩ := c.ex
  exact pe_call0 F (hr.mono hk) hg hm kp b .nil pass0 hdb
theorem pe_mk (c : Mak X.prog X.w X.K X.mg X.base k x C sp) (hr : Room j X.A) (hk : k + 1 ≤ j) (hg : Gl X x) (ha : PA X (e :: es) t)
    (hdb : (x == ("__debug__" : Str)) = false := by decide) (he : starEach (e :: es) X.env = (false, eval e X.env) :: starEach es X.env := by rfl) (hpl : (backTo pos (starEach es X.env)).any (·.1) = false := by rfl) :
    PE X (.Call (.Name x p) (e :: es) [] pos) (tMake C sp [] E0 t) := by
  obtain ⟨f, fd, ps, M, F, hm, b⟩ := c.ex
  exact pe_make M F (hr.mono hk) hg hm b .nil pass0 ha hdb he hpl
theorem pe_mt {pl : Sem Bool} (c : Met X.prog X.w X.K X.mg X.base k C m sp) (hr : Room j X.A) (hk : k ≤ j) (he : PE X o ta) (ha : PA X (e :: es) t)
    (hst : starEach (e :: es) X.env = (false, eval e X.env) :: starEach es X.env := by rfl) (hpl : (backTo pos (starEach es X.env)).any (·.1) = false := by rfl)
    (ht : eval (.Call (.Attribute o m apos) (e :: es) [] pos) X.env = (do
      let ov ← eval o X.env
      standAt apos.atName
      let (f, first) ← holding [ov] (getMethod ov m pl)
      callWith pos f first (backTo pos (starEach (e :: es) X.env)) (backToKw pos (keywordEach [] X.env))) := by rfl) :
    PE X (.Call (.Attribute o m apos) (e :: es) [] pos) (tMeth C m sp [] E0 ta t) := by
  obtain ⟨f, fd, ps, hc, hm, F, b⟩ := c.ex
  exact pe_meth (pl := pl) he hc hm F (hr.mono hk) b .nil pass0 ha hst hpl ht
theorem pe_mt0 {pl : Sem Bool} (c : Met X.prog X.w X.K X.mg X.base k C m sp) (hr : Room j X.A) (hk : k ≤ j) (he : PE X o ta)
    (ht : eval (.Call (.Attribute o m apos) [] [] pos) X.env = (do
      let ov ← eval o X.env
      standAt apos.atName
      let (f, first) ← holding [ov] (getMethod ov m pl)
      callWith pos f first (backTo pos (starEach [] X.env)) (backToKw pos (keywordEach [] X.env))) := by rfl) :
    PE X (.Call (.Attribute o m apos) [] [] pos) (tMeth C m sp [] E0 ta tNil) := by
  obtain ⟨f, fd, ps, hc, hm, F, b⟩ := c.ex
  exact pe_meth0 (pl := pl) he hc hm F (hr.mono hk) b .nil pass0 ht
/-- a call of a def that may raise, where nothing is raised -/
theorem pe_x0 (c : CalX X.prog X.w X.K X.mg X.base k x sp) (hr : Room j X.A) (hk : k ≤ j) (hg : Gl X x) (ha : PA X (e :: es) t)
    (hdb : (x == ("__debug__" : Str)) = false := by decide) (he : starEach (e :: es) X.env = (false, eval e X.env) :: starEach es X.env := by rfl) (hpl : (backTo pos (starEach es X.env)).any (·.1) = false := by rfl) :
    PE X (.Call (.Name x p) (e :: es) [] pos) (tCall sp [] E0 t) := by
  obtain ⟨f, fd, ps, F, hm, kp, b⟩ := c.ex
  exact pe_call F (hr.mono hk) hg hm kp b .nil passL ha hdb he hpl
end
/-- a built-in class as a value -/
theorem pe_ty {X : Cx} {x : Str} {pos : Pos} (n : String) (hg : Gl X x) (hm : X.mg x = none) (hv : bootBuiltins x = some (.type n)) (hn : x ≠ "__name__" := by decide) (hdb : (x == ("__debug__" : Str)) = false := by decide) : PE X (.Name x pos) (tC (.ty n)) :=
  pe_bltn hg hm hv rfl hn hdb
/-- a constant of the module -/
theorem pe_gc {X : Cx} {x : Str} {pos : Pos} {v : V} (hg : Gl X x) (h : ∃ u, X.mg x = some u ∧ RelV v u) (hdb : (x == ("__debug__" : Str)) = false := by decide) : PE X (.Name x pos) (tC v) := by
  obtain ⟨u, h1, h2⟩ := h
  exact pe_glob hg h1 h2 hdb
/-! ### heaps -/
theorem hp_new {H : Hp} {a b : Addr} {o o' : HO} (h : H a = none) (h' : H b = some o') : upd H a o b = some o' := by
  rw [upd_ne (ne_of_none h' h)]; exact h'
theorem hp_same {H H' : Hp} {b : Addr} {o : HO} (e : Same H H') (h : H b = some o) : H' b = some o := e b o h
theorem same_upd {H H' : Hp} {a : Addr} {o : HO} (e : Same H H') (h : H' a = none) : Same H (upd H' a o) := fun b o' q => hp_new h (e b o' q)
theorem same_new {H : Hp} {a : Addr} {o : HO} (h : H a = none) : Same H (upd H a o) := fun b o' q => hp_new h q
theorem cxOf_K {CX : CXT} {P : Program} {w : World} {K : PySem.W.Frag} {mg : Str → Option Value} {base : Heap} {N : List Str} {qual : Str} {scope : Scope} {f : Addr} {cd : Value} {A : Around} {outer : List Env} {s : Shared} {H : Hp} {E : XK} : (cxOf CX P w K mg base N qual scope f cd A outer s H E).nox.K = K := rfl
theorem cxOf_K' {CX : CXT} {P : Program} {w : World} {K : PySem.W.Frag} {mg : Str → Option Value} {base : Heap} {N : List Str} {qual : Str} {scope : Scope} {f : Addr} {cd : Value} {A : Around} {outer : List Env} {s : Shared} {H : Hp} {E : XK} : (cxOf CX P w K mg base N qual scope f cd A outer s H E).K = K := rfl
theorem cxOf_mg {CX : CXT} {P : Program} {w : World} {K : PySem.W.Frag} {mg : Str → Option Value} {base : Heap} {N : List Str} {qual : Str} {scope : Scope} {f : Addr} {cd : Value} {A : Around} {outer : List Env} {s : Shared} {H : Hp} {E : XK} : (cxOf CX P w K mg base N qual scope f cd A outer s H E).nox.mg = mg := rfl
theorem cxOf_mg' {CX : CXT} {P : Program} {w : World} {K : PySem.W.Frag} {mg : Str → Option Value} {base : Heap} {N : List Str} {qual : Str} {scope : Scope} {f : Addr} {cd : Value} {A : Around} {outer : List Env} {s : Shared} {H : Hp} {E : XK} : (cxOf CX P w K mg base N qual scope f cd A outer s H E).mg = mg := rfl
/-- a new tuple, a new list: all that stood stands -/
def NewT (H : Hp) (xs : List V) (Q : VK) : Prop := ∀ p H', H p = none → Same H H' → H' p = some (.tup xs) → Q (.ref p) H'
def NewL (H : Hp) (xs : List V) (Q : VK) : Prop := ∀ p H', H p = none → Same H H' → H' p = some (.lst xs) → Q (.ref p) H'
theorem NewT.at {H : Hp} {xs : List V} {Q : VK} (q : NewT H xs Q) (p : Addr) (h : H p = none) : Q (.ref p) (upd H p (.tup xs)) := q p _ h (same_new h) upd_same
theorem NewL.at {H : Hp} {xs : List V} {Q : VK} (q : NewL H xs Q) (p : Addr) (h : H p = none) : Q (.ref p) (upd H p (.lst xs)) := q p _ h (same_new h) upd_same
theorem NewT.of {H H' : Hp} {xs : List V} {Q : VK} (q : NewT H xs Q) (e : Same H H') : NewT H' xs Q := fun p H2 h s x => q p H2 (e.free h) (e.trans s) x
theorem NewL.of {H H' : Hp} {xs : List V} {Q : VK} (q : NewL H xs Q) (e : Same H H') : NewL H' xs Q := fun p H2 h s x => q p H2 (e.free h) (e.trans s) x
/-! ### readings by name -/
section
variable {X : Cx}
def aAdd (K : PySem.W.Frag) : R2 := fun x y H Q => rI0 (fun i j => .int (i + j)) x y H Q ∨ (∃ i j, x = .str i ∧ y = .str j ∧ i.length + j.length ≤ sizeLine ∧ Q (.str (i ++ j)) H) ∨ rCat x y H Q ∨ rCatA K x y H Q
theorem op_addA : OpR X (binaryOp .Add) (aAdd X.K) := op_add.or (op_add_str.or (op_cat.or op_catA))
def aMul : R2 := fun x y H Q => rI CMulW (fun i j => .int (i * j)) x y H Q ∨ rRep x y H Q
theorem op_mulA : OpR X (binaryOp .Mult) aMul := op_mulW.or op_rep
def aEq (K : PySem.W.Frag) : R2 := fun x y H Q => rEq x y H Q ∨ rEqD K x y H Q
theorem op_eqA {k : Nat} (hr : Room k X.A) : OpR X (compareOp .Eq) (aEq X.K) := op_eq.or (op_eqD hr.units)
def aNe (K : PySem.W.Frag) : R2 := fun x y H Q => rNe x y H Q ∨ rNeD K x y H Q
theorem op_neA {k : Nat} (hr : Room k X.A) : OpR X (compareOp .NotEq) (aNe X.K) := op_ne.or (op_neD hr.units)
def aLe : R2 := fun x y H Q => rI0 (fun i j => .bl (decide (i ≤ j))) x y H Q ∨ ∃ i j, x = .str i ∧ y = .str j ∧ Q (.bl (!decide (j.cps.toList < i.cps.toList))) H
theorem op_leA : OpR X (compareOp .LtE) aLe := op_le.or op_le_str
def aLt : R2 := fun x y H Q => rI0 (fun i j => .bl (decide (i < j))) x y H Q ∨ ∃ i j, x = .str i ∧ y = .str j ∧ Q (.bl (decide (i.cps.toList < j.cps.toList))) H
theorem op_ltA : OpR X (compareOp .Lt) aLt := op_lt.or op_lt_str
def aIn (K : PySem.W.Frag) : R2 := fun x y H Q => (∃ (c : Nat) (z : Str), x = .str ⟨#[c]⟩ ∧ y = .str z ∧ Q (.bl (decide (c ∈ z.cps.toList))) H) ∨ rIn K false x y H Q
theorem op_inA : OpR X (compareOp .In) (aIn X.K) := op_in_sign.or op_in_seq
def aNotIn (K : PySem.W.Frag) : R2 := fun x y H Q => (∃ (c : Nat) (z : Str), x = .str ⟨#[c]⟩ ∧ y = .str z ∧ Q (.bl (!decide (c ∈ z.cps.toList))) H) ∨ rIn K true x y H Q
theorem op_notInA : OpR X (compareOp .NotIn) (aNotIn X.K) := op_notIn_sign.or op_notIn_seq
def aLen (K : PySem.W.Frag) : List V → Hp → VK → Prop := fun xs H Q => (∃ p ys, xs = [.ref p] ∧ (SqL K H p ys ∨ SqT K H p ys) ∧ Q (.int ys.length) H) ∨ (∃ z, xs = [.str z] ∧ z.length ≤ sizeLine ∧ Q (.int z.length) H) ∨ (∃ a kvs, xs = [V.ref a] ∧ H a = some (.dK kvs) ∧ Q (.int kvs.length) H)
theorem call_lenA : CallR X (.builtin "len") (aLen X.K) := call_len_seq.or (call_len_str.or call_lenD)
def aAbs : List V → Hp → VK → Prop := fun xs H Q => ∃ i, xs = [.int i] ∧ Q (.int (if i < 0 then -i else i)) H
theorem call_absA : CallR X (.builtin "abs") aAbs := call_abs
def aMax2 : List V → Hp → VK → Prop := fun xs H Q => ∃ i j, xs = [.int i, .int j] ∧ Q (.int (if j > i then j else i)) H
theorem call_max2A (hc : X.calm = true) : CallR X (.builtin "max") aMax2 := call_max2 hc
def aMin2 : List V → Hp → VK → Prop := fun xs H Q => ∃ i j, xs = [.int i, .int j] ∧ Q (.int (if j < i then j else i)) H
theorem call_min2A (hc : X.calm = true) : CallR X (.builtin "min") aMin2 := call_min2 hc
def aInt1 : List V → Hp → VK → Prop := fun xs H Q => (∃ i, xs = [.int i] ∧ Q (.int i) H) ∨ ∃ k, xs = [.bl k] ∧ Q (.int (if k then 1 else 0)) H
theorem call_int1A : CallR X (.type "int") aInt1 := call_int1
def aStr1 : List V → Hp → VK → Prop := fun xs H Q => ∃ i, xs = [.int i] ∧ i.natAbs.log2 < 1920 ∧ Q (.str (toString i)) H
theorem call_str1A : CallR X (.type "str") aStr1 := call_str_int
def aList1 (K : PySem.W.Frag) : List V → Hp → VK → Prop := fun xs H Q => ∃ p ys, xs = [.ref p] ∧ (SqL K H p ys ∨ SqT K H p ys) ∧ ∀ l, H l = none → Q (.ref l) (upd H l (.lst ys))
theorem call_list1A : CallR X (.type "list") (aList1 X.K) := call_list_of
def aTuple1 (K : PySem.W.Frag) : List V → Hp → VK → Prop := fun xs H Q => ∃ p ys, xs = [.ref p] ∧ ((SqL K H p ys ∧ ∀ l, H l = none → Q (.ref l) (upd H l (.tup ys))) ∨ (SqT K H p ys ∧ Q (.ref p) H))
theorem call_tuple1A : CallR X (.type "tuple") (aTuple1 X.K) := call_tuple_of
def aTru (K : PySem.W.Frag) (ta : TE) : TT := fun σ H Q => ta σ H fun x H' => ∃ k, TruV K x H' k ∧ Q k H'
theorem pt_tru {a : Expr} {ta : TE} (ha : PE X a ta) (he : ∀ whole, isTrue a X.env whole = (do let v ← whole; standAt a.pos; holding [v] (truthy v))) : PT X a (aTru X.K ta) := pt_truth ha he
def aIsN : R2 := fun x y H Q => y = .non ∧ Q (.bl (decide (x = .non))) H
theorem op_isNA : OpR X (compareOp .Is) aIsN := op_isN
def aNotN : R2 := fun x y H Q => y = .non ∧ Q (.bl (!decide (x = .non))) H
theorem op_notNA : OpR X (compareOp .IsNot) aNotN := op_notN
end
/-! ### one step of a reading -/
section
variable {K : PySem.W.Frag} {σ : L2.St} {H : Hp} {N B C : L2.St → Hp → Prop} {R : VK} {t u : TS} {c d : TT} {ta tb te tc : TE} {tr : TA} {Q : VK} {g : TG} {i j : Nat} {v x y : V} {r r' : R2}
theorem L_seq (h : t ⟨u ⟨N, R, B, C⟩, R, B, C⟩ σ H) : tSeq t u ⟨N, R, B, C⟩ σ H := h
theorem L_next (h : N σ H) : tNext ⟨N, R, B, C⟩ σ H := h
theorem L_brk (h : B σ H) : tBreak ⟨N, R, B, C⟩ σ H := h
theorem L_cont (h : C σ H) : tCont ⟨N, R, B, C⟩ σ H := h
theorem L_ret (h : te σ H R) : tRet te ⟨N, R, B, C⟩ σ H := h
theorem L_retN (h : R .non H) : tRetN ⟨N, R, B, C⟩ σ H := h
theorem L_drop (h : te σ H fun _ H1 => N σ H1) : tDrop te ⟨N, R, B, C⟩ σ H := h
theorem L_asg (h : te σ H fun x H1 => g x σ H1 N) : tAsg te g ⟨N, R, B, C⟩ σ H := h
theorem L_gname {Q : L2.St → Hp → Prop} (h : Q (σ.set i (some v)) H) : gName i v σ H Q := h
theorem L_aug {ti : TIp} (hx : σ[i]? = some (some x)) (h : te σ H fun y H1 => ti x y H1 fun z H2 => N (σ.set i (some z)) H2) : tAug i te ti ⟨N, R, B, C⟩ σ H := ⟨x, hx, h⟩
theorem L_ipI {f : Int → Int → Int} {a b : Int} (h : Q (.int (f a b)) H) : ipI f (.int a) (.int b) H Q := ⟨a, b, rfl, rfl, h⟩
theorem L_ifS (h : c σ H fun b H1 => if b = true then t ⟨N, R, B, C⟩ σ H1 else u ⟨N, R, B, C⟩ σ H1) : tIfS c t u ⟨N, R, B, C⟩ σ H := h
theorem L_par (h : tr σ H fun vs H1 => ∃ v w, vs = [v, w] ∧ N ((σ.set i (some v)).set j (some w)) H1) : tPar i j tr ⟨N, R, B, C⟩ σ H := h
theorem L_par3 {l : Nat} (h : tr σ H fun vs H1 => ∃ u v w, vs = [u, v, w] ∧ N (((σ.set i (some u)).set j (some v)).set l (some w)) H1) : tPar3 i j l tr ⟨N, R, B, C⟩ σ H := h
theorem L_vs2 {Q : V → V → Prop} (h : Q x y) : ∃ v w, [x, y] = [v, w] ∧ Q v w := ⟨x, y, rfl, h⟩
theorem L_vs3 {z : V} {Q : V → V → V → Prop} (h : Q x y z) : ∃ u v w, [x, y, z] = [u, v, w] ∧ Q u v w := ⟨x, y, z, rfl, h⟩
theorem L_var (h : σ[i]? = some (some v)) (q : Q v H) : tVar i σ H Q := ⟨v, h, q⟩
theorem L_c (q : Q v H) : tC v σ H Q := q
theorem L_op (h : ta σ H fun x H1 => tb σ H1 fun y H2 => r x y H2 Q) : tOp r ta tb σ H Q := h
theorem L_un {r : V → Hp → VK → Prop} (h : ta σ H fun x H1 => r x H1 Q) : tUn r ta σ H Q := h
theorem L_rU {g : Int → V} {i : Int} (q : Q (g i) H) : rU g (.int i) H Q := ⟨i, rfl, q⟩
theorem L_I0 {g : Int → Int → V} {i j : Int} (q : Q (g i j) H) : rI0 g (.int i) (.int j) H Q := ⟨i, j, rfl, rfl, q⟩
theorem L_I {C : Int → Int → Prop} {g : Int → Int → V} {i j : Int} (hc : C i j) (q : Q (g i j) H) : rI C g (.int i) (.int j) H Q := ⟨i, j, rfl, rfl, hc, q⟩
theorem L_addI {i j : Int} (q : Q (.int (i + j)) H) : aAdd K (.int i) (.int j) H Q := .inl ⟨i, j, rfl, rfl, q⟩
theorem L_addS {a b : Str} (hl : a.length + b.length ≤ sizeLine) (q : Q (.str (a ++ b)) H) : aAdd K (.str a) (.str b) H Q := .inr (.inl ⟨a, b, rfl, rfl, hl, q⟩)
theorem L_addL {a b : Addr} {xs ys : List V} (ha : H a = some (.lst xs)) (hb : H b = some (.lst ys)) (hl : xs.length + ys.length ≤ sizeLine) (q : ∀ p, H p = none → Q (.ref p) (upd H p (.lst (xs ++ ys)))) : aAdd K (.ref a) (.ref b) H Q := .inr (.inr (.inl ⟨a, b, xs, ys, rfl, rfl, ha, hb, hl, q⟩))
theorem L_mulI {i j : Int} (hc : CMulW i j) (q : Q (.int (i * j)) H) : aMul (.int i) (.int j) H Q := .inl ⟨i, j, rfl, rfl, hc, q⟩
theorem L_eqI {i j : Int} (q : Q (.bl (decide (i = j))) H) : aEq K (.int i) (.int j) H Q := .inl ⟨rfl, by rw [show decide (V.int i = V.int j) = decide (i = j) by simp]; exact q⟩
theorem L_eqS {i j : Str} (q : Q (.bl (decide (i = j))) H) : aEq K (.str i) (.str j) H Q := .inl ⟨rfl, by rw [show decide (V.str i = V.str j) = decide (i = j) by simp]; exact q⟩
theorem L_eqB {i j : Bool} (q : Q (.bl (decide (i = j))) H) : aEq K (.bl i) (.bl j) H Q := .inl ⟨rfl, by rw [show decide (V.bl i = V.bl j) = decide (i = j) by simp]; exact q⟩
theorem L_neI {i j : Int} (q : Q (.bl (!decide (i = j))) H) : aNe K (.int i) (.int j) H Q := .inl ⟨rfl, by rw [show decide (V.int i = V.int j) = decide (i = j) by simp]; exact q⟩
theorem L_neS {i j : Str} (q : Q (.bl (!decide (i = j))) H) : aNe K (.str i) (.str j) H Q := .inl ⟨rfl, by rw [show decide (V.str i = V.str j) = decide (i = j) by simp]; exact q⟩
theorem L_eqD {d e : PyData} (hx : Dp K H x d) (hy : Dp K H y e) (sd : SeqAt.shaped d = true) (se : SeqAt.shaped e = true) (q : Q (.bl (PyData.eqv d e)) H) : aEq K x y H Q := .inr ⟨d, e, hx, hy, sd, se, q⟩
theorem L_neD {d e : PyData} (hx : Dp K H x d) (hy : Dp K H y e) (sd : SeqAt.shaped d = true) (se : SeqAt.shaped e = true) (q : Q (.bl (!PyData.eqv d e)) H) : aNe K x y H Q := .inr ⟨d, e, hx, hy, sd, se, q⟩
theorem L_leI {i j : Int} (q : Q (.bl (decide (i ≤ j))) H) : aLe (.int i) (.int j) H Q := .inl ⟨i, j, rfl, rfl, q⟩
theorem L_leS {i j : Str} (q : Q (.bl (!decide (j.cps.toList < i.cps.toList))) H) : aLe (.str i) (.str j) H Q := .inr ⟨i, j, rfl, rfl, q⟩
theorem L_ltI {i j : Int} (q : Q (.bl (decide (i < j))) H) : aLt (.int i) (.int j) H Q := .inl ⟨i, j, rfl, rfl, q⟩
theorem L_isN (q : Q (.bl (decide (x = .non))) H) : aIsN x .non H Q := ⟨rfl, q⟩
theorem L_notN (q : Q (.bl (!decide (x = .non))) H) : aNotN x .non H Q := ⟨rfl, q⟩
theorem L_inC {a : Nat} {z : Str} (q : Q (.bl (decide (a ∈ z.cps.toList))) H) : aIn K (.str ⟨#[a]⟩) (.str z) H Q := .inl ⟨a, z, rfl, rfl, q⟩
theorem L_notInC {a : Nat} {z : Str} (q : Q (.bl (!decide (a ∈ z.cps.toList))) H) : aNotIn K (.str ⟨#[a]⟩) (.str z) H Q := .inl ⟨a, z, rfl, rfl, q⟩
theorem L_fld {f : Str} (h : ta σ H fun x H1 => ∃ a C dx fs v, x = .ref a ∧ H1 a = some (.ins C dx fs) ∧ Cls K C ∧ NoAttr K C f ∧ fs.lookup f = some v ∧ Q v H1) : tFld K ta f σ H Q := h
theorem L_fldv {a C dx : Addr} {fs : List (Str × V)} {f : Str} {Q : V → Prop} (h : H a = some (.ins C dx fs)) (cl : Cls K C) (n : NoAttr K C f) (l : fs.lookup f = some v) (q : Q v) :
    ∃ a' C dx fs v, V.ref a = V.ref a' ∧ H a' = some (.ins C dx fs) ∧ Cls K C ∧ NoAttr K C f ∧ fs.lookup f = some v ∧ Q v := ⟨a, C, dx, fs, v, rfl, h, cl, n, l, q⟩
theorem L_tTest {Q : Bool → Hp → Prop} (h : te σ H fun x H' => ∃ k, x = .bl k ∧ Q k H') : tTest te σ H Q := h
theorem L_tB {Q : Bool → Hp → Prop} (h : te σ H fun x H' => ∃ k, x = .bl k ∧ Q k H') : tB te σ H Q := h
theorem L_k {b : Bool} {Q : Bool → Prop} (q : Q b) : ∃ k, V.bl b = V.bl k ∧ Q k := ⟨b, rfl, q⟩
theorem L_tru {Q : Bool → Hp → Prop} (h : te σ H fun x H' => ∃ k, TruV K x H' k ∧ Q k H') : aTru K te σ H Q := h
theorem L_truB {b : Bool} {Q : Bool → Prop} (q : Q b) : ∃ k, TruV K (.bl b) H k ∧ Q k := ⟨b, rfl, q⟩
theorem L_truI {i : Int} {Q : Bool → Prop} (q : Q (i != 0)) : ∃ k, TruV K (.int i) H k ∧ Q k := ⟨_, rfl, q⟩
theorem L_and {Q : Bool → Hp → Prop} (h : c σ H fun b H1 => if b = true then d σ H1 Q else Q false H1) : tAnd c d σ H Q := h
theorem L_or {Q : Bool → Hp → Prop} (h : c σ H fun b H1 => if b = true then Q true H1 else d σ H1 Q) : tOr c d σ H Q := h
theorem L_not {Q : Bool → Hp → Prop} (h : c σ H fun b H1 => Q (!b) H1) : tNot c σ H Q := h
theorem L_andV (h : ta σ H fun x H1 => ∃ c, x = .bl c ∧ if c = true then tb σ H1 Q else Q (.bl false) H1) : tAndV ta tb σ H Q := h
theorem L_orV (h : ta σ H fun x H1 => ∃ c, x = .bl c ∧ if c = true then Q (.bl true) H1 else tb σ H1 Q) : tOrV ta tb σ H Q := h
theorem L_notV (h : ta σ H fun x H1 => ∃ c, x = .bl c ∧ Q (.bl (!c)) H1) : tNotV ta σ H Q := h
theorem L_ifE (h : c σ H fun b H1 => if b = true then ta σ H1 Q else tb σ H1 Q) : tIf c ta tb σ H Q := h
theorem L_chain (h : ta σ H fun x H1 => tb σ H1 fun y H2 => r x y H2 fun z H3 => ∃ k, z = .bl k ∧ (if k = true then tc σ H3 fun w' H4 => r' y w' H4 Q else Q (.bl false) H3)) : tChain r r' ta tb tc σ H Q := h
theorem L_T {A B : Prop} (a : A) : if true = true then A else B := by rw [if_pos rfl]; exact a
theorem L_F {A B : Prop} (b : B) : if false = true then A else B := by rw [if_neg Bool.false_ne_true]; exact b
theorem L_dT {p : Prop} [Decidable p] {A B : Prop} (h : p) (a : A) : if decide p = true then A else B := by rw [decide_eq_true h]; exact L_T a
theorem L_dF {p : Prop} [Decidable p] {A B : Prop} (h : ¬ p) (b : B) : if decide p = true then A else B := by rw [decide_eq_false h]; exact L_F b
theorem L_d {p : Prop} [Decidable p] {A B : Prop} (a : p → A) (b : ¬ p → B) : if decide p = true then A else B := by
  by_cases h : p
  · exact L_dT h (a h)
  · exact L_dF h (b h)
theorem L_nd {p : Prop} [Decidable p] {A B : Prop} (a : ¬ p → A) (b : p → B) : if (!decide p) = true then A else B := by
  by_cases h : p
  · rw [decide_eq_true h]; exact L_F (b h)
  · rw [decide_eq_false h]; exact L_T (a h)
theorem L_ndT {p : Prop} [Decidable p] {A B : Prop} (h : ¬ p) (a : A) : if (!decide p) = true then A else B := by rw [decide_eq_false h]; exact L_T a
theorem L_ndF {p : Prop} [Decidable p] {A B : Prop} (h : p) (b : B) : if (!decide p) = true then A else B := by rw [decide_eq_true h]; exact L_F b
theorem L_b {k : Bool} {A B : Prop} (a : k = true → A) (b : k = false → B) : if k = true then A else B := by
  cases k with
  | true => exact L_T (a rfl)
  | false => exact L_F (b rfl)
theorem L_nT {A B : Prop} (b : B) : if (!true) = true then A else B := L_F b
theorem L_nF {A B : Prop} (a : A) : if (!false) = true then A else B := L_T a
theorem L_nil {Q : List V → Hp → Prop} (q : Q [] H) : tNil σ H Q := q
theorem L_cons {Q : List V → Hp → Prop} (h : ta σ H fun x H1 => tr σ H1 fun xs H2 => Q (x :: xs) H2) : tCons ta tr σ H Q := h
theorem L_tup (h : tr σ H fun xs H1 => xs.length ≤ sizeLine ∧ ∀ p, H1 p = none → Q (.ref p) (upd H1 p (.tup xs))) : tTup tr σ H Q := h
theorem L_lst (h : tr σ H fun xs H1 => xs.length ≤ sizeLine ∧ ∀ p, H1 p = none → Q (.ref p) (upd H1 p (.lst xs))) : tLst tr σ H Q := h
theorem L_new {n : Nat} {R : Prop} (hl : n ≤ sizeLine) (q : R) : n ≤ sizeLine ∧ R := ⟨hl, q⟩
theorem L_call {sp : Sp} {E : XK} (h : tr σ H fun vs H1 => sp vs H1 Q E) : tCall sp [] E tr σ H Q := by
  unfold tCall
  simp only [List.append_nil]
  exact h
theorem L_cb {r : List V → Hp → VK → Prop} (h : tr σ H fun vs H1 => r vs H1 Q) : tCB r tr σ H Q := h
theorem L_lenL {a : Addr} {xs : List V} (h : SqL K H a xs) (q : Q (.int xs.length) H) : aLen K [.ref a] H Q := .inl ⟨a, xs, rfl, .inl h, q⟩
theorem L_lenT {a : Addr} {xs : List V} (h : SqT K H a xs) (q : Q (.int xs.length) H) : aLen K [.ref a] H Q := .inl ⟨a, xs, rfl, .inr h, q⟩
theorem L_lenS {z : Str} (h : z.length ≤ sizeLine) (q : Q (.int z.length) H) : aLen K [.str z] H Q := .inr (.inl ⟨z, rfl, h, q⟩)
theorem L_abs {i : Int} (q : Q (.int (if i < 0 then -i else i)) H) : aAbs [.int i] H Q := ⟨i, rfl, q⟩
theorem L_max2 {i j : Int} (q : Q (.int (max i j)) H) : aMax2 [.int i, .int j] H Q := ⟨i, j, rfl, by rw [show (if j > i then j else i) = max i j by omega]; exact q⟩
theorem L_min2 {i j : Int} (q : Q (.int (min i j)) H) : aMin2 [.int i, .int j] H Q := ⟨i, j, rfl, by rw [show (if j < i then j else i) = min i j by omega]; exact q⟩
theorem L_int1 {i : Int} (q : Q (.int i) H) : aInt1 [.int i] H Q := .inl ⟨i, rfl, q⟩
theorem L_int1B {k : Bool} (q : Q (.int (if k then 1 else 0)) H) : aInt1 [.bl k] H Q := .inr ⟨k, rfl, q⟩
theorem L_isi {a n : String} {b : Bool} (hx : TyX K H x (.type a)) (hk : kitB a n = some b) (q : Q (.bl b) H) : rIsi K [x, .ty n] H Q := ⟨x, .ty n, .type a, .type n, b, rfl, .ty n, hx, kit_ty hk, q⟩
theorem L_ixL {p : Addr} {xs : List V} {i : Int} (h : SqL K H p xs) (ha : atI xs i = some v) (q : Q v H) : rIx K (.ref p) (.int i) H Q := .inl ⟨p, xs, i, v, rfl, rfl, h, ha, q⟩
theorem L_ixT {p : Addr} {xs : List V} {i : Int} (h : SqT K H p xs) (ha : atI xs i = some v) (q : Q v H) : rIx K (.ref p) (.int i) H Q := .inr (.inl ⟨p, xs, i, v, rfl, rfl, h, ha, q⟩)
theorem L_ixS {z : Str} {i : Int} {a : Nat} (h : z.length ≤ sizeLine) (ha : atI z.cps.toList i = some a) (q : Q (.str ⟨#[a]⟩) H) : rIx K (.str z) (.int i) H Q := .inr (.inr ⟨z, i, a, rfl, rfl, h, ha, q⟩)
theorem L_bm {T : String} {r : V → List V → Hp → VK → Prop} (h : te σ H fun x H1 => tyV K T x H1 ∧ tr σ H1 fun xs H2 => r x xs H2 Q) : tBM K T r te tr σ H Q := h
theorem L_tyL {a : Addr} {xs : List V} {R : Prop} (h : SqL K H a xs) (q : R) : tyV K "list" (.ref a) H ∧ R := ⟨.inl ⟨rfl, xs, h⟩, q⟩
theorem L_app {a : Addr} {xs : List V} (h : H a = some (.lst xs)) (hl : xs.length < sizeLine) (q : Q .non (upd H a (.lst (xs ++ [v])))) : rAppend (.ref a) [v] H Q := ⟨a, xs, v, rfl, rfl, h, hl, q⟩
theorem L_sum {a : Addr} {ns : List Int} (h : SqL K H a (ns.map V.int)) (q : Q (.int ns.sum) H) : rSum K [.ref a] H Q := ⟨a, ns, rfl, h, q⟩
theorem L_while (W : Nat → L2.St → Hp → Prop) (h0 : ∃ m, W m σ H) (hs : ∀ m σ H, W m σ H → c σ H fun b H1 => if b = true then ∃ M : L2.St → Hp → Prop, (∀ σ' H', M σ' H' → ∃ m', m' < m ∧ W m' σ' H') ∧ t ⟨M, R, N, M⟩ σ H1 else N σ H1) : tWhile c t ⟨N, R, B, C⟩ σ H := ⟨W, h0, hs⟩
theorem L_N {W : Nat → L2.St → Hp → Prop} {m : Nat} (h : t ⟨fun σ' H' => ∃ m', m' < m ∧ W m' σ' H', R, N, fun σ' H' => ∃ m', m' < m ∧ W m' σ' H'⟩ σ H) :
    ∃ M : L2.St → Hp → Prop, (∀ σ' H', M σ' H' → ∃ m', m' < m ∧ W m' σ' H') ∧ t ⟨M, R, N, M⟩ σ H := ⟨_, fun _ _ h => h, h⟩
theorem L_cut {Mid : L2.St → Hp → Prop} (h : t ⟨Mid, R, B, C⟩ σ H) (k : ∀ σ' H', Mid σ' H' → u ⟨N, R, B, C⟩ σ' H') : Evl.tCut t u ⟨N, R, B, C⟩ σ H := ⟨Mid, h, k⟩
theorem L_for {wi : TI} (h : wi σ H fun J H1 => ∃ W : Nat → Nat → L2.St → Hp → Prop, (∃ m, W 0 m σ H1) ∧ ∀ i m σ H, W i m σ H →
      (J.stop i H ∧ N σ H) ∨ (J.go i H ∧ ∃ M : L2.St → Hp → Prop, (∀ σ' H', M σ' H' → ∃ m', m' < m ∧ W (i + 1) m' σ' H') ∧ ∀ x H', J.yld i H x H' → g x σ H' fun σ2 H2 => t ⟨M, R, N, M⟩ σ2 H2)) : tFor wi g t ⟨N, R, B, C⟩ σ H := h
theorem L_iRng1 {R : It → Hp → Prop} (h : tr σ H fun vs H1 => ∃ j : Int, vs = [.int j] ∧ -(2 ^ 62) ≤ j ∧ j < 2 ^ 62 ∧ R (Itr 0 j.toNat) H1) : iRng1 tr σ H R := h
theorem L_iRng2 {R : It → Hp → Prop} (h : tr σ H fun vs H1 => ∃ i j : Int, vs = [.int i, .int j] ∧ (-(2 ^ 62) ≤ i ∧ i < 2 ^ 62 ∧ -(2 ^ 62) ≤ j ∧ j < 2 ^ 62) ∧ R (Itr i (j - i).toNat) H1) : iRng2 tr σ H R := h
theorem L_iList {R : It → Hp → Prop} (h : te σ H fun x H1 => ∃ a, x = .ref a ∧ (∃ xs, SqL K H1 a xs) ∧ R (Itl K a) H1) : iList K te σ H R := h
theorem L_iTup {R : It → Hp → Prop} (h : te σ H fun x H1 => ∃ a, x = .ref a ∧ (∃ xs, SqT K H1 a xs) ∧ R (Itt K a) H1) : iTup K te σ H R := h
theorem L_r1 {n : Int} {R : Int → Prop} (h1 : -(2 ^ 62) ≤ n) (h2 : n < 2 ^ 62) (q : R n) : ∃ j : Int, [V.int n] = [V.int j] ∧ -(2 ^ 62) ≤ j ∧ j < 2 ^ 62 ∧ R j := ⟨n, rfl, h1, h2, q⟩
theorem L_r2 {a n : Int} {R : Int → Int → Prop} (h : -(2 ^ 62) ≤ a ∧ a < 2 ^ 62 ∧ -(2 ^ 62) ≤ n ∧ n < 2 ^ 62) (q : R a n) : ∃ i j : Int, [V.int a, V.int n] = [V.int i, V.int j] ∧ (-(2 ^ 62) ≤ i ∧ i < 2 ^ 62 ∧ -(2 ^ 62) ≤ j ∧ j < 2 ^ 62) ∧ R i j := ⟨a, n, rfl, h, q⟩
theorem L_rl {a : Addr} {xs : List V} {R : Addr → Prop} (h : SqL K H a xs) (q : R a) : ∃ b, V.ref a = V.ref b ∧ (∃ xs, SqL K H b xs) ∧ R b := ⟨a, rfl, ⟨xs, h⟩, q⟩
theorem L_rt {a : Addr} {xs : List V} {R : Addr → Prop} (h : SqT K H a xs) (q : R a) : ∃ b, V.ref a = V.ref b ∧ (∃ xs, SqT K H b xs) ∧ R b := ⟨a, rfl, ⟨xs, h⟩, q⟩
end
theorem sz_dec {n : Nat} (h : n ≤ 1000000) : n ≤ sizeLine := Nat.le_trans h (by decide)
theorem sz_lt {n : Nat} (h : n < 1000000) : n < sizeLine := Nat.lt_of_lt_of_le h (by decide)
/-! ### sizes of ints -/
/-- less than n bits -/
def Bd (n : Nat) (i : Int) : Prop := i.natAbs < 2 ^ n
theorem Bd.mono {n m : Nat} {i : Int} (h : Bd n i) (hm : n ≤ m) : Bd m i := Nat.lt_of_lt_of_le h (Nat.pow_le_pow_right (by decide) hm)
theorem Bd.mul {n m : Nat} {i j : Int} (h : Bd n i) (k : Bd m j) : Bd (n + m) (i * j) := wide_lt h k
theorem Bd.add {n m : Nat} {i j : Int} (h : Bd n i) (k : Bd m j) : Bd (max n m + 1) (i + j) := by
  have a := h.mono (Nat.le_max_left n m)
  have b := k.mono (Nat.le_max_right n m)
  unfold Bd at *
  rw [Nat.pow_succ]
  have := Int.natAbs_add_le i j
  omega
theorem Bd.neg {n : Nat} {i : Int} (h : Bd n i) : Bd n (-i) := by unfold Bd at *; rw [Int.natAbs_neg]; exact h
theorem Bd.sub {n m : Nat} {i j : Int} (h : Bd n i) (k : Bd m j) : Bd (max n m + 1) (i - j) := by
  rw [Int.sub_eq_add_neg]; exact h.add k.neg
theorem Bd.cmul {n m : Nat} {i j : Int} (h : Bd n i) (k : Bd m j) (hz : n + m + 2 ≤ 1000000 := by decide) : CMulW i j :=
  wide_mul (h.mono (Nat.le_succ n)) (k.mono (Nat.le_succ m)) (Nat.succ_pos _) (Nat.succ_pos _) (by omega)
theorem Bd.cdiv {n : Nat} {i j : Int} (k : Bd n j) (h : 0 < j) (hz : n + 1 ≤ 9000 := by decide) : CDivW i j := wide_div h (k.mono (Nat.le_succ n)) (Nat.succ_pos _) hz
theorem bd_lit {i : Int} (h : -4294967296 < i ∧ i < 4294967296) : Bd 32 i := by
  unfold Bd
  have : (2 : Nat) ^ 32 = 4294967296 := by decide
  omega
theorem bd_64 {i : Int} (h : -18446744073709551616 < i ∧ i < 18446744073709551616) : Bd 64 i := by
  unfold Bd
  have : (2 : Nat) ^ 64 = 18446744073709551616 := by decide
  omega
/-- an item of the script, or what stands in its place -/
def cellAt (ns : List Int) (k d : Int) : Int := if k < (ns.length : Int) then ns.getD k.toNat 0 else d
theorem cellAt_in {ns : List Int} {k d : Int} (h0 : 0 ≤ k) (h : k < (ns.length : Int)) : atI (ns.map V.int) k = some (V.int (cellAt ns k d)) := by
  obtain ⟨j, rfl⟩ : ∃ j : Nat, k = (j : Int) := ⟨k.toNat, by omega⟩
  have hl : j < ns.length := by omega
  unfold cellAt
  rw [if_pos h]
  refine atI_nat ?_
  rw [List.getElem?_map, List.getElem?_eq_getElem hl]
  simp [List.getD, List.getElem?_eq_getElem hl]
theorem cellAt_out {ns : List Int} {k d : Int} (h : ¬ k < (ns.length : Int)) : cellAt ns k d = d := if_neg h
theorem cellAt_mem {ns : List Int} {k d : Int} (h0 : 0 ≤ k) : cellAt ns k d ∈ ns ∨ cellAt ns k d = d := by
  unfold cellAt
  split
  · rename_i h
    have hl : k.toNat < ns.length := by omega
    left
    simp [List.getD, List.getElem?_eq_getElem hl]
  · exact .inr rfl
theorem _root_.L2.Same.seqT {K : PySem.W.Frag} {H H' : Hp} {a : Addr} {xs : List V} (e : Same H H') (h : SqT K H a xs) : SqT K H' a xs := by
  rcases h with (h | ⟨o, h⟩) | h
  · exact .inl (.inl (e _ _ h))
  · exact .inl (.inr ⟨o, e _ _ h⟩)
  · exact .inr h
/-! ### what is walked: more -/
section
variable {K : PySem.W.Frag} {σ : L2.St} {H : Hp} {te : TE} {tr : TA} {Q : VK} {g : TG} {tt : TT}
theorem L_yes {Q : Bool → Hp → Prop} (q : Q true H) : tYes σ H Q := q
theorem L_iZip {R : It → Hp → Prop} (h : tr σ H fun vs H1 => ∃ a b xs ys, vs = [.ref a, .ref b] ∧ SqL K H1 a xs ∧ SqL K H1 b ys ∧ R (Itz K a b) H1) : iZip K tr σ H R := h
theorem L_iEnum {R : It → Hp → Prop} (h : tr σ H fun vs H1 => ∃ a xs, vs = [.ref a] ∧ SqL K H1 a xs ∧ R (Ite K a) H1) : iEnum K tr σ H R := h
theorem L_iStr {R : It → Hp → Prop} (h : te σ H fun v H1 => ∃ x, v = .str x ∧ R (Its x) H1) : iStr te σ H R := h
theorem L_iRng3 {R : It → Hp → Prop} (h : tr σ H fun vs H1 => ∃ (i j c : Int) (n : Nat), vs = [.int i, .int j, .int c] ∧ RgC i j c n ∧ R (Itc i c n) H1) : iRng3 tr σ H R := h
theorem L_rz {a b : Addr} {xs ys : List V} {R : Addr → Addr → Prop} (h1 : SqL K H a xs) (h2 : SqL K H b ys) (q : R a b) : ∃ a' b' xs ys, [V.ref a, V.ref b] = [.ref a', .ref b'] ∧ SqL K H a' xs ∧ SqL K H b' ys ∧ R a' b' := ⟨a, b, xs, ys, rfl, h1, h2, q⟩
theorem L_re {a : Addr} {xs : List V} {R : Addr → Prop} (h1 : SqL K H a xs) (q : R a) : ∃ a' xs, [V.ref a] = [.ref a'] ∧ SqL K H a' xs ∧ R a' := ⟨a, xs, rfl, h1, q⟩
theorem L_rs {z : Str} {R : Str → Prop} (q : R z) : ∃ x, V.str z = .str x ∧ R x := ⟨z, rfl, q⟩
theorem L_r3 {i j c : Int} {n : Nat} {R : Int → Int → Nat → Prop} (h : RgC i j c n) (q : R i c n) : ∃ (i' j' c' : Int) (n : Nat), [V.int i, V.int j, V.int c] = [.int i', .int j', .int c'] ∧ RgC i' j' c' n ∧ R i' c' n := ⟨i, j, c, n, rfl, h, q⟩
theorem L_lc {wi : TI} {vs : List Nat} (h : wi σ H fun J H1 => ∀ D, H1 D = none → ∃ W : Nat → Nat → Hp → Prop, (∃ m, W 0 m (upd H1 D (.lst []))) ∧ ∀ i m H, W i m H →
  (J.stop i H ∧ Q (.ref D) H) ∨ (J.go i H ∧ ∃ Nx : Hp → Prop, (∀ H', Nx H' → ∃ m', m' < m ∧ W (i + 1) m' H') ∧ ∀ x H', J.yld i H x H' → g x (wipe σ vs) H' fun σ2 H2 => wipe σ2 vs = wipe σ vs ∧ tt σ2 H2 fun b H3 =>
    if b = true then te σ2 H3 fun y H4 => ∃ acc, H4 D = some (.lst acc) ∧ acc.length < sizeLine ∧ Nx (upd H4 D (.lst (acc ++ [y]))) else Nx H3)) : tLc wi g tt te vs σ H Q := h
theorem fm_succ (f : Nat → Option V) (i : Nat) : (List.range (i + 1)).filterMap f = (List.range i).filterMap f ++ (match f i with | some y => [y] | none => []) := by
  rw [List.range_succ, List.filterMap_append]
  cases h : f i <;> simp [h]
theorem fm_len (f : Nat → Option V) (i : Nat) : ((List.range i).filterMap f).length ≤ i := by
  have := List.length_filterMap_le f (List.range i)
  simpa using this
/-- a comprehension whose things are told one by one: f i is what turn i gives, none where its test is false -/
theorem lc_fm {J : It} {n : Nat} {G : Hp → Prop} {Y : Nat → Hp → V → Hp → Prop} (w : L2.Walk J n G Y) {vs : List Nat} {Qd : Addr → Hp → Prop} (f : Nat → Option V) (hn : n ≤ 1000000) (hG : ∀ H', Same H H' → G H')
    (hs : ∀ i x H2 H' (R : V → Hp → Prop) (R' : Hp → Prop), i < n → Same H H2 → Y i H2 x H' → (∀ y H4, f i = some y → Same H2 H4 → R y H4) → (∀ H3, f i = none → Same H2 H3 → R' H3) →
      g x (wipe σ vs) H' fun σ2 H2 => wipe σ2 vs = wipe σ vs ∧ tt σ2 H2 fun b H3 => if b = true then te σ2 H3 R else R' H3)
    (q : ∀ p H', H p = none → Same H H' → H' p = some (.lst ((List.range n).filterMap f)) → Qd p H') :
    ∀ D, H D = none → ∃ W : Nat → Nat → Hp → Prop, (∃ m, W 0 m (upd H D (.lst []))) ∧ ∀ i m H, W i m H →
      (J.stop i H ∧ Qd D H) ∨ (J.go i H ∧ ∃ Nx : Hp → Prop, (∀ H', Nx H' → ∃ m', m' < m ∧ W (i + 1) m' H') ∧ ∀ x H', J.yld i H x H' → g x (wipe σ vs) H' fun σ2 H2 => wipe σ2 vs = wipe σ vs ∧ tt σ2 H2 fun b H3 =>
        if b = true then te σ2 H3 fun y H4 => ∃ acc, H4 D = some (.lst acc) ∧ acc.length < sizeLine ∧ Nx (upd H4 D (.lst (acc ++ [y]))) else Nx H3) := by
  intro D hD
  refine lc_it w (fun i H2 => Same H H2 ∧ H2 D = some (.lst ((List.range i).filterMap f))) ⟨same_new hD, upd_same⟩ (fun i H2 _ p => hG H2 p.1) ?_ (fun H2 p => q D H2 hD p.1 p.2)
  intro i x H2 H' hi ⟨p1, p2⟩ y
  refine hs i x H2 H' _ _ hi p1 y (fun y H4 e s => ?_) (fun H3 e s => ?_)
  · refine ⟨_, s _ _ p2, sz_lt (by have := fm_len f i; omega), ?_, ?_⟩
    · intro b o hb
      rw [upd_ne (ne_of_none hb hD)]
      exact s _ _ (p1 _ _ hb)
    · rw [fm_succ, e]; exact upd_same
  · refine ⟨p1.trans s, ?_⟩
    rw [fm_succ, e, List.append_nil]
    exact s _ _ p2
theorem fm_map {α : Type} (f : Nat → α) (h : α → V) (n : Nat) : (List.range n).filterMap (fun i => some (h (f i))) = ((List.range n).map f).map h := by
  rw [List.map_map]
  induction n with
  | zero => rfl
  | succ n ih => rw [fm_succ (fun i => some (h (f i))), ih, List.range_succ, List.map_append]; rfl
theorem rgC_up {i j c : Int} (hc : 0 < c) (hc2 : c < 1000000) (hi : -1000000000 ≤ i ∧ i ≤ 1000000000) (hj : -1000000000 ≤ j ∧ j ≤ 1000000000) : RgC i j c (if i < j then ((j - i - 1) / c + 1).toNat else 0) := by
  have e : Builtin.Range.rangeSize i j c = ((if i < j then ((j - i - 1) / c + 1).toNat else 0 : Nat) : Int) := by
    unfold Builtin.Range.rangeSize
    rw [if_pos (by omega)]
    split
    · have : 0 ≤ (j - i - 1) / c := Int.ediv_nonneg (by omega) (by omega)
      omega
    · rfl
  refine ⟨by omega, by omega, ?_, e⟩
  unfold Builtin.Range.small
  rw [e]
  have hz : ((if i < j then ((j - i - 1) / c + 1).toNat else 0 : Nat) : Int) * c ≤ 4000000000 ∧ ((if i < j then ((j - i - 1) / c + 1).toNat else 0 : Nat) : Int) ≤ 4000000000 ∧ 0 ≤ ((if i < j then ((j - i - 1) / c + 1).toNat else 0 : Nat) : Int) := by
    split
    · have h0 : 0 ≤ (j - i - 1) / c := Int.ediv_nonneg (by omega) (by omega)
      have h1 : (j - i - 1) / c * c ≤ j - i - 1 := Int.ediv_mul_le _ (by omega)
      have h2 : (j - i - 1) / c ≤ j - i - 1 := Int.ediv_le_self _ (by omega)
      have h3 : (((j - i - 1) / c + 1).toNat : Int) = (j - i - 1) / c + 1 := by omega
      rw [h3, Int.add_mul]
      omega
    · simp
  generalize ((if i < j then ((j - i - 1) / c + 1).toNat else 0 : Nat) : Int) = n at *
  simp only [Builtin.Range.rangeFitsLong, Bool.and_eq_true, Bool.or_eq_true, decide_eq_true_eq, beq_iff_eq]
  refine ⟨by omega, .inr ?_⟩
  rw [if_pos (by omega), Bool.and_eq_true, decide_eq_true_eq, decide_eq_true_eq]
  omega
/-- what making an instance asks -/
def MakeP (C : Addr) (sp : Sp) (E : XK) (vs : List V) (H : Hp) (Q : VK) : Prop := ∀ x dx, H x = none → H dx = none → dx ≠ x → sp (.ref x :: vs) (upd (upd H dx (.own x)) x (.ins C dx [])) (fun v H2 => v = .non ∧ Q (.ref x) H2) E
theorem L_make {C : Addr} {sp : Sp} {E : XK} (h : tr σ H fun vs H1 => MakeP C sp E vs H1 Q) : tMake C sp [] E tr σ H Q := by
  unfold tMake
  simp only [List.append_nil]
  exact h
/-- a new instance: all that stood stands -/
def NewI (H : Hp) (C : Addr) (fs : List (Str × V)) (Q : VK) : Prop := ∀ p H' dx, H p = none → Same H H' → H' p = some (.ins C dx fs) → Q (.ref p) H'
theorem L_gTup {n : Nat} {t : TGs} {a : Addr} {xs : List V} {Q : L2.St → Hp → Prop} (h : SqT K H a xs) (hn : xs.length = n) (q : t xs σ H Q) : gTup K n t (.ref a) σ H Q := ⟨a, xs, rfl, h, hn, q⟩
theorem L_gLst {n : Nat} {t : TGs} {a : Addr} {xs : List V} {Q : L2.St → Hp → Prop} (h : SqL K H a xs) (hn : xs.length = n) (q : t xs σ H Q) : gLst K n t (.ref a) σ H Q := ⟨a, xs, rfl, h, hn, q⟩
theorem L_gCons {v : V} {r : List V} {t : TG} {u : TGs} {Q : L2.St → Hp → Prop} (q : t v σ H fun σ' H' => u r σ' H' Q) : gCons t u (v :: r) σ H Q := ⟨v, r, rfl, q⟩
theorem L_gNil {Q : L2.St → Hp → Prop} (q : Q σ H) : gNil [] σ H Q := ⟨rfl, q⟩
theorem L_sub {to ti : TE} {t : TSet} {v : V} {Q : L2.St → Hp → Prop} (h : to σ H fun o H1 => ti σ H1 fun i H2 => t o i v H2 fun H3 => Q σ H3) : gSub to ti t v σ H Q := h
theorem L_setL {p : Addr} {xs : List V} {k : Int} {j : Nat} {v : V} {Q : Hp → Prop} (h : H p = some (.lst xs)) (hj : ixN xs.length k = some j) (q : Q (upd H p (.lst (xs.set j v)))) : rSetL (.ref p) (.int k) v H Q := ⟨p, xs, k, j, rfl, rfl, h, hj, q⟩
theorem ixN_of {n : Nat} {k : Int} (h0 : 0 ≤ k) (h : k < n) : ixN n k = some k.toNat := by
  unfold ixN
  rw [if_pos h0, if_pos h]
theorem L_sFld {f : Str} {ta tv : TE} {N B C' : L2.St → Hp → Prop} {R : VK} (h : tv σ H fun y H1 => ta σ H1 fun x H2 => ∃ a C dx fs, x = .ref a ∧ H2 a = some (.ins C dx fs) ∧ Cls K C ∧ NoAttr K C f ∧ fs.length < 1000 ∧ N σ (upd H2 a (.ins C dx (putF f y fs)))) : sFld K ta tv f ⟨N, R, B, C'⟩ σ H := h
theorem L_sFldv {a C dx : Addr} {fs : List (Str × V)} {f : Str} {Q : Addr → Addr → Addr → List (Str × V) → Prop} (h : H a = some (.ins C dx fs)) (cl : Cls K C) (n : NoAttr K C f) (l : fs.length < 1000) (q : Q a C dx fs) :
    ∃ a' C dx fs, V.ref a = V.ref a' ∧ H a' = some (.ins C dx fs) ∧ Cls K C ∧ NoAttr K C f ∧ fs.length < 1000 ∧ Q a' C dx fs := ⟨a, C, dx, fs, rfl, h, cl, n, l, q⟩
theorem L_repL {a : Addr} {xs : List V} {k : Int} (h : H a = some (.lst xs)) (h1 : -(2 ^ 63) ≤ k) (h2 : k < 2 ^ 63) (h3 : xs.length * k.toNat ≤ sizeLine) (q : ∀ p, H p = none → Q (.ref p) (upd H p (.lst (List.replicate k.toNat xs).flatten))) : aMul (.ref a) (.int k) H Q := .inr ⟨a, k, xs, rfl, rfl, h, h1, h2, h3, q⟩
theorem atI_int {xs : List V} {k : Int} {v : V} (h0 : 0 ≤ k) (h : xs[k.toNat]? = some v) : atI xs k = some v := by
  obtain ⟨j, rfl⟩ : ∃ j : Nat, k = (j : Int) := ⟨k.toNat, by omega⟩
  exact atI_nat h
theorem atI_ints {xs : List Int} {k : Int} (h0 : 0 ≤ k) (h : k < xs.length) : atI (xs.map V.int) k = some (.int (xs.getD k.toNat 0)) := by
  refine atI_int h0 ?_
  have hl : k.toNat < xs.length := by omega
  rw [List.getElem?_map, List.getElem?_eq_getElem hl]
  simp [List.getD, List.getElem?_eq_getElem hl]
theorem L_nw {xs : List V} {R : Prop} (q : R) (hl : xs.length ≤ 1000000 := by simp) : xs.length ≤ sizeLine ∧ R := ⟨sz_dec hl, q⟩
end
theorem fm_succ' {α : Type} (f : Nat → Option α) (i : Nat) : (List.range (i + 1)).filterMap f = (List.range i).filterMap f ++ (match f i with | some y => [y] | none => []) := by
  rw [List.range_succ, List.filterMap_append]
  cases h : f i <;> simp [h]
theorem fm_len' {α : Type} (f : Nat → Option α) (i : Nat) : ((List.range i).filterMap f).length ≤ i := by
  have := List.length_filterMap_le f (List.range i)
  simpa using this
/-! ### data as trees -/
mutual
theorem Dp_same {K : PySem.W.Frag} {H H' : Hp} (e : Same H H') : ∀ (d : PyData) {v : V}, Dp K H v d → Dp K H' v d
  | .none, _, h => by cases h; exact .non
  | .bool b, _, h => by cases h; exact .bl b
  | .int i, _, h => by cases h; exact .int i
  | .str x, _, h => by cases h; exact .str x
  | .list ds, _, h => by cases h with | lst hs ha => exact .lst (e.seq hs) (DpAll_same e ds ha)
  | .tuple ds, _, h => by cases h with | tup hs ha => exact .tup (e.seqT hs) (DpAll_same e ds ha)
  | .dict _, _, h => by cases h
theorem DpAll_same {K : PySem.W.Frag} {H H' : Hp} (e : Same H H') : ∀ (ds : List PyData) {vs : List V}, DpAll K H vs ds → DpAll K H' vs ds
  | [], _, h => by cases h; exact .nil
  | d :: ds, _, h => by cases h with | cons h1 h2 => exact .cons (Dp_same e d h1) (DpAll_same e ds h2)
end
section
variable {K : PySem.W.Frag} {H H' : Hp} {v : V} {vs : List V} {d : PyData} {ds : List PyData}
theorem _root_.L2.Dp.same (h : Dp K H v d) (e : Same H H') : Dp K H' v d := Dp_same e d h
theorem _root_.L2.DpAll.same (h : DpAll K H vs ds) (e : Same H H') : DpAll K H' vs ds := DpAll_same e ds h
theorem _root_.L2.DpAll.len : ∀ {ds : List PyData} {vs : List V}, DpAll K H vs ds → vs.length = ds.length
  | [], _, h => by cases h; rfl
  | d :: ds, _, h => by cases h with | cons h1 h2 => rw [List.length_cons, List.length_cons, h2.len]
theorem _root_.L2.DpAll.at : ∀ {ds : List PyData} {vs : List V} {i : Nat}, DpAll K H vs ds → ds[i]? = some d → ∃ v, vs[i]? = some v ∧ Dp K H v d
  | [], _, i, h, e => by simp at e
  | c :: ds, _, 0, h, e => by
    cases h with
    | cons h1 h2 =>
      rename_i v vs
      have : c = d := by simpa using e
      subst this
      exact ⟨v, by simp, h1⟩
  | c :: ds, _, i + 1, h, e => by
    cases h with
    | cons h1 h2 =>
      obtain ⟨v, q1, q2⟩ := h2.at (i := i) (by simpa using e)
      exact ⟨v, by simpa using q1, q2⟩
theorem _root_.L2.DpAll.of : ∀ {ds : List PyData} {vs : List V} {i : Nat}, DpAll K H vs ds → vs[i]? = some v → ∃ d, ds[i]? = some d ∧ Dp K H v d
  | [], _, i, h, e => by cases h; simp at e
  | c :: ds, _, 0, h, e => by
    cases h with
    | cons h1 h2 =>
      rename_i w vs
      have : w = v := by simpa using e
      subst this
      exact ⟨c, by simp, h1⟩
  | c :: ds, _, i + 1, h, e => by
    cases h with
    | cons h1 h2 =>
      obtain ⟨d, q1, q2⟩ := h2.of (i := i) (by simpa using e)
      exact ⟨d, by simpa using q1, q2⟩
theorem _root_.L2.DpAll.app : ∀ {ds es : List PyData} {vs us : List V}, DpAll K H vs ds → DpAll K H us es → DpAll K H (vs ++ us) (ds ++ es)
  | [], _, _, _, h, g => by cases h; exact g
  | d :: ds, _, _, _, h, g => by cases h with | cons h1 h2 => exact .cons h1 (h2.app g)
theorem _root_.L2.DpAll.snoc (h : DpAll K H vs ds) (g : Dp K H v d) : DpAll K H (vs ++ [v]) (ds ++ [d]) := h.app (.cons g .nil)
theorem dp_ints : ∀ (ns : List Int), DpAll K H (ns.map V.int) (ns.map PyData.int)
  | [] => .nil
  | n :: ns => .cons (.int n) (dp_ints ns)
theorem dp_strs : ∀ (ns : List Str), DpAll K H (ns.map V.str) (ns.map PyData.str)
  | [] => .nil
  | n :: ns => .cons (.str n) (dp_strs ns)
theorem of_ints : ∀ {ns : List Int} {vs : List V}, DpAll K H vs (ns.map PyData.int) → vs = ns.map V.int
  | [], _, h => by cases h; rfl
  | n :: ns, _, h => by
    cases h with
    | cons h1 h2 => cases h1; rw [of_ints h2]; rfl
theorem of_strs : ∀ {ns : List Str} {vs : List V}, DpAll K H vs (ns.map PyData.str) → vs = ns.map V.str
  | [], _, h => by cases h; rfl
  | n :: ns, _, h => by
    cases h with
    | cons h1 h2 => cases h1; rw [of_strs h2]; rfl
theorem of_tup (h : Dp K H v (.tuple ds)) : ∃ a xs, v = .ref a ∧ SqT K H a xs ∧ DpAll K H xs ds := by
  cases h with | tup h1 h2 => exact ⟨_, _, rfl, h1, h2⟩
theorem of_lst (h : Dp K H v (.list ds)) : ∃ a xs, v = .ref a ∧ SqL K H a xs ∧ DpAll K H xs ds := by
  cases h with | lst h1 h2 => exact ⟨_, _, rfl, h1, h2⟩
theorem of_int {i : Int} (h : Dp K H v (.int i)) : v = .int i := by cases h; rfl
theorem of_str {i : Str} (h : Dp K H v (.str i)) : v = .str i := by cases h; rfl
theorem of_bl {i : Bool} (h : Dp K H v (.bool i)) : v = .bl i := by cases h; rfl
theorem of_non (h : Dp K H v .none) : v = .non := by cases h; rfl
theorem of_t2 {d e : PyData} (h : Dp K H v (.tuple [d, e])) : ∃ a x y, v = .ref a ∧ SqT K H a [x, y] ∧ Dp K H x d ∧ Dp K H y e := by
  obtain ⟨a, xs, rfl, h1, h2⟩ := of_tup h
  cases h2 with
  | cons p1 p2 => cases p2 with | cons p3 p4 => cases p4; exact ⟨a, _, _, rfl, h1, p1, p3⟩
theorem of_t3 {d e f : PyData} (h : Dp K H v (.tuple [d, e, f])) : ∃ a x y z, v = .ref a ∧ SqT K H a [x, y, z] ∧ Dp K H x d ∧ Dp K H y e ∧ Dp K H z f := by
  obtain ⟨a, xs, rfl, h1, h2⟩ := of_tup h
  cases h2 with
  | cons p1 p2 => cases p2 with | cons p3 p4 => cases p4 with | cons p5 p6 => cases p6; exact ⟨a, _, _, _, rfl, h1, p1, p3, p5⟩
theorem of_t4 {d e f g : PyData} (h : Dp K H v (.tuple [d, e, f, g])) : ∃ a x y z w, v = .ref a ∧ SqT K H a [x, y, z, w] ∧ Dp K H x d ∧ Dp K H y e ∧ Dp K H z f ∧ Dp K H w g := by
  obtain ⟨a, xs, rfl, h1, h2⟩ := of_tup h
  cases h2 with
  | cons p1 p2 => cases p2 with | cons p3 p4 => cases p4 with | cons p5 p6 => cases p6 with | cons p7 p8 => cases p8; exact ⟨a, _, _, _, _, rfl, h1, p1, p3, p5, p7⟩
end
/-- the part of a heap at which P holds -/
noncomputable def rs (P : Addr → Prop) (H : Hp) : Hp := fun a => @ite _ (P a) (Classical.propDecidable _) (H a) none
theorem rs_at {P : Addr → Prop} {H : Hp} {a : Addr} {o : HO} (p : P a) (h : H a = some o) : rs P H a = some o := by unfold rs; rw [if_pos p]; exact h
theorem rs_of {P : Addr → Prop} {H : Hp} {a : Addr} {o : HO} (h : rs P H a = some o) : P a ∧ H a = some o := by
  unfold rs at h
  split at h
  · rename_i p; exact ⟨p, h⟩
  · cases h
theorem rs_same {P P' : Addr → Prop} {H H' : Hp} (h : ∀ a o, P a → H a = some o → P' a ∧ H' a = some o) : Same (rs P H) (rs P' H') := fun a o e => by
  obtain ⟨p, q⟩ := rs_of e
  obtain ⟨p', q'⟩ := h a o p q
  exact rs_at p' q'
theorem rs_sub {P : Addr → Prop} {H : Hp} : Same (rs P H) H := fun a o e => (rs_of e).2
theorem rs_in {P : Addr → Prop} {H H' : Hp} (h : ∀ a o, P a → H a = some o → H' a = some o) : Same (rs P H) H' := fun a o e => h a o (rs_of e).1 (rs_of e).2
theorem rs_all {P : Addr → Prop} {H H' : Hp} (h : ∀ a o, H a = some o → P a ∧ H' a = some o) : Same H (rs P H') := fun a o e => rs_at (h a o e).1 (h a o e).2
/-- a list that changes: what stood ahead of it stands -/
theorem same_mut {H H' : Hp} {a : Addr} {o : HO} (e : Same H H') (h : H a = none) : Same H (upd H' a o) := fun b o' q => by
  rw [upd_ne (fun z => by rw [z, h] at q; cases q)]; exact e b o' q
section
variable {K : PySem.W.Frag} {σ : L2.St} {H : Hp} {g : TG} {tt : TT} {te : TE} {tb : TS} {D : Ends} {x y : V} {Q : VK}
theorem L_rlD {v : V} {ds : List PyData} {R : Addr → Prop} (h : Dp K H v (.list ds)) (q : ∀ a, v = .ref a → R a) : ∃ b, v = V.ref b ∧ (∃ xs, SqL K H b xs) ∧ R b := by
  obtain ⟨a, xs, rfl, h1, h2⟩ := of_lst h
  exact ⟨a, rfl, ⟨xs, h1⟩, q a rfl⟩
/-- for x in a list of data -/
theorem for_dp {a : Addr} {ds : List PyData} (h : Dp K H (.ref a) (.list ds)) (Pv : Nat → L2.St → Hp → Prop) (h0 : Pv 0 σ H) (hG : ∀ i σ' H', i ≤ ds.length → Pv i σ' H' → Same H H')
    (hs : ∀ i d x σ' H', i < ds.length → ds[i]? = some d → Pv i σ' H' → Dp K H' x d → g x σ' H' fun σ2 H2 => tb { D with nx := Pv (i + 1), ct := Pv (i + 1), bk := D.nx } σ2 H2) (hd : ∀ σ' H', Pv ds.length σ' H' → D.nx σ' H') :
    ∃ W : Nat → Nat → L2.St → Hp → Prop, (∃ m, W 0 m σ H) ∧ ∀ i m σ H, W i m σ H →
      ((Itl K a).stop i H ∧ D.nx σ H) ∨ ((Itl K a).go i H ∧ ∃ N : L2.St → Hp → Prop, (∀ σ' H', N σ' H' → ∃ m', m' < m ∧ W (i + 1) m' σ' H') ∧ ∀ x H', (Itl K a).yld i H x H' → g x σ H' fun σ2 H2 => tb { D with nx := N, ct := N, bk := D.nx } σ2 H2) := by
  obtain ⟨a', xs, ea, h1, h2⟩ := of_lst h
  cases ea
  have hl := h2.len
  refine for_it walk_list Pv h0 (fun i σ' H' hi p => (hG i σ' H' (by omega) p).seq h1) (fun i x σ' H' H'' hi p ⟨e1, e2⟩ => ?_) (fun σ' H' p => hd σ' H' (by rw [← hl]; exact p))
  subst e1
  obtain ⟨d, e3, e4⟩ := h2.of e2
  exact hs i d x σ' _ (by omega) e3 p (e4.same (hG i σ' _ (by omega) p))
/-- a comprehension: what turn i gives is told as data, or none; the new list's things stand apart from it -/
theorem lc_dp {J : It} {n : Nat} {G : Hp → Prop} {Y : Nat → Hp → V → Hp → Prop} (w : L2.Walk J n G Y) {vs : List Nat} {Qd : Addr → Hp → Prop} (f : Nat → Option PyData) (hn : n ≤ 1000000) (hG : ∀ H', Same H H' → G H')
    (hs : ∀ i x p H2 H' (R : V → Hp → Prop) (R' : Hp → Prop), i < n → H p = none → Same H H2 → (∃ o, H2 p = some o) → Y i H2 x H' → (∀ y d H4, f i = some d → Same H2 H4 → Dp K (rs (· ≠ p) H4) y d → R y H4) → (∀ H3, f i = none → Same H2 H3 → R' H3) →
      g x (wipe σ vs) H' fun σ2 H2 => wipe σ2 vs = wipe σ vs ∧ tt σ2 H2 fun b H3 => if b = true then te σ2 H3 R else R' H3)
    (q : ∀ p H' vs, H p = none → Same H H' → H' p = some (.lst vs) → DpAll K (rs (· ≠ p) H') vs ((List.range n).filterMap f) → Qd p H') :
    ∀ D, H D = none → ∃ W : Nat → Nat → Hp → Prop, (∃ m, W 0 m (upd H D (.lst []))) ∧ ∀ i m H, W i m H →
      (J.stop i H ∧ Qd D H) ∨ (J.go i H ∧ ∃ Nx : Hp → Prop, (∀ H', Nx H' → ∃ m', m' < m ∧ W (i + 1) m' H') ∧ ∀ x H', J.yld i H x H' → g x (wipe σ vs) H' fun σ2 H2 => wipe σ2 vs = wipe σ vs ∧ tt σ2 H2 fun b H3 =>
        if b = true then te σ2 H3 fun y H4 => ∃ acc, H4 D = some (.lst acc) ∧ acc.length < sizeLine ∧ Nx (upd H4 D (.lst (acc ++ [y]))) else Nx H3) := by
  intro D hD
  refine lc_it w (fun i H2 => Same H H2 ∧ ∃ us, H2 D = some (.lst us) ∧ DpAll K (rs (· ≠ D) H2) us ((List.range i).filterMap f)) ⟨same_new hD, [], upd_same, .nil⟩ (fun i H2 _ p => hG H2 p.1) ?_ (fun H2 ⟨p1, us, p2, p3⟩ => q D H2 us hD p1 p2 p3)
  rintro i x H2 H' hi ⟨p1, us, p2, p3⟩ y
  refine hs i x D H2 H' _ _ hi hD p1 ⟨_, p2⟩ y (fun y d H4 e s dy => ?_) (fun H3 e s => ?_)
  · have e4 : Same (rs (· ≠ D) H2) (rs (· ≠ D) H4) := rs_same fun a o h1 h2 => ⟨h1, s _ _ h2⟩
    have e5 : Same (rs (· ≠ D) H4) (rs (· ≠ D) (upd H4 D (.lst (us ++ [y])))) := rs_same fun a o h1 h2 => ⟨h1, by rw [upd_ne h1]; exact h2⟩
    refine ⟨us, s _ _ p2, sz_lt (by have := p3.len; have := fm_len' f i; omega), same_mut (p1.trans s) hD, _, upd_same, ?_⟩
    rw [fm_succ', e]
    exact ((p3.same e4).same e5).snoc (dy.same e5)
  · refine ⟨p1.trans s, us, s _ _ p2, ?_⟩
    rw [fm_succ', e, List.append_nil]
    exact p3.same (rs_same fun a o h1 h2 => ⟨h1, s _ _ h2⟩)
end
/-! ### defs that may raise -/
structure MetX (P : Program) (w : World) (K : PySem.W.Frag) (mg : Str → Option Value) (base : Heap) (k : Nat) (C : Addr) (m : Str) (sp : Sp) : Prop where
  ex : ∃ (f : Addr) (fd : FuncData) (ps : List Str), Cls K C ∧ Meth K C m f ∧ FnOk P w K mg base (L2.CX P w) k f fd ps sp ∧ Binds K fd ps []
structure MakX (P : Program) (w : World) (K : PySem.W.Frag) (mg : Str → Option Value) (base : Heap) (k : Nat) (x : Str) (C : Addr) (sp : Sp) : Prop where
  ex : ∃ (f : Addr) (fd : FuncData) (ps : List Str), Mk K C f ∧ FnOk P w K mg base (L2.CX P w) k f fd ps sp ∧ mg x = some (.ref C) ∧ Binds K fd ps []
section
variable {P : Program} {w : World} {K : PySem.W.Frag} {mg : Str → Option Value} {base : Heap}
theorem MethAt.metX {C : Addr} {m qual : Str} {st : Stmt} {N ps : List Str} {k : Nat} {sp : Sp} (c : Cls K C) (d : MethAt K C m qual st ps) (S : FnScope N ps (defScope st)) (len : ∀ vs H Q E, sp vs H Q E → vs.length = ps.length)
    (hbody : ∀ (f : Addr) (cdv : Value) (A : Around) (outer : List Env) (s : Shared) (H : Hp) (vs : List V) (Q : VK) (E : XK), Room k (A.deeper (envOfC qual (defScope st) s.heap.objs.size f cdv)) → sp vs H Q E →
      ∃ t, PSs (cxOf (L2.CX P w) P w K mg base N qual (defScope st) f cdv A outer s H E) (defBody st) t ∧ t { nx := fun _ H' => Q .non H', rt := Q } (start N vs) H) : MetX P w K mg base (k + 1) C m sp := by
  obtain ⟨f, fd, F, hm, b⟩ := d.ex
  exact ⟨f, fd, ps, c, hm, F.okX S len (hbody f), b⟩
theorem InitAt.makX {x : Str} {C : Addr} {qual : Str} {st : Stmt} {N ps : List Str} {k : Nat} {sp : Sp} (hx : mg x = some (.ref C)) (d : InitAt K C qual st ps) (S : FnScope N ps (defScope st)) (len : ∀ vs H Q E, sp vs H Q E → vs.length = ps.length)
    (hbody : ∀ (f : Addr) (cdv : Value) (A : Around) (outer : List Env) (s : Shared) (H : Hp) (vs : List V) (Q : VK) (E : XK), Room k (A.deeper (envOfC qual (defScope st) s.heap.objs.size f cdv)) → sp vs H Q E →
      ∃ t, PSs (cxOf (L2.CX P w) P w K mg base N qual (defScope st) f cdv A outer s H E) (defBody st) t ∧ t { nx := fun _ H' => Q .non H', rt := Q } (start N vs) H) : MakX P w K mg base (k + 1) x C sp := by
  obtain ⟨f, fd, F, hm, b⟩ := d.ex
  exact ⟨f, fd, ps, hm, F.okX S len (hbody f), hx, b⟩
end
/-- where no exception is wanted -/
theorem passN {X : Cx} (σ : L2.St) : PassesAt (L2.CX X.prog X.w) X σ ((fun _ => E0) σ) := fun pins H s e s' I c => passL pins σ H s e s' I c
/-- x.m(..), C(..), where what is raised is wished for at the caller's slots -/
def tMethE (C : Addr) (m : Str) (sp : Sp) (E : L2.St → XK) (ta : TE) (t : TA) : TE := fun σ H Q => ta σ H fun x H1 => ∃ a dx fs, x = .ref a ∧ H1 a = some (.ins C dx fs) ∧ fs.lookup m = none ∧ t σ H1 fun vs H2 => sp (x :: vs) H2 Q (E σ)
def tMakeE (C : Addr) (sp : Sp) (E : L2.St → XK) (t : TA) : TE := fun σ H Q => t σ H fun vs H1 => ∀ x dx, H1 x = none → H1 dx = none → dx ≠ x →
  sp (.ref x :: vs) (upd (upd H1 dx (.own x)) x (.ins C dx [])) (fun v H2 => v = .non ∧ Q (.ref x) H2) (E σ)
section
variable {X : Cx} {CX : CXT} {k j : Nat} {f C : Addr} {fd : FuncData} {ps : List Str} {x m : Str} {sp : Sp} {p pos apos : Pos} {e o : Expr} {es : List Expr} {ta : TE} {t : TA} {E : L2.St → XK}
theorem run_makeS {pins : List (Addr × Obj)} {σ : L2.St} {H : Hp} {s : Shared} {Q : VK} {us : List Value} {vs : List V} (M : Mk X.K C f) (F : FnOk X.prog X.w X.K X.mg X.base CX k f fd ps sp) (hr : Room (k + 1) X.A) (hb : Binds X.K fd ps [])
    (hx : PassesAt CX X σ (E σ)) (I : Inv X pins σ H s) (r : Vals vs us)
    (h : ∀ x dx, H x = none → H dx = none → dx ≠ x → sp (.ref x :: vs) (upd (upd H dx (.own x)) x (.ins C dx [])) (fun v H2 => v = .non ∧ Q (.ref x) H2) (E σ)) :
    wpAny (model X.prog X.w) X.A (call (.ref C) us) (EP X pins σ Q) X.xe s := by
  have hq := h (s.heap.objs.size + 1) s.heap.objs.size (I.hok.fresh (Nat.le_succ _)) (I.hok.fresh (Nat.le_refl _)) (Nat.ne_of_lt (Nat.lt_succ_self _))
  have I2 := Inv.made (C := C) I
  have r2 : Vals (V.ref (s.heap.objs.size + 1) :: vs) (Value.ref (s.heap.objs.size + 1) :: us) := .cons rfl r
  have hl : (Value.ref (s.heap.objs.size + 1) :: us).length = ps.length := by
    have e := r2.length
    rw [F.len _ _ _ _ hq] at e
    exact e.symm
  have hl2 : ((Value.ref (s.heap.objs.size + 1) :: us) ++ ([] : List Value)).length = ps.length := by rw [List.append_nil]; exact hl
  have b := hb _ (Value.ref (s.heap.objs.size + 1) :: us) I2.kIn hl2
  rw [List.append_nil] at b
  refine wpAny_call (make_map (f := f) I.kIn M.makes M.init (beq_iff_eq.mp M.fn) (codeAny_mono (F.run _ X.stack _ _ ⟨Value.ref (s.heap.objs.size + 1) :: us, []⟩ (Value.ref (s.heap.objs.size + 1) :: us) _ _ (E σ) (hr.make C us [])
    (I2.env0.make C us []) b r2 hq) fun r s' hq' => ?_))
  cases r with
  | error e => exact hx pins _ _ e s' I2 hq'
  | ok fl =>
    cases fl with
    | ret u =>
      obtain ⟨v, H', I3, rv, ev, q3⟩ := I2.after hq'
      subst ev
      exact ⟨rv, ⟨V.ref (s.heap.objs.size + 1), H', I3, rfl, q3⟩⟩
    | next => exact False.elim hq'
    | brk => exact False.elim hq'
    | cont => exact False.elim hq'
theorem pe_xS (c : CalX X.prog X.w X.K X.mg X.base k x sp) (hr : Room j X.A) (hk : k ≤ j) (hg : Gl X x) (hx : ∀ σ, PassesAt (L2.CX X.prog X.w) X σ (E σ)) (ha : PA X (e :: es) t)
    (hdb : (x == ("__debug__" : Str)) = false := by decide) (he : starEach (e :: es) X.env = (false, eval e X.env) :: starEach es X.env := by rfl) (hpl : (backTo pos (starEach es X.env)).any (·.1) = false := by rfl) :
    PE X (.Call (.Name x p) (e :: es) [] pos) (tCallS sp E t) := by
  obtain ⟨f, fd, ps, F, hm, kp, b⟩ := c.ex
  exact pe_callS F (hr.mono hk) hg hm kp b hx ha hdb he hpl
theorem pe_xMk (c : MakX X.prog X.w X.K X.mg X.base k x C sp) (hr : Room j X.A) (hk : k + 1 ≤ j) (hg : Gl X x) (hx : ∀ σ, PassesAt (L2.CX X.prog X.w) X σ (E σ)) (ha : PA X (e :: es) t)
    (hdb : (x == ("__debug__" : Str)) = false := by decide) (he : starEach (e :: es) X.env = (false, eval e X.env) :: starEach es X.env := by rfl) (hpl : (backTo pos (starEach es X.env)).any (·.1) = false := by rfl) :
    PE X (.Call (.Name x p) (e :: es) [] pos) (tMakeE C sp E t) := by
  obtain ⟨f, fd, ps, M, F, hm, hb⟩ := c.ex
  refine ⟨fun pins s σ H Q I h => ?_⟩
  refine wpAny_Call_Name_kw (ld_glob I hg hm ?_ hdb)
  refine PySem.W.callWith_K (h₀ := X.base) I.ok.mod.kin M.kp (thn (ha.run pos pins s σ H _ I h) fun us s1 ⟨vs, H1, I1, r, q⟩ => ⟨I1.kIn, ?_⟩) he hpl
  exact run_makeS M F (hr.mono hk) hb (hx σ) I1 r q
theorem pe_xMt {pl : Sem Bool} (c : MetX X.prog X.w X.K X.mg X.base k C m sp) (hr : Room j X.A) (hk : k ≤ j) (hx : ∀ σ, PassesAt (L2.CX X.prog X.w) X σ (E σ)) (he : PE X o ta) (ha : PA X (e :: es) t)
    (hst : starEach (e :: es) X.env = (false, eval e X.env) :: starEach es X.env := by rfl) (hpl : (backTo pos (starEach es X.env)).any (·.1) = false := by rfl)
    (ht : eval (.Call (.Attribute o m apos) (e :: es) [] pos) X.env = (do
      let ov ← eval o X.env
      standAt apos.atName
      let (f, first) ← holding [ov] (getMethod ov m pl)
      callWith pos f first (backTo pos (starEach (e :: es) X.env)) (backToKw pos (keywordEach [] X.env))) := by rfl) :
    PE X (.Call (.Attribute o m apos) (e :: es) [] pos) (tMethE C m sp E ta t) := by
  obtain ⟨f, fd, ps, hc, hm, F, hb⟩ := c.ex
  refine ⟨fun pins s σ H Q I h => ?_⟩
  refine PySem.W.methodCall_KW (pl := pl) (thn (he.run pins s σ H _ I h) fun u s1 ⟨x, H1, I1, rx, a, dx, fs, ex, ea, l, q⟩ => ?_) ht
  subst ex
  obtain rfl : u = Value.ref a := rx
  refine getmeth_ok I1 ea hc hm l ?_
  refine PySem.W.callWith_K (first := [.ref a]) (h₀ := X.base) I.ok.mod.kin hm.kp (thn (ha.run pos pins s1 σ H1 _ I1 q) fun us s2 ⟨vs, H2, I2, r, q2⟩ => ⟨I2.kIn, ?_⟩) hst hpl
  exact run_fnS (us := .ref a :: us) (vs := .ref a :: vs) F (hr.mono hk) hb (hx σ) I2 (.cons rfl r) q2
theorem pe_xMt0 {pl : Sem Bool} (c : MetX X.prog X.w X.K X.mg X.base k C m sp) (hr : Room j X.A) (hk : k ≤ j) (hx : ∀ σ, PassesAt (L2.CX X.prog X.w) X σ (E σ)) (he : PE X o ta)
    (ht : eval (.Call (.Attribute o m apos) [] [] pos) X.env = (do
      let ov ← eval o X.env
      standAt apos.atName
      let (f, first) ← holding [ov] (getMethod ov m pl)
      callWith pos f first (backTo pos (starEach [] X.env)) (backToKw pos (keywordEach [] X.env))) := by rfl) :
    PE X (.Call (.Attribute o m apos) [] [] pos) (tMethE C m sp E ta tNil) := by
  obtain ⟨f, fd, ps, hc, hm, F, hb⟩ := c.ex
  refine ⟨fun pins s σ H Q I h => ?_⟩
  refine PySem.W.methodCall_KW (pl := pl) (thn (he.run pins s σ H _ I h) fun u s1 ⟨x, H1, I1, rx, a, dx, fs, ex, ea, l, q⟩ => ?_) ht
  subst ex
  obtain rfl : u = Value.ref a := rx
  refine getmeth_ok I1 ea hc hm l ?_
  exact PySem.W.callWith_K0 (first := [.ref a]) I1.kIn hm.kp (run_fnS (us := [.ref a]) (vs := [.ref a]) F (hr.mono hk) hb (hx σ) I1 (.cons rfl .nil) q)
end
/-- an own exception class that is raised; one that is caught -/
structure ExcAt (K : PySem.W.Frag) (C : Addr) : Prop where
  x : PySem.W.excIn K C [.type "ValueError", .type "Exception", .type "BaseException", .type "object"] "ValueError.__new__" = true
  k : PySem.W.keepIn K (.ref C) = true
  b : PySem.W.subIn K (.ref C) (.type "BaseException") = some true
  t : PySem.W.typeIn K (.ref C) = some (.type "type")
structure ExcC (K : PySem.W.Frag) (C : Addr) : Prop where
  b : PySem.W.subIn K (.ref C) (.type "BaseException") = some true
  i : PySem.W.isClsIn K C = true
  t : PySem.W.typeIn K (.ref C) = some (.type "type")
theorem ExcC.exm {K : PySem.W.Frag} {C D : Addr} {r : Bool} (c : ExcC K C) (h : PySem.W.subIn K (.ref D) (.ref C) = some r) : PySem.W.exmOne K (.ref D) (.ref C) = some r := by
  have e1 : (PySem.W.subIn K (.ref C) (.type "BaseException") == some true) = true := by rw [c.b] <;> rfl
  have e2 : ((PySem.W.clsIn K C).isSome && PySem.W.typeIn K (.ref C) == some (.type "type")) = true := by
    have h2' : (PySem.W.clsIn K C).isSome = true := c.i
    rw [h2', c.t] <;> rfl
  show (if (PySem.W.subIn K (.ref C) (.type "BaseException") == some true) = true then (if ((PySem.W.clsIn K C).isSome && PySem.W.typeIn K (.ref C) == some (.type "type")) = true then PySem.W.subIn K (.ref D) (.ref C) else none) else none) = some r
  rw [if_pos e1, if_pos e2]
  exact h
/-- C() -/
theorem pmk_own0 {X : Cx} {C : Addr} {x : Str} {p pos : Pos} (c : ExcAt X.K C) (gC : X.mg x = some (.ref C)) (hg : Gl X x) (hdb : (x == ("__debug__" : Str)) = false := by decide) :
    PMk X (.Call (.Name x p) [] [] pos) (fun _ H Q => Q (.ref C) none H) := by
  intro pins s σ H Q I h
  refine wpAny_Call_Name_kw (ld_glob I hg gC ?_ hdb)
  refine PySem.W.callWith_K0 I.kIn c.k ?_
  obtain ⟨bm, N, nm, qn, bs, hdct, sn, sub, ab, col, dd, k0, k1, k2, k3, k5, mN, hC, hN, hni, T⟩ := exc_obj I.kIn c.x
  refine wpAny_call_exc_subT PySem.F.excBase_ValueError T hC hN hni (fun h' e hm => ?_) (Nat.zero_le _)
  exact mk_of I hm (raises_own c.b c.t) h (I.hok.gone hm.new)
section
variable {K : PySem.W.Frag} {σ : L2.St} {H : Hp} {ta : TE} {tr : TA} {Q : VK} {E : L2.St → XK} {C : Addr} {m : Str} {sp : Sp}
theorem L_callS (h : tr σ H fun vs H1 => sp vs H1 Q (E σ)) : tCallS sp E tr σ H Q := h
theorem L_methE (h : ta σ H fun x H1 => ∃ a dx fs, x = .ref a ∧ H1 a = some (.ins C dx fs) ∧ fs.lookup m = none ∧ tr σ H1 fun vs H2 => sp (x :: vs) H2 Q (E σ)) : tMethE C m sp E ta tr σ H Q := h
theorem L_makeE (h : tr σ H fun vs H1 => MakeP C sp (E σ) vs H1 Q) : tMakeE C sp E tr σ H Q := h
theorem L_meth {E : XK} (h : ta σ H fun x H1 => ∃ a dx fs, x = .ref a ∧ H1 a = some (.ins C dx fs) ∧ fs.lookup m = none ∧ tr σ H1 fun vs H2 => sp (x :: vs) H2 Q E) : tMeth C m sp [] E ta tr σ H Q := by
  unfold tMeth
  simp only [List.append_nil]
  exact h
theorem L_methv {a dx : Addr} {fs : List (Str × V)} {R : Prop} (h : H a = some (.ins C dx fs)) (l : fs.lookup m = none) (q : R) : ∃ a' dx fs, V.ref a = V.ref a' ∧ H a' = some (.ins C dx fs) ∧ fs.lookup m = none ∧ R := ⟨a, dx, fs, rfl, h, l, q⟩
theorem L_only {c : Value} {ts : Addr → Value → Option Addr → TS} {Wout : WX} {D : Ends} {cls : Value} {d : Option Addr} (h : PySem.W.exmOne K cls c = some true) (q : ∀ a, H a = none → ts a cls d D σ H) : wOnly K c ts Wout D cls d σ H := ⟨true, h, fun _ => q, fun z => nomatch z⟩
end
/-- no whole number: another kind of thing, or a truth -/
def NotW (K : PySem.W.Frag) (H : Hp) (v : V) : Prop := (∃ b, v = .bl b) ∨ ∃ a, TyX K H v (.type a) ∧ kitB a "int" = some false
/-- what is_whole denies -/
def BadW (K : PySem.W.Frag) (H : Hp) (v : V) (lo hi : Int) : Prop := NotW K H v ∨ ∃ t, v = .int t ∧ ¬ (lo ≤ t ∧ t ≤ hi)
section
variable {K : PySem.W.Frag} {H : Hp}
theorem notw_non : NotW K H .non := .inr ⟨_, .base .non, by decide +kernel⟩
theorem notw_bl {b : Bool} : NotW K H (.bl b) := .inl ⟨b, rfl⟩
theorem notw_str {z : Str} : NotW K H (.str z) := .inr ⟨_, .base (.str z), by decide +kernel⟩
theorem notw_lst {a : Addr} {xs : List V} (h : H a = some (.lst xs)) : NotW K H (.ref a) := .inr ⟨_, .base (.lst h), by decide +kernel⟩
theorem notw_tup {a : Addr} {xs : List V} (h : H a = some (.tup xs)) : NotW K H (.ref a) := .inr ⟨_, .base (.tup h), by decide +kernel⟩
theorem notw_dK {a : Addr} {xs : List (Key × V)} (h : H a = some (.dK xs)) : NotW K H (.ref a) := .inr ⟨_, .base (.dK h), by decide +kernel⟩
theorem badw_int {t lo hi : Int} (h : ¬ (lo ≤ t ∧ t ≤ hi)) : BadW K H (.int t) lo hi := .inr ⟨t, rfl, h⟩
theorem NotW.bad {v : V} {lo hi : Int} (h : NotW K H v) : BadW K H v lo hi := .inl h
end
section
variable {K : PySem.W.Frag} {H H' : Hp}
theorem tyx_T {a : Addr} {xs : List V} (h : SqT K H a xs) : TyX K H (.ref a) (.type "tuple") := by
  rcases h with (h | ⟨o, h⟩) | ⟨o, _, _, h, c, _⟩
  · exact .base (.tup h)
  · exact .fTuple h
  · exact .kTuple h c
theorem tyx_L {a : Addr} {xs : List V} (h : SqL K H a xs) : TyX K H (.ref a) (.type "list") := by
  rcases h with (h | ⟨o, h⟩) | ⟨o, _, _, h, c, _⟩
  · exact .base (.lst h)
  · exact .base (.frz h)
  · exact .kList h c
variable {σ : L2.St} {Q : VK}
theorem L_sort2 {a : Addr} {x y : Int} (h : SqL K H a [V.int x, V.int y]) (q : ∀ p, H p = none → Q (.ref p) (upd H p (.lst [V.int (min x y), V.int (max x y)]))) : rSorted K [.ref a] H Q := by
  refine ⟨a, [x, y], rfl, h, by simp, fun ns p hp hs hn => ?_⟩
  have hl := hp.length_eq
  match ns, hl with
  | [u, v], _ =>
    have hle : u ≤ v := by simpa using hs
    have hm : (u = x ∧ v = y) ∨ (u = y ∧ v = x) := by
      have h1 : u ∈ [x, y] := hp.mem_iff.mp (by simp)
      have h2 : v ∈ [x, y] := hp.mem_iff.mp (by simp)
      have h3 : x ∈ [u, v] := hp.mem_iff.mpr (by simp)
      have h4 : y ∈ [u, v] := hp.mem_iff.mpr (by simp)
      simp only [List.mem_cons, List.not_mem_nil, or_false] at h1 h2 h3 h4
      rcases h1 with h1 | h1 <;> rcases h2 with h2 | h2 <;> rcases h3 with h3 | h3 <;> rcases h4 with h4 | h4 <;> omega
    have e : [u, v] = [min x y, max x y] := by
      rcases hm with ⟨rfl, rfl⟩ | ⟨rfl, rfl⟩
      · rw [Int.min_eq_left hle, Int.max_eq_right hle]
      · rw [Int.min_eq_right hle, Int.max_eq_left hle]
    rw [e]
    exact q p hn
theorem L_list1 {a : Addr} {xs : List V} (h : SqL K H a xs) (q : ∀ l, H l = none → Q (.ref l) (upd H l (.lst xs))) : aList1 K [.ref a] H Q := ⟨a, xs, rfl, .inl h, q⟩
theorem L_tuple1 {a : Addr} {xs : List V} (h : SqL K H a xs) (q : ∀ l, H l = none → Q (.ref l) (upd H l (.tup xs))) : aTuple1 K [.ref a] H Q := ⟨a, xs, rfl, .inl ⟨h, q⟩⟩
theorem eqv_same {d : PyData} (h : SeqAt.shaped d = true) : PyData.eqv d d = true := SeqAt.eqv_refl d (SeqAt.canLay_of_shaped h)
theorem L_eqR {x y : V} {d : PyData} (hx : Dp K H x d) (hy : Dp K H y d) (s : SeqAt.shaped d = true) (q : Q (.bl true) H) : aEq K x y H Q := L_eqD hx hy s s (by rw [eqv_same s]; exact q)
theorem L_neR {x y : V} {d : PyData} (hx : Dp K H x d) (hy : Dp K H y d) (s : SeqAt.shaped d = true) (q : Q (.bl false) H) : aNe K x y H Q := L_neD hx hy s s (by rw [eqv_same s]; exact q)
theorem L_zipA {a b : Addr} {xs ys : List V} {R : Addr → Addr → Prop} (h1 : SqL K H a xs) (h2 : SqL K H b ys) (q : R a b) : ∃ a' b' xs ys, [V.ref a, V.ref b] = [.ref a', .ref b'] ∧ SqL K H a' xs ∧ SqL K H b' ys ∧ R a' b' := ⟨a, b, xs, ys, rfl, h1, h2, q⟩
end
/-- data that == may be asked of, at most n deep -/
structure Shp (n : Nat) (d : PyData) : Prop where
  c : d.canLay0 = true
  d : d.depth ≤ n
theorem Shp.ok {n : Nat} {d : PyData} (h : Shp n d) (hn : n ≤ 64 := by decide) : SeqAt.shaped d = true := by
  unfold SeqAt.shaped
  rw [h.c, decide_eq_true (Nat.le_trans h.d hn)]; rfl
theorem shp_int {n : Nat} {i : Int} : Shp n (.int i) := ⟨by simp [PyData.canLay0], by simp [PyData.depth]⟩
theorem shp_bl {n : Nat} {i : Bool} : Shp n (.bool i) := ⟨by simp [PyData.canLay0], by simp [PyData.depth]⟩
theorem shp_non {n : Nat} : Shp n .none := ⟨by simp [PyData.canLay0], by simp [PyData.depth]⟩
theorem shp_str {n : Nat} {z : Str} (h : PyData.strOk z = true) : Shp n (.str z) := ⟨by simpa [PyData.canLay0] using h, by simp [PyData.depth]⟩
theorem shp_all {n : Nat} : ∀ {ds : List PyData}, (∀ d ∈ ds, Shp n d) → PyData.canLayAll0 ds = true ∧ PyData.depthAll ds ≤ n
  | [], _ => ⟨by simp [PyData.canLayAll0], by simp [PyData.depthAll]⟩
  | d :: ds, h => by
    have h1 := h d (List.mem_cons_self ..)
    have h2 := shp_all fun x hx => h x (List.mem_cons_of_mem _ hx)
    exact ⟨by simp [PyData.canLayAll0, h1.c, h2.1], by simp only [PyData.depthAll]; exact Nat.max_le.mpr ⟨h1.d, h2.2⟩⟩
theorem shp_lst {n : Nat} {ds : List PyData} (h : ∀ d ∈ ds, Shp n d) : Shp (n + 1) (.list ds) := ⟨by simp only [PyData.canLay0]; exact (shp_all h).1, by simp only [PyData.depth]; have := (shp_all h).2; omega⟩
theorem shp_tup {n : Nat} {ds : List PyData} (h : ∀ d ∈ ds, Shp n d) : Shp (n + 1) (.tuple ds) := ⟨by simp only [PyData.canLay0]; exact (shp_all h).1, by simp only [PyData.depth]; have := (shp_all h).2; omega⟩
theorem shp_nil {n : Nat} : ∀ d ∈ ([] : List PyData), Shp n d := fun _ h => nomatch h
theorem shp_cons {n : Nat} {d : PyData} {ds : List PyData} (h : Shp n d) (t : ∀ d ∈ ds, Shp n d) : ∀ x ∈ d :: ds, Shp n x := fun x hx => by
  rcases List.mem_cons.mp hx with rfl | hx
  · exact h
  · exact t x hx
theorem shp_map {n : Nat} {α : Type} {f : α → PyData} {l : List α} (h : ∀ a ∈ l, Shp n (f a)) : ∀ d ∈ l.map f, Shp n d := fun d hd => by
  obtain ⟨a, ha, rfl⟩ := List.mem_map.mp hd
  exact h a ha
theorem shp_ints {n : Nat} {l : List Int} : Shp (n + 1) (.list (l.map .int)) := shp_lst (shp_map fun _ _ => shp_int)
theorem _root_.L2.Dp.ints {K : PySem.W.Frag} {H : Hp} {a : Addr} {ns : List Int} (h : SqL K H a (ns.map V.int)) : Dp K H (.ref a) (.list (ns.map .int)) := .lst h (dp_ints ns)
section
variable {K : PySem.W.Frag} {H : Hp} {Q : VK}
theorem L_powE {i j n : Int} (h : CPow i j) (e : i ^ j.toNat = n) (q : Q (.int n) H) : rI CPow (fun i j => .int (i ^ j.toNat)) (.int i) (.int j) H Q := ⟨i, j, rfl, rfl, h, by subst e; exact q⟩
/-- one of some ints -/
theorem L_menu {ns : List Int} {p : Addr} {i : Int} (h : SqL K H p (ns.map V.int)) (h0 : 0 ≤ i) (h1 : i < ns.length) (q : ∀ v ∈ ns, Q (.int v) H) : rIx K (.ref p) (.int i) H Q := by
  have hl : i.toNat < ns.length := by omega
  refine L_ixL h (atI_ints h0 h1) (q _ ?_)
  rw [List.getD_eq_getElem?_getD, List.getElem?_eq_getElem hl]
  exact List.getElem_mem hl
/-- an item of a list of ints, some property of all its items kept -/
theorem L_ixP {ns : List Int} {p : Addr} {i : Int} {P : Int → Prop} (h : SqL K H p (ns.map V.int)) (hP : ∀ v ∈ ns, P v) (h0 : 0 ≤ i) (h1 : i < ns.length) (q : ∀ v, P v → Q (.int v) H) : rIx K (.ref p) (.int i) H Q :=
  L_menu h h0 h1 fun v hv => q v (hP v hv)
end
theorem cdiv_lit {i j : Int} (h : 0 < j ∧ j < 1000000000000) : CDivW i j := (bd_64 (by omega)).cdiv h.1
theorem cpow_lit {i j : Int} (h : 0 ≤ j ∧ j ≤ 1000 ∧ -1000000 < i ∧ i < 1000000) : CPow i j := by
  have e : (2 : Nat) ^ 64 = 18446744073709551616 := by decide
  exact ⟨h.1, by omega, by omega⟩
theorem same_newE {H Hn : Hp} {p : Addr} {o : HO} (e : upd H p o = Hn) (h : H p = none) : Same H Hn := e ▸ same_new h
theorem upd_at {H Hn : Hp} {p : Addr} {o : HO} (e : upd H p o = Hn) : Hn p = some o := e ▸ upd_same
section
variable {K : PySem.W.Frag} {H H' : Hp} {p q : Addr} {us xs : List V} {ds : List PyData} {d : PyData} {y : V} {o : HO}
/-- a list grows: its things stand apart from it -/
theorem dp_grow (hdp : DpAll K (rs (· ≠ p) H) us ds) (s : Same H H') (hy : Dp K (rs (· ≠ p) H') y d) : DpAll K (rs (· ≠ p) (upd H' p o)) (us ++ [y]) (ds ++ [d]) :=
  (hdp.same (rs_same fun a u na ha => ⟨na, by rw [upd_ne na]; exact s _ _ ha⟩)).snoc (hy.same (rs_same fun a u na ha => ⟨na, by rw [upd_ne na]; exact ha⟩))
theorem dp_tupN (h : H q = some (.tup xs)) (n : q ≠ p) (ha : DpAll K (rs (· ≠ p) H) xs ds) : Dp K (rs (· ≠ p) H) (.ref q) (.tuple ds) := .tup (.of (rs_at n h)) ha
theorem dp_lstN (h : H q = some (.lst xs)) (n : q ≠ p) (ha : DpAll K (rs (· ≠ p) H) xs ds) : Dp K (rs (· ≠ p) H) (.ref q) (.list ds) := .lst (.of (rs_at n h)) ha
/-- data that stood ahead of p -/
theorem dp_old {H0 : Hp} (h : Dp K H0 y d) (n : H0 p = none) (s : Same H0 H) : Dp K (rs (· ≠ p) H) y d := h.same (rs_all fun a u ha => ⟨fun z => (by rw [z, n] at ha; cases ha), s _ _ ha⟩)
theorem dpA_old {H0 : Hp} (h : DpAll K H0 us ds) (n : H0 p = none) (s : Same H0 H) : DpAll K (rs (· ≠ p) H) us ds := h.same (rs_all fun a u ha => ⟨fun z => (by rw [z, n] at ha; cases ha), s _ _ ha⟩)
theorem dp_whole (h : DpAll K (rs (· ≠ p) H) us ds) (e : H p = some (.lst us)) : Dp K H (.ref p) (.list ds) := .lst (.of e) (h.same rs_sub)
theorem ne_new (h : H p = none) (h' : ∃ o, H q = some o) : p ≠ q := fun z => by
  obtain ⟨o, e⟩ := h'
  rw [z, e] at h; cases h
end
theorem fm_get {α β : Type} (g : α → β) : ∀ (l : List α), (List.range l.length).filterMap (fun i => l[i]?.map g) = l.map g
  | [] => rfl
  | a :: l => by
    have ih := fm_get g l
    rw [List.length_cons, List.range_succ_eq_map]
    simp only [List.filterMap_cons, List.getElem?_cons_zero, Option.map_some, List.filterMap_map, Function.comp_def, List.getElem?_cons_succ, List.map_cons]
    rw [ih]
theorem sum_take {α : Type} {l : List α} {f : α → Int} {i : Nat} {x : α} (h : l[i]? = some x) : ((l.take (i + 1)).map f).sum = ((l.take i).map f).sum + f x := by
  rw [List.take_succ, h]
  simp
theorem sum_takeAll {α : Type} {l : List α} {f : α → Int} {n : Nat} (h : l.length ≤ n) : ((l.take n).map f).sum = (l.map f).sum := by rw [List.take_of_length_le h]
/-! ### loops, the ends told one by one -/
section
variable {K : PySem.W.Frag} {σ : L2.St} {H : Hp} {g : TG} {tb : TS} {N : L2.St → Hp → Prop} {R : VK}
/-- what a for asks behind its iterable -/
abbrev ForT (J : It) (σ : L2.St) (H : Hp) (g : TG) (tb : TS) (N : L2.St → Hp → Prop) (R : VK) : Prop :=
  ∃ W : Nat → Nat → L2.St → Hp → Prop, (∃ m, W 0 m σ H) ∧ ∀ i m σ H, W i m σ H →
      (J.stop i H ∧ N σ H) ∨ (J.go i H ∧ ∃ M : L2.St → Hp → Prop, (∀ σ' H', M σ' H' → ∃ m', m' < m ∧ W (i + 1) m' σ' H') ∧ ∀ x H', J.yld i H x H' → g x σ H' fun σ2 H2 => tb ⟨M, R, N, M⟩ σ2 H2)
theorem f_it {J : It} {n : Nat} {G : Hp → Prop} {Y : Nat → Hp → V → Hp → Prop} (w : L2.Walk J n G Y) (Pv : Nat → L2.St → Hp → Prop) (h0 : Pv 0 σ H) (hG : ∀ i σ H, i ≤ n → Pv i σ H → G H)
    (hs : ∀ i x σ H H', i < n → Pv i σ H → Y i H x H' → g x σ H' fun σ2 H2 => tb ⟨Pv (i + 1), R, N, Pv (i + 1)⟩ σ2 H2) (hd : ∀ σ H, Pv n σ H → N σ H) : ForT J σ H g tb N R :=
  for_it (D := ⟨N, R, N, N⟩) w Pv h0 hG hs hd
theorem f_range {lo : Int} {n : Nat} (Pv : Nat → L2.St → Hp → Prop) (h0 : Pv 0 σ H)
    (hs : ∀ i σ H, i < n → Pv i σ H → g (.int (lo + i)) σ H fun σ2 H2 => tb ⟨Pv (i + 1), R, N, Pv (i + 1)⟩ σ2 H2) (hd : ∀ σ H, Pv n σ H → N σ H) : ForT (Itr lo n) σ H g tb N R :=
  for_range (D := ⟨N, R, N, N⟩) Pv h0 hs hd
theorem f_rangeC {lo c : Int} {n : Nat} (Pv : Nat → L2.St → Hp → Prop) (h0 : Pv 0 σ H)
    (hs : ∀ i σ H, i < n → Pv i σ H → g (.int (lo + (i : Nat) * c)) σ H fun σ2 H2 => tb ⟨Pv (i + 1), R, N, Pv (i + 1)⟩ σ2 H2) (hd : ∀ σ H, Pv n σ H → N σ H) : ForT (Itc lo c n) σ H g tb N R :=
  for_rangeC (D := ⟨N, R, N, N⟩) Pv h0 hs hd
theorem f_dp {a : Addr} {ds : List PyData} (h : Dp K H (.ref a) (.list ds)) (Pv : Nat → L2.St → Hp → Prop) (h0 : Pv 0 σ H) (hG : ∀ i σ' H', i ≤ ds.length → Pv i σ' H' → Same H H')
    (hs : ∀ i d x σ' H', i < ds.length → ds[i]? = some d → Pv i σ' H' → Dp K H' x d → g x σ' H' fun σ2 H2 => tb ⟨Pv (i + 1), R, N, Pv (i + 1)⟩ σ2 H2) (hd : ∀ σ' H', Pv ds.length σ' H' → N σ' H') : ForT (Itl K a) σ H g tb N R :=
  for_dp (D := ⟨N, R, N, N⟩) h Pv h0 hG hs hd
end
section
variable {σ σ' : L2.St} {H : Hp} {i : Nat} {v x : V} {B C : L2.St → Hp → Prop} {N : L2.St → Hp → Prop} {R : VK} {te : TE}
theorem L_gnameE {Q : L2.St → Hp → Prop} (e : σ.set i (some v) = σ') (h : Q σ' H) : gName i v σ H Q := by subst e; exact h
end
section
variable {K : PySem.W.Frag} {H H' : Hp} {σ : L2.St} {Q : VK} {te : TE} {tl th : TO}
theorem TyX_same {v : V} {t : Value} (e : Same H H') (h : TyX K H v t) : TyX K H' v t := by
  cases h with
  | base h =>
    refine .base ?_
    cases h with
    | non => exact .non
    | bl x => exact .bl x
    | int x => exact .int x
    | str x => exact .str x
    | flt x => exact .flt x
    | lst h => exact .lst (e _ _ h)
    | frz h => exact .frz (e _ _ h)
    | tup h => exact .tup (e _ _ h)
    | dK h => exact .dK (e _ _ h)
    | dT h => exact .dT (e _ _ h)
    | ins h cl ha hn htk hm => exact .ins (e _ _ h) cl ha hn htk hm
  | byt b => exact .byt b
  | set h => exact .set (e _ _ h)
  | kList h c => exact .kList h c
  | kTuple h c => exact .kTuple h c
  | kDict h c => exact .kDict h c
  | fTuple h => exact .fTuple (e _ _ h)
  | fDict h => exact .fDict (e _ _ h)
theorem NotW.same {v : V} (h : NotW K H v) (e : Same H H') : NotW K H' v := by
  rcases h with h | ⟨a, h1, h2⟩
  · exact .inl h
  · exact .inr ⟨a, TyX_same e h1, h2⟩
theorem BadW.same {v : V} {lo hi : Int} (h : BadW K H v lo hi) (e : Same H H') : BadW K H' v lo hi := by
  rcases h with h | h
  · exact .inl (h.same e)
  · exact .inr h
theorem L_sl {r : V → Option Int → Option Int → Hp → VK → Prop} (h : te σ H fun x H1 => tl σ H1 fun l H2 => th σ H2 fun u H3 => r x l u H3 Q) : L2.tSl r te tl th σ H Q := h
theorem L_noPart {R : Option Int → Hp → Prop} (h : R none H) : tNoPart σ H R := h
theorem L_part {t : TE} {R : Option Int → Hp → Prop} (h : t σ H fun x H1 => ∃ i, x = .int i ∧ R (some i) H1) : tPart t σ H R := h
theorem L_ki {i : Int} {R : Int → Prop} (h : R i) : ∃ j, V.int i = V.int j ∧ R j := ⟨i, rfl, h⟩
theorem L_slL {a : Addr} {xs : List V} {lo hi : Option Int} (h : SqL K H a xs) (q : ∀ p, H p = none → Q (.ref p) (upd H p (.lst (cutV xs lo hi)))) : rSlL K (.ref a) lo hi H Q := ⟨a, xs, rfl, h, q⟩
end
def cutG {α : Type} (xs : List α) (lo hi : Option Int) : List α := (xs.drop (HT.sIx xs.length 0 lo)).take (HT.sIx xs.length xs.length hi - HT.sIx xs.length 0 lo)
theorem cutV_map {α : Type} (f : α → V) (xs : List α) (lo hi : Option Int) : cutV (xs.map f) lo hi = (cutG xs lo hi).map f := by
  unfold cutV cutG
  rw [List.length_map, List.map_take, List.map_drop]
theorem cutG_mem {α : Type} {xs : List α} {lo hi : Option Int} {x : α} (h : x ∈ cutG xs lo hi) : x ∈ xs := List.mem_of_mem_drop (List.mem_of_mem_take h)
theorem cutG_len {α : Type} (xs : List α) (lo hi : Option Int) : (cutG xs lo hi).length ≤ xs.length := by
  unfold cutG
  rw [List.length_take, List.length_drop]
  omega
section
variable {K : PySem.W.Frag} {H : Hp} {Q : VK}
/-- one of some things -/
theorem L_menuV {xs : List V} {p : Addr} {i : Int} (h : SqL K H p xs) (h0 : 0 ≤ i) (h1 : i < xs.length) (q : ∀ v ∈ xs, Q v H) : rIx K (.ref p) (.int i) H Q := by
  have hl : i.toNat < xs.length := by omega
  exact L_ixL h (atI_int h0 (List.getElem?_eq_getElem hl)) (q _ (List.getElem_mem hl))
end
theorem hpL {K : PySem.W.Frag} {H : Hp} {a : Addr} {xs : List V} (h : H a = some (.lst xs)) : SqL K H a xs := .of h
theorem hpT {K : PySem.W.Frag} {H : Hp} {a : Addr} {xs : List V} (h : H a = some (.tup xs)) : SqT K H a xs := .of h
theorem bd_mod {x n : Int} (h : 0 < n ∧ n < 18446744073709551616) : Bd 64 (x % n) := bd_64 (by
  have h1 := Int.emod_nonneg x (show n ≠ 0 by omega)
  have h2 := Int.emod_lt_of_pos x h.1
  omega)
theorem hp_from {H0 H : Hp} {p : Addr} {o : HO} (h : H0 p = some o) (e : Same H0 H) : H p = some o := e _ _ h
theorem same_via {H H1 H2 : Hp} (b : Same H1 H2) (a : Same H H1) : Same H H2 := a.trans b
theorem same_upd' {H H' : Hp} {a : Addr} {o : HO} (h : H' a = none) (e : Same H H') : Same H (upd H' a o) := same_upd e h
theorem same_mut' {H H' : Hp} {a : Addr} {o : HO} (h : H a = none) (e : Same H H') : Same H (upd H' a o) := same_mut e h
section
variable {K : PySem.W.Frag} {H : Hp} {σ : L2.St} {Q : VK}
theorem L_clear {a : Addr} {xs : List V} (h : H a = some (.lst xs)) (q : Q .non (upd H a (.lst []))) : rClear (.ref a) [] H Q := ⟨a, xs, rfl, rfl, h, q⟩
theorem L_dnew (h : ∀ p, H p = none → Q (.ref p) (upd H p (.dK []))) : tDNewK σ H Q := h
/-- no list -/
def NotL (K : PySem.W.Frag) (H : Hp) (v : V) : Prop := ∃ a, TyX K H v (.type a) ∧ kitB a "list" = some false
theorem notl_tup {a : Addr} {xs : List V} (h : SqT K H a xs) : NotL K H (.ref a) := ⟨_, tyx_T h, by decide +kernel⟩
theorem notl_non : NotL K H .non := ⟨_, .base .non, by decide +kernel⟩
theorem notl_int {i : Int} : NotL K H (.int i) := ⟨_, .base (.int i), by decide +kernel⟩
theorem notl_bl {i : Bool} : NotL K H (.bl i) := ⟨_, .base (.bl i), by decide +kernel⟩
theorem notl_str {i : Str} : NotL K H (.str i) := ⟨_, .base (.str i), by decide +kernel⟩
theorem notl_dK {a : Addr} {xs : List (Key × V)} (h : H a = some (.dK xs)) : NotL K H (.ref a) := ⟨_, .base (.dK h), by decide +kernel⟩
theorem NotL.same {H' : Hp} {v : V} (h : NotL K H v) (e : Same H H') : NotL K H' v := by
  obtain ⟨a, h1, h2⟩ := h
  exact ⟨a, TyX_same e h1, h2⟩
end
theorem rep1 (x : Int) : ∀ n : Nat, (List.replicate n [V.int x]).flatten = (List.replicate n x).map V.int
  | 0 => rfl
  | n + 1 => by rw [List.replicate_succ, List.flatten_cons, rep1 x n]; rfl
section
variable {K : PySem.W.Frag} {H : Hp} {Q : VK}
theorem L_neB {i j : Bool} (q : Q (.bl (!decide (i = j))) H) : aNe K (.bl i) (.bl j) H Q := .inl ⟨rfl, by rw [show decide (V.bl i = V.bl j) = decide (i = j) by simp]; exact q⟩
end
/-! ### for x in xs: check(x) -/
section
variable {K : PySem.W.Frag} {σ : L2.St} {H : Hp} {N : L2.St → Hp → Prop} {R : VK} {a : Addr} {xs : List V} {sp : Sp} {ES : L2.St → XK} {i : Nat} {c : Value}
theorem set_self (σ : L2.St) (i : Nat) (hi : i < σ.length) : ∃ v, σ = σ.set i v := ⟨σ[i], by simp⟩
theorem L_forChk (hL : SqL K H a xs) (hi : i < σ.length) (hok : ∀ x ∈ xs, ∀ Q E, Q .non H → sp [x] H Q E) (q : ∀ v, N (σ.set i v) H) : ForT (Itl K a) σ H (gName i) (tDrop (tCallS sp ES (tCons (tVar i) tNil))) N R := by
  refine f_it walk_list (fun _ σ' H' => H' = H ∧ ∃ v, σ' = σ.set i v) ⟨rfl, set_self σ i hi⟩ (fun _ _ _ _ p => p.1 ▸ hL) ?_ ?_
  · rintro j x σ' H' H'' hj ⟨rfl, v, rfl⟩ ⟨rfl, e⟩
    refine L_gname (L_drop (L_callS (L_cons (L_var (v := x) ?_ (L_nil (hok x (List.mem_of_getElem? e) _ _ ?_))))))
    · simp [hi]
    · exact ⟨rfl, some x, by rw [List.set_set]⟩
  · rintro σ' H' ⟨rfl, v, rfl⟩
    exact q v
theorem L_forChkX (hL : SqL K H a xs) (hi : i < σ.length) (hx : ∀ x ∈ xs, (∀ Q E, Q .non H → sp [x] H Q E) ∨ ∀ Q E, E c none H → sp [x] H Q E) (hb : ∃ x ∈ xs, ∀ Q E, E c none H → sp [x] H Q E) (q : ∀ v, ES (σ.set i v) c none H) :
    ForT (Itl K a) σ H (gName i) (tDrop (tCallS sp ES (tCons (tVar i) tNil))) N R := by
  obtain ⟨x0, hx0, hb0⟩ := hb
  obtain ⟨j0, hj0⟩ := List.mem_iff_getElem?.mp hx0
  refine f_it walk_list (fun j σ' H' => H' = H ∧ (∃ v, σ' = σ.set i v) ∧ ∃ k x, j ≤ k ∧ xs[k]? = some x ∧ ∀ Q E, E c none H → sp [x] H Q E) ⟨rfl, set_self σ i hi, j0, x0, Nat.zero_le _, hj0, hb0⟩ (fun _ _ _ _ p => p.1 ▸ hL) ?_ ?_
  · rintro j x σ' H' H'' hj ⟨rfl, ⟨v, rfl⟩, k, y, hk, hy, hby⟩ ⟨rfl, e⟩
    refine L_gname (L_drop (L_callS (L_cons (L_var (v := x) ?_ (L_nil ?_)))))
    · simp [hi]
    · by_cases hc : ∀ Q E, E c none H'' → sp [x] H'' Q E
      · exact hc _ _ (by rw [List.set_set]; exact q _)
      · refine (hx x (List.mem_of_getElem? e)).resolve_right hc _ _ ⟨rfl, ⟨some x, by rw [List.set_set]⟩, k, y, ?_, hy, hby⟩
        rcases Nat.lt_or_eq_of_le hk with hlt | rfl
        · exact hlt
        · rw [e] at hy
          cases hy
          exact absurd hby hc
  · rintro σ' H' ⟨rfl, ⟨v, rfl⟩, k, y, hk, hy, hby⟩
    have := (List.getElem?_eq_some_iff.mp hy).1
    omega
end
theorem L_bm0 {K : PySem.W.Frag} {σ : L2.St} {H : Hp} {Q : VK} {te : TE} {T : String} {r : V → List V → Hp → VK → Prop} (h : te σ H fun x H1 => tyV K T x H1 ∧ r x [] H1 Q) : tBM0 K T r te σ H Q := h
/-- what an expression's ways have in common -/
theorem L_via {P : VK → Prop} {Q : VK} (R : V → Hp → Prop) (key : ∀ Q : VK, (∀ v H', R v H' → Q v H') → P Q) (q : ∀ v H', R v H' → Q v H') : P Q := key Q q
end Kt
set_option Elab.async false
set_option linter.all false
set_option maxRecDepth 100000
set_option maxHeartbeats 4000000
namespace My
open PySem PySem.Spec PyProof.Rows L2 Kt
/-! one step of a reading; a look at the heap -/
local macro_rules | `(tactic| walk_at "hp") => `(tactic| first
  | assumption
  | exact upd_same
  | (with_reducible apply hp_from; assumption; walk_at "sm"))
local macro_rules | `(tactic| walk_at "hpL") => `(tactic| first | assumption | (with_reducible apply hpL; walk_at "hp"))
local macro_rules | `(tactic| walk_at "hpT") => `(tactic| first | assumption | (with_reducible apply hpT; walk_at "hp"))
local macro_rules | `(tactic| walk_at "st1") => `(tactic| with_reducible first
  | refine L_var rfl ?_
  | refine L_cons ?_
  | refine L_nil ?_
  | refine L_c ?_
  | refine L_op ?_
  | refine L_seq ?_
  | refine L_asg ?_
  | refine L_gnameE (by dsimp only [L2.wipe, List.foldl, List.set] <;> rfl) ?_
  | refine L_k ?_
  | refine L_I0 ?_
  | refine L_addI ?_
  | refine L_tTest ?_
  | refine L_ifS ?_
  | refine L_next ?_
  | refine L_call ?_
  | refine L_callS ?_
  | refine L_T ?_
  | refine L_F ?_
  | refine L_nT ?_
  | refine L_nF ?_
  | refine L_cb ?_
  | refine L_ret ?_
  | refine L_eqI ?_
  | refine L_neI ?_
  | refine L_leI ?_
  | refine L_ltI ?_
  | refine L_or ?_
  | refine L_and ?_
  | refine L_not ?_
  | refine L_tB ?_
  | refine L_drop ?_
  | refine L_bm ?_
  | refine L_tup ?_
  | refine L_lst ?_
  | refine L_fld ?_
  | refine L_chain ?_
  | refine L_gname ?_
  | refine L_eqS ?_
  | refine L_neS ?_
  | refine L_eqB ?_
  | refine L_leS ?_
  | refine L_isN ?_
  | refine L_notN ?_
  | refine L_inC ?_
  | refine L_notInC ?_
  | refine L_un ?_
  | refine L_rU ?_
  | refine L_andV ?_
  | refine L_orV ?_
  | refine L_notV ?_
  | refine L_par ?_
  | refine L_par3 ?_
  | refine L_vs2 ?_
  | refine L_vs3 ?_
  | refine L_aug rfl ?_
  | refine L_ipI ?_
  | refine L_retN ?_
  | refine L_brk ?_
  | refine L_cont ?_
  | refine L_tru ?_
  | refine L_truB ?_
  | refine L_truI ?_
  | refine L_abs ?_
  | refine L_max2 ?_
  | refine L_min2 ?_
  | refine L_int1 ?_
  | refine L_int1B ?_
  | refine L_for ?_
  | refine L_iRng1 ?_
  | refine L_iRng2 ?_
  | refine L_iList ?_
  | refine L_iTup ?_
  | refine L_yes ?_
  | refine L_iZip ?_
  | refine L_iEnum ?_
  | refine L_iStr ?_
  | refine L_iRng3 ?_
  | refine L_lc ?_
  | refine L_make ?_
  | refine L_bm0 ?_
  | refine L_neB ?_
  | refine L_dnew ?_
  | refine L_sl ?_
  | refine L_noPart ?_
  | refine L_part ?_
  | refine L_ki ?_
  | refine L_methE ?_
  | refine L_meth ?_
  | refine L_makeE ?_
  | refine L_gCons ?_
  | refine L_gNil ?_
  | refine L_sub ?_
  | refine L_sFld ?_)
local macro_rules | `(tactic| walk_at "st") => `(tactic| first | walk_at "st1" | walk_at "op" | with_reducible refine L_ifE ?_)
local macro_rules | `(tactic| walk_at "stn") => `(tactic| repeat first | walk_at "st1" | walk_at "op")
local macro_rules | `(tactic| walk_at "sts") => `(tactic| repeat walk_at "st")
/-! the same, and what is shown by itself: sizes, bounds, what stands in the heap -/
local macro_rules | `(tactic| walk_at "bd") => `(tactic| first | exact bd_mod (by decide) | exact bd_64 (by decide) | exact bd_64 (by omega))
local macro_rules | `(tactic| walk_at "sa1") => `(tactic| first
  | walk_at "st"
  | (with_reducible refine L_mulI (Bd.cmul (n := 64) (m := 64) (by walk_at "bd") (by walk_at "bd")) ?_)
  | (with_reducible refine L_I (cdiv_lit (by first | decide | omega)) ?_)
  | (with_reducible refine L_powE (i := 10) (j := 9) (n := 1000000000) (cpow_lit (by decide)) (by decide) ?_)
  | (with_reducible refine L_powE (i := 10) (j := 6) (n := 1000000) (cpow_lit (by decide)) (by decide) ?_)
  | (with_reducible refine L_powE (i := 10) (j := 10) (n := 10000000000) (cpow_lit (by decide)) (by decide) ?_)
  | (with_reducible refine L_powE (i := 10) (j := 12) (n := 1000000000000) (cpow_lit (by decide)) (by decide) ?_)
  | (with_reducible refine L_powE (i := 10) (j := 13) (n := 10000000000000) (cpow_lit (by decide)) (by decide) ?_)
  | (with_reducible refine L_powE (i := 10) (j := 20) (n := 100000000000000000000) (cpow_lit (by decide)) (by decide) ?_)
  | (with_reducible refine L_powE (i := 10) (j := 29) (n := 100000000000000000000000000000) (cpow_lit (by decide)) (by decide) ?_)
  | (with_reducible refine L_powE (i := 10) (j := 30) (n := 1000000000000000000000000000000) (cpow_lit (by decide)) (by decide) ?_)
  | (with_reducible refine L_powE (i := 10) (j := 39) (n := 1000000000000000000000000000000000000000) (cpow_lit (by decide)) (by decide) ?_)
  | (with_reducible refine L_powE (i := 10) (j := 40) (n := 10000000000000000000000000000000000000000) (cpow_lit (by decide)) (by decide) ?_)
  | (with_reducible refine L_powE (i := 10) (j := 60) (n := 1000000000000000000000000000000000000000000000000000000000000) (cpow_lit (by decide)) (by decide) ?_)
  | (with_reducible refine L_powE (i := 2) (j := 40) (n := 1099511627776) (cpow_lit (by decide)) (by decide) ?_)
  | (with_reducible refine L_I (show _ < _ by first | decide | omega) ?_)
  | (with_reducible refine L_ixT (by walk_at "hpT") (by with_unfolding_all rfl) ?_)
  | (with_reducible refine L_ixL (by walk_at "hpL") (by with_unfolding_all rfl) ?_)
  | (with_reducible refine L_lenL (by walk_at "hpL") ?_)
  | (with_reducible refine L_lenT (by walk_at "hpT") ?_)
  | walk_at "fd"
  | (with_reducible refine L_methv (by walk_at "hp") (by with_unfolding_all rfl) ?_)
  | (with_reducible refine L_isi (.base (.int _)) (b := true) (by decide +kernel) ?_)
  | (with_reducible refine L_isi (.base (.int _)) (b := false) (by decide +kernel) ?_)
  | (with_reducible refine L_dT (by first | assumption | omega) ?_)
  | (with_reducible refine L_dF (by first | assumption | omega) ?_)
  | (with_reducible refine L_ndT (by first | assumption | omega) ?_)
  | (with_reducible refine L_ndF (by first | assumption | omega) ?_))
local macro_rules | `(tactic| walk_at "sa") => `(tactic| repeat walk_at "sa1")
/-! what stood stands -/
local macro_rules | `(tactic| walk_at "sm") => `(tactic| first
  | assumption
  | exact Same.refl _
  | (with_reducible apply same_upd'; assumption; walk_at "sm")
  | (with_reducible apply same_mut'; assumption; walk_at "sm")
  | (with_reducible apply same_via; assumption; walk_at "sm"))
/-! a new list or tuple: its place p, hp : H p = none, the heap behind it Hn, that all stands, what stands at p -/
local macro_rules | `(tactic| walk_at "nw") => `(tactic| (
  (refine L_new (by first | decide | exact sz_dec (by simp)) ?_)
  (intro p hp)
  (generalize hg : upd _ p _ = Hn)
  (have sn := same_newE hg hp)
  (have en := upd_at hg)
  (clear hg)))
/-! plain things as data -/
local macro_rules | `(tactic| walk_at "dpa") => `(tactic| first
  | exact .nil
  | (refine .cons (by first | exact .int _ | exact .str _ | exact .bl _ | exact .non | assumption) ?_; walk_at "dpa"))
local macro_rules | `(tactic| walk_at "nwp") => `(tactic| (
  (intro p hp)
  (generalize hg : upd _ p _ = Hn)
  (have sn := same_newE hg hp)
  (have en := upd_at hg)
  (clear hg)))

def top (i : Nat) : Stmt := PySem.Challenge.pw_fewspeak_k61_numbers_in_turns.main.body.getD i (.Pass ⟨0, 0, 0, 0⟩)
abbrev s__law_cell_at : Stmt := top 14
abbrev s__law_mix : Stmt := top 15
abbrev s__law_numbers : Stmt := top 16
abbrev s__law_marks : Stmt := top 17
abbrev s__law_turn : Stmt := top 18
abbrev s_is_whole : Stmt := top 4
abbrev s_need_number : Stmt := top 8
abbrev s_need_many : Stmt := top 9
abbrev s_Turn___init__ : Stmt := inClass (top 11) 0
abbrev s_need_numbers : Stmt := top 10
abbrev s_Turn_has : Stmt := inClass (top 11) 1
abbrev s_Turn_members : Stmt := inClass (top 11) 2
abbrev s_Turn_moved : Stmt := inClass (top 11) 3
abbrev s_picked : Stmt := top 12
abbrev s__law_bad : Stmt := top 19
abbrev s__law_refused : Stmt := top 20
abbrev s__law_told : Stmt := top 21
abbrev s__law_picked : Stmt := top 22
abbrev s_law : Stmt := top 23
theorem sc__law_cell_at : FnScope ["_law_script", "_law_k"] ["_law_script", "_law_k"] (defScope s__law_cell_at) := ⟨rfl, rfl, rfl, by decide +kernel, rfl, by decide +kernel, by decide +kernel⟩
theorem sc__law_mix : FnScope ["_law_cell", "_law_k", "_law_number"] ["_law_cell", "_law_k"] (defScope s__law_mix) := ⟨rfl, rfl, rfl, by decide +kernel, rfl, by decide +kernel, by decide +kernel⟩
theorem sc__law_numbers : FnScope ["_law_cell", "_law_digits", "_law_bases", "_law_numbers_here", "_law_k", "_law_base"] ["_law_cell", "_law_digits", "_law_bases"] (defScope s__law_numbers) := ⟨rfl, rfl, rfl, by decide +kernel, rfl, by decide +kernel, by decide +kernel⟩
theorem sc__law_marks : FnScope ["_law_start", "_law_many", "_law_marks_here", "_law_k"] ["_law_start", "_law_many"] (defScope s__law_marks) := ⟨rfl, rfl, rfl, by decide +kernel, rfl, by decide +kernel, by decide +kernel⟩
theorem sc__law_turn : FnScope ["_law_cell", "_law_digits", "_law_start", "_law_many", "_law_way"] ["_law_cell", "_law_digits"] (defScope s__law_turn) := ⟨rfl, rfl, rfl, by decide +kernel, rfl, by decide +kernel, by decide +kernel⟩
theorem sc_is_whole : FnScope ["thing", "low", "high"] ["thing", "low", "high"] (defScope s_is_whole) := ⟨rfl, rfl, rfl, by decide +kernel, rfl, by decide +kernel, by decide +kernel⟩
theorem sc_need_number : FnScope ["thing"] ["thing"] (defScope s_need_number) := ⟨rfl, rfl, rfl, by decide +kernel, rfl, by decide +kernel, by decide +kernel⟩
theorem sc_need_many : FnScope ["thing"] ["thing"] (defScope s_need_many) := ⟨rfl, rfl, rfl, by decide +kernel, rfl, by decide +kernel, by decide +kernel⟩
theorem sc_Turn___init__ : FnScope ["self", "start", "many"] ["self", "start", "many"] (defScope s_Turn___init__) := ⟨rfl, rfl, rfl, by decide +kernel, rfl, by decide +kernel, by decide +kernel⟩
theorem sc_need_numbers : FnScope ["thing", "number"] ["thing"] (defScope s_need_numbers) := ⟨rfl, rfl, rfl, by decide +kernel, rfl, by decide +kernel, by decide +kernel⟩
theorem sc_Turn_has : FnScope ["self", "number"] ["self", "number"] (defScope s_Turn_has) := ⟨rfl, rfl, rfl, by decide +kernel, rfl, by decide +kernel, by decide +kernel⟩
theorem sc_Turn_members : FnScope ["self", "numbers", "place", "number"] ["self", "numbers"] (defScope s_Turn_members) := ⟨rfl, rfl, rfl, by decide +kernel, rfl, by decide +kernel, by decide +kernel⟩
theorem sc_Turn_moved : FnScope ["self", "by"] ["self", "by"] (defScope s_Turn_moved) := ⟨rfl, rfl, rfl, by decide +kernel, rfl, by decide +kernel, by decide +kernel⟩
theorem sc_picked : FnScope ["start", "manys", "numbers", "many", "place"] ["start", "manys", "numbers"] (defScope s_picked) := ⟨rfl, rfl, rfl, by decide +kernel, rfl, by decide +kernel, by decide +kernel⟩
theorem sc__law_bad : FnScope ["_law_number", "_law_some"] ["_law_number"] (defScope s__law_bad) := ⟨rfl, rfl, rfl, by decide +kernel, rfl, by decide +kernel, by decide +kernel⟩
theorem sc__law_refused : FnScope ["_law_way", "_law_turn_here", "_law_thing", "_law_refused_here"] ["_law_way", "_law_turn_here", "_law_thing"] (defScope s__law_refused) := ⟨rfl, rfl, rfl, by decide +kernel, rfl, by decide +kernel, by decide +kernel⟩
theorem sc__law_told : FnScope ["_law_turn_here", "_law_numbers_here", "_law_marks_here", "_law_number", "_law_due", "_law_handed", "_law_found", "_law_has", "_law_k"] ["_law_turn_here", "_law_numbers_here", "_law_marks_here"] (defScope s__law_told) := ⟨rfl, rfl, rfl, by decide +kernel, rfl, by decide +kernel, by decide +kernel⟩
theorem sc__law_picked : FnScope ["_law_start", "_law_numbers_here", "_law_cell", "_law_digits", "_law_manys", "_law_due", "_law_k"] ["_law_start", "_law_numbers_here", "_law_cell", "_law_digits"] (defScope s__law_picked) := ⟨rfl, rfl, rfl, by decide +kernel, rfl, by decide +kernel, by decide +kernel⟩
theorem sc_law : FnScope ["_law_script", "_law_digits", "_law_k", "_law_cell", "_law_start", "_law_many", "_law_marks_here", "_law_turn_here", "_law_extra", "_law_numbers_here", "_law_by", "_law_moved"] ["_law_script"] (defScope s_law) := ⟨rfl, rfl, rfl, by decide +kernel, rfl, by decide +kernel, by decide +kernel⟩
/-- what the top has written -/
structure Txt (K : PySem.W.Frag) (mg : Str → Option Value) : Prop where
  n_len : mg "len" = none
  n_enumerate : mg "enumerate" = none
  n_range : mg "range" = none
  n_bool : mg "bool" = none
  n_int : mg "int" = none
  n_isinstance : mg "isinstance" = none
  g_CIRCLE : ∃ u, mg "CIRCLE" = some u ∧ RelV (.int 1000) u
  m_NoTurn : mg "NoTurn" = some (.ref (cA mg "NoTurn"))
  x_NoTurn : ExcAt K (cA mg "NoTurn")
  m_Turn : mg "Turn" = some (.ref (cA mg "Turn"))
  k_Turn : Cls K (cA mg "Turn")
  na_Turn_start : NoAttr K (cA mg "Turn") "start"
  na_Turn_many : NoAttr K (cA mg "Turn") "many"
  n_list : mg "list" = none
  g_MOST_TURNS : ∃ u, mg "MOST_TURNS" = some u ∧ RelV (.int 24) u
  y_NoTurn : ExcC K (cA mg "NoTurn")
  e_NoTurn_NoTurn : PySem.W.subIn K (.ref (cA mg "NoTurn")) (.ref (cA mg "NoTurn")) = some true
  d__law_cell_at : DefAt K mg "_law_cell_at" s__law_cell_at ["_law_script", "_law_k"]
  d__law_mix : DefAt K mg "_law_mix" s__law_mix ["_law_cell", "_law_k"]
  d__law_numbers : DefAt K mg "_law_numbers" s__law_numbers ["_law_cell", "_law_digits", "_law_bases"]
  d__law_marks : DefAt K mg "_law_marks" s__law_marks ["_law_start", "_law_many"]
  d__law_turn : DefAt K mg "_law_turn" s__law_turn ["_law_cell", "_law_digits"]
  d_is_whole : DefAt K mg "is_whole" s_is_whole ["thing", "low", "high"]
  d_need_number : DefAt K mg "need_number" s_need_number ["thing"]
  d_need_many : DefAt K mg "need_many" s_need_many ["thing"]
  i_Turn : InitAt K (cA mg "Turn") "Turn.__init__" s_Turn___init__ ["self", "start", "many"]
  d_need_numbers : DefAt K mg "need_numbers" s_need_numbers ["thing"]
  d_Turn_has : MethAt K (cA mg "Turn") "has" "Turn.has" s_Turn_has ["self", "number"]
  d_Turn_members : MethAt K (cA mg "Turn") "members" "Turn.members" s_Turn_members ["self", "numbers"]
  d_Turn_moved : MethAt K (cA mg "Turn") "moved" "Turn.moved" s_Turn_moved ["self", "by"]
  d_picked : DefAt K mg "picked" s_picked ["start", "manys", "numbers"]
  d__law_bad : DefAt K mg "_law_bad" s__law_bad ["_law_number"]
  d__law_refused : DefAt K mg "_law_refused" s__law_refused ["_law_way", "_law_turn_here", "_law_thing"]
  d__law_told : DefAt K mg "_law_told" s__law_told ["_law_turn_here", "_law_numbers_here", "_law_marks_here"]
  d__law_picked : DefAt K mg "_law_picked" s__law_picked ["_law_start", "_law_numbers_here", "_law_cell", "_law_digits"]
  d_law : DefAt K mg "law" s_law ["_law_script"]
section
variable {P : Program} {w : World} {K : PySem.W.Frag} {mg : Str → Option Value} {base : Heap}
theorem fd_Turn_start (T : Txt K mg) {H : Hp} {a dx : Addr} {fs : List (Str × V)} {v : V} {Q : V → Prop} (h : H a = some (.ins (cA mg "Turn") dx fs)) (l : fs.lookup ("start" : Str) = some v) (q : Q v) : ∃ a1 C dx fs v, V.ref a = V.ref a1 ∧ H a1 = some (.ins C dx fs) ∧ Cls K C ∧ NoAttr K C "start" ∧ fs.lookup ("start" : Str) = some v ∧ Q v := L_fldv h T.k_Turn T.na_Turn_start l q
local macro_rules | `(tactic| walk_at "fd") => `(tactic| with_reducible refine fd_Turn_start (by assumption) (by walk_at "hp") (by with_unfolding_all rfl) ?_)
theorem fd_Turn_many (T : Txt K mg) {H : Hp} {a dx : Addr} {fs : List (Str × V)} {v : V} {Q : V → Prop} (h : H a = some (.ins (cA mg "Turn") dx fs)) (l : fs.lookup ("many" : Str) = some v) (q : Q v) : ∃ a1 C dx fs v, V.ref a = V.ref a1 ∧ H a1 = some (.ins C dx fs) ∧ Cls K C ∧ NoAttr K C "many" ∧ fs.lookup ("many" : Str) = some v ∧ Q v := L_fldv h T.k_Turn T.na_Turn_many l q
local macro_rules | `(tactic| walk_at "fd") => `(tactic| with_reducible refine fd_Turn_many (by assumption) (by walk_at "hp") (by with_unfolding_all rfl) ?_)
/-! ### turns: marks and counts -/
def sumR (F : Nat → Int) : Nat → Int
  | 0 => 0
  | n + 1 => sumR F n + F n
theorem sumR_eq (F : Nat → Int) : ∀ n, ((List.range n).map F).sum = sumR F n
  | 0 => rfl
  | n + 1 => by
    rw [List.range_succ, List.map_append, List.sum_append, sumR_eq F n]
    simp [sumR]
theorem sumR_congr {F G : Nat → Int} : ∀ {n : Nat}, (∀ i, i < n → F i = G i) → sumR F n = sumR G n
  | 0, _ => rfl
  | n + 1, h => by
    show sumR F n + F n = sumR G n + G n
    rw [sumR_congr (n := n) fun i hi => h i (by omega), h n (by omega)]
/-- going round -/
theorem rot (G : Int → Int) (s : Nat) (hs : s < 1000) : sumR (fun j => G (((j : Int) - s) % 1000)) 1000 = sumR (fun t => G t) 1000 := by
  have A : ∀ n, n ≤ s → sumR (fun j => G (((j : Int) - s) % 1000)) n = sumR (fun t => G t) (1000 - s + n) - sumR (fun t => G t) (1000 - s) := by
    intro n
    induction n with
    | zero => intro _; simp [sumR]
    | succ n ih =>
      intro hn
      have e : ((n : Int) - s) % 1000 = ((1000 - s + n : Nat) : Int) := by omega
      show sumR _ n + G (((n : Int) - s) % 1000) = (sumR (fun t => G t) (1000 - s + n) + G ((1000 - s + n : Nat) : Int)) - _
      rw [ih (by omega), e]
      omega
  have B : ∀ n, s + n ≤ 1000 → sumR (fun j => G (((j : Int) - s) % 1000)) (s + n) = sumR (fun t => G t) 1000 - sumR (fun t => G t) (1000 - s) + sumR (fun t => G t) n := by
    intro n
    induction n with
    | zero =>
      intro _
      rw [Nat.add_zero, A s (Nat.le_refl s), show 1000 - s + s = 1000 by omega]
      simp [sumR]
    | succ n ih =>
      intro hn
      have e : (((s + n : Nat) : Int) - s) % 1000 = (n : Int) := by omega
      show sumR _ (s + n) + G ((((s + n : Nat) : Int) - s) % 1000) = _ - _ + (sumR (fun t => G t) n + G (n : Int))
      rw [ih (by omega), e]
      omega
  have h := B (1000 - s) (by omega)
  rw [show s + (1000 - s) = 1000 by omega] at h
  omega
/-- 1 for a number that is in the turn -/
def mk (s m j : Int) : Int := if (j - s) % 1000 < m then 1 else 0
def ov (s m s' m' : Int) : Int := max 0 (min m ((s' - s) % 1000 + m') - (s' - s) % 1000) + max 0 (min m ((s' - s) % 1000 + m' - 1000))
theorem cnt (m m' b : Int) (hm : 0 ≤ m ∧ m ≤ 1000) (hm' : 0 ≤ m' ∧ m' ≤ 1000) (hb : 0 ≤ b ∧ b < 1000) : ∀ n : Nat, n ≤ 1000 →
    sumR (fun t => (if (t : Int) < m then 1 else 0) * (if ((t : Int) - b) % 1000 < m' then 1 else 0)) n = max 0 (min (min (n : Int) m) (b + m') - b) + max 0 (min (min (n : Int) m) (b + m' - 1000)) := by
  intro n
  induction n with
  | zero => intro _; simp [sumR]; omega
  | succ n ih =>
    intro hn
    show sumR _ n + _ = _
    rw [ih (by omega)]
    by_cases h1 : (n : Int) < m
    · by_cases h2 : ((n : Int) - b) % 1000 < m'
      · simp only [if_pos h1, if_pos h2]
        omega
      · simp only [if_pos h1, if_neg h2]
        omega
    · simp only [if_neg h1]
      omega
theorem ov_eq {s m s' m' : Int} (hs : 0 ≤ s ∧ s < 1000) (hm : 0 ≤ m ∧ m ≤ 1000) (hs' : 0 ≤ s' ∧ s' < 1000) (hm' : 0 ≤ m' ∧ m' ≤ 1000) :
    ((List.range 1000).map fun j : Nat => mk s m (j : Int) * mk s' m' (j : Int)).sum = ov s m s' m' := by
  rw [sumR_eq]
  have hb := And.intro (Int.emod_nonneg (s' - s) (show (1000 : Int) ≠ 0 by decide)) (Int.emod_lt_of_pos (s' - s) (show (0 : Int) < 1000 by decide))
  have e : sumR (fun j => mk s m (j : Int) * mk s' m' (j : Int)) 1000 = sumR (fun j => (fun t : Int => (if t < m then 1 else 0) * (if (t - (s' - s) % 1000) % 1000 < m' then 1 else 0)) (((j : Int) - s.toNat) % 1000)) 1000 := by
    refine sumR_congr fun j _ => ?_
    have e1 : ((j : Int) - s.toNat) % 1000 = ((j : Int) - s) % 1000 := by omega
    have e2 : (((j : Int) - s) % 1000 - (s' - s) % 1000) % 1000 = ((j : Int) - s') % 1000 := by omega
    show mk s m j * mk s' m' j = (if ((j : Int) - s.toNat) % 1000 < m then 1 else 0) * (if (((j : Int) - s.toNat) % 1000 - (s' - s) % 1000) % 1000 < m' then 1 else 0)
    rw [e1, e2]
    rfl
  rw [e, rot (fun t : Int => (if t < m then 1 else 0) * (if (t - (s' - s) % 1000) % 1000 < m' then 1 else 0)) s.toNat (by omega), cnt m m' _ hm hm' hb 1000 (Nat.le_refl _)]
  unfold ov
  omega
theorem ov_comm {s m s' m' : Int} (hs : 0 ≤ s ∧ s < 1000) (hm : 0 ≤ m ∧ m ≤ 1000) (hs' : 0 ≤ s' ∧ s' < 1000) (hm' : 0 ≤ m' ∧ m' ≤ 1000) : ov s' m' s m = ov s m s' m' := by
  rw [← ov_eq hs hm hs' hm', ← ov_eq hs' hm' hs hm]
  congr 1
  refine List.map_congr_left fun j _ => Int.mul_comm _ _
theorem ov_self {s m : Int} (hm : 0 ≤ m ∧ m ≤ 1000) : ov s m s m = m := by
  unfold ov
  rw [Int.sub_self]
  omega
theorem mk_set {s : Int} {i : Nat} (hs : 0 ≤ s ∧ s < 1000) (hi : i < 1000) : (((List.range 1000).map fun j : Nat => mk s (i : Int) (j : Int)).map V.int).set ((s + i) % 1000).toNat (.int 1) = ((List.range 1000).map fun j : Nat => mk s ((i + 1 : Nat) : Int) (j : Int)).map V.int := by
  apply List.ext_getElem
  · simp
  · intro j h1 h2
    simp only [List.length_set, List.length_map, List.length_range] at h1
    rw [List.getElem_set]
    simp only [List.getElem_map, List.getElem_range]
    unfold mk
    by_cases h : ((s + i) % 1000).toNat = j
    · rw [if_pos h, if_pos (by omega)]
    · rw [if_neg h]
      by_cases h3 : ((j : Int) - s) % 1000 < (i : Int)
      · rw [if_pos h3, if_pos (by omega)]
      · rw [if_neg h3, if_neg (by omega)]
theorem mk_zero (s : Int) : (List.replicate 1000 [V.int 0]).flatten = ((List.range 1000).map fun j : Nat => mk s ((0 : Nat) : Int) (j : Int)).map V.int := by
  rw [List.map_map]
  have e : (V.int ∘ fun j : Nat => mk s ((0 : Nat) : Int) (j : Int)) = fun _ => V.int 0 := by
    funext j
    show V.int (mk s 0 j) = _
    unfold mk
    rw [if_neg (by omega)]
  rw [e, List.map_const', List.length_range]
  have : ∀ n, (List.replicate n [V.int 0]).flatten = List.replicate n (V.int 0) := fun n => by
    induction n with
    | zero => rfl
    | succ n ih => rw [List.replicate_succ, List.flatten_cons, ih]; rfl
  exact this 1000
theorem common_eq {s m s' m' : Int} (hs : 0 ≤ s ∧ s < 1000) (hm : 0 ≤ m ∧ m ≤ 1000) (hs' : 0 ≤ s' ∧ s' < 1000) (hm' : 0 ≤ m' ∧ m' ≤ 1000) : ((List.range m.toNat).map fun k : Nat => mk s' m' ((s + k) % 1000)).sum = ov s m s' m' := by
  rw [sumR_eq]
  have hb := And.intro (Int.emod_nonneg (s' - s) (show (1000 : Int) ≠ 0 by decide)) (Int.emod_lt_of_pos (s' - s) (show (0 : Int) < 1000 by decide))
  have e : sumR (fun k => mk s' m' ((s + k) % 1000)) m.toNat = sumR (fun t => (if (t : Int) < m then 1 else 0) * (if ((t : Int) - (s' - s) % 1000) % 1000 < m' then 1 else 0)) m.toNat := by
    refine sumR_congr fun i hi => ?_
    rw [if_pos (show (i : Int) < m by omega), Int.one_mul]
    unfold mk
    rw [show ((s + (i : Int)) % 1000 - s') % 1000 = ((i : Int) - (s' - s) % 1000) % 1000 by omega]
  rw [e, cnt m m' _ hm hm' hb _ (by omega)]
  unfold ov
  omega
/-! the law's mixing of a cell -/
def mix (c k : Int) : Int :=
  let a := (c % 2147483629 + 7919 * k + 101) * 48271 % 2147483647
  let b := a * a % 2147483629
  b * (b + 7) % 2147483587
theorem mix_b (c k : Int) : 0 ≤ mix c k ∧ mix c k < 2147483587 := by
  unfold mix
  exact ⟨Int.emod_nonneg _ (by decide), Int.emod_lt_of_pos _ (by decide)⟩
def sp__law_cell_at (K : PySem.W.Frag) (mg : Str → Option Value) : Sp := fun vs H Q _ => match vs with | [.ref a, .int k] => ∃ ns : List Int, SqL K H a (ns.map V.int) ∧ 0 ≤ k ∧ Q (.int (cellAt ns k 0)) H | _ => False
theorem q__law_cell_at {H : Hp} {Q : VK} {E : XK} {a : Addr} {k : Int} (q : ∃ ns : List Int, SqL K H a (ns.map V.int) ∧ 0 ≤ k ∧ Q (.int (cellAt ns k 0)) H) : sp__law_cell_at K mg [.ref a, .int k] H Q E := q
local macro_rules | `(tactic| walk_at "op") => `(tactic| with_reducible refine q__law_cell_at ?_)
theorem c__law_cell_at (T : Txt K mg) : Cal P w K mg base 1 "_law_cell_at" (sp__law_cell_at K mg) := by
  refine T.d__law_cell_at.cal (k := 0) sc__law_cell_at (by intro vs H Q E h; unfold sp__law_cell_at at h; split at h <;> first | rfl | exact h.elim) fun f cdv A outer s H vs Q E hr h => ?_
  refine ⟨_, (pss_cons (ps_if (pt_cmpR op_ltA (pv 1) (pe_callB call_lenA (by rfl) T.n_len (by decide +kernel) (pa_cons (pv 0) pa_nil)) (nomark _))
    (pss_one (ps_ret (pe_ix ix_seq (pv 0) (pv 1) (fun _ _ => rfl))))
    pss_nil)
    (pss_one (ps_ret pe_int))), ?_⟩
  try simp only [cxOf_K, cxOf_K', cxOf_mg, cxOf_mg']
  unfold sp__law_cell_at at h
  split at h
  case h_2 => exact h.elim
  rename_i a k
  rw [show L2.start ["_law_script", "_law_k"] [V.ref a, V.int k] = [some (V.ref a), some (V.int k)] from rfl]
  obtain ⟨ns, hS, hk, q⟩ := h
  walk_at "sa"
  rw [List.length_map]
  refine L_d (fun c => ?_) (fun c => ?_)
  · walk_at "sts"
    exact L_ixL hS (cellAt_in hk c) q
  · walk_at "sts"
    rw [cellAt_out c] at q
    exact q
def sp__law_mix (K : PySem.W.Frag) (mg : Str → Option Value) : Sp := fun vs H Q _ => match vs with | [.int c, .int k] => 0 ≤ k ∧ k < 1000000 ∧ Q (.int (mix c k)) H | _ => False
theorem q__law_mix {H : Hp} {Q : VK} {E : XK} {c : Int} {k : Int} (q : 0 ≤ k ∧ k < 1000000 ∧ Q (.int (mix c k)) H) : sp__law_mix K mg [.int c, .int k] H Q E := q
local macro_rules | `(tactic| walk_at "op") => `(tactic| with_reducible refine q__law_mix ?_)
theorem c__law_mix (T : Txt K mg) : Cal P w K mg base 1 "_law_mix" (sp__law_mix K mg) := by
  refine T.d__law_mix.cal (k := 0) sc__law_mix (by intro vs H Q E h; unfold sp__law_mix at h; split at h <;> first | rfl | exact h.elim) fun f cdv A outer s H vs Q E hr h => ?_
  refine ⟨_, (pss_cons (ps_set (i := 2) sc__law_mix.nd rfl (.inl rfl) (pe_op op_mod (pe_op op_mulA (pe_op op_addA (pe_op op_addA (pe_op op_mod (pv 0) pe_int) (pe_op op_mulA pe_int (pv 1))) pe_int) pe_int) pe_int))
    (pss_cons (ps_set (i := 2) sc__law_mix.nd rfl (.inl rfl) (pe_op op_mod (pe_op op_mulA (pv 2) (pv 2)) pe_int))
    (pss_one (ps_ret (pe_op op_mod (pe_op op_mulA (pv 2) (pe_op op_addA (pv 2) pe_int)) pe_int))))), ?_⟩
  try simp only [cxOf_K, cxOf_K', cxOf_mg, cxOf_mg']
  unfold sp__law_mix at h
  split at h
  case h_2 => exact h.elim
  rename_i c k
  rw [show L2.start ["_law_cell", "_law_k", "_law_number"] [V.int c, V.int k] = [some (V.int c), some (V.int k), none] from rfl]
  obtain ⟨hk, hk2, q⟩ := h
  walk_at "sa"
  exact q
/-- what the law takes of a cell, base by base -/
def nums (d : Bool) : Int → Nat → List Int → List Int
  | _, _, [] => []
  | c, k, b :: r => if d = true then (c % b) :: nums d (c / b) (k + 1) r else (mix c (3 + (k : Int)) % b) :: nums d c (k + 1) r
theorem nums_len (d : Bool) : ∀ (bs : List Int) (c : Int) (k : Nat), (nums d c k bs).length = bs.length
  | [], _, _ => rfl
  | b :: r, c, k => by
    unfold nums
    split
    · rw [List.length_cons, List.length_cons, nums_len d r]
    · rw [List.length_cons, List.length_cons, nums_len d r]
theorem nums_b (d : Bool) : ∀ (bs : List Int) (c : Int) (k : Nat), (∀ b ∈ bs, 0 < b) → ∀ (i : Nat) (z b : Int), (nums d c k bs)[i]? = some z → bs[i]? = some b → 0 ≤ z ∧ z < b
  | [], _, _, _, i, z, b, h, _ => by simp [nums] at h
  | b :: r, c, k, hb, i, z, b', h, h' => by
    have h0 := hb b (List.mem_cons_self ..)
    have hr : ∀ x ∈ r, 0 < x := fun x hx => hb x (List.mem_cons_of_mem _ hx)
    unfold nums at h
    split at h
    · cases i with
      | zero =>
        simp at h h'
        subst h; subst h'
        exact ⟨Int.emod_nonneg _ (by omega), Int.emod_lt_of_pos _ h0⟩
      | succ i => exact nums_b d r _ _ hr i z b' (by simpa using h) (by simpa using h')
    · cases i with
      | zero =>
        simp at h h'
        subst h; subst h'
        exact ⟨Int.emod_nonneg _ (by omega), Int.emod_lt_of_pos _ h0⟩
      | succ i => exact nums_b d r _ _ hr i z b' (by simpa using h) (by simpa using h')
def sp__law_numbers (K : PySem.W.Frag) (mg : Str → Option Value) : Sp := fun vs H Q _ => match vs with | [.int c, .bl d, .ref l] => ∃ bs : List Int, H l = some (.lst (bs.map V.int)) ∧ bs.length ≤ 1000 ∧ (∀ b ∈ bs, 0 < b ∧ b < 18446744073709551616) ∧ NewL H ((nums d c 0 bs).map V.int) Q | _ => False
theorem q__law_numbers {H : Hp} {Q : VK} {E : XK} {c : Int} {d : Bool} {l : Addr} (q : ∃ bs : List Int, H l = some (.lst (bs.map V.int)) ∧ bs.length ≤ 1000 ∧ (∀ b ∈ bs, 0 < b ∧ b < 18446744073709551616) ∧ NewL H ((nums d c 0 bs).map V.int) Q) : sp__law_numbers K mg [.int c, .bl d, .ref l] H Q E := q
local macro_rules | `(tactic| walk_at "op") => `(tactic| with_reducible refine q__law_numbers ?_)
theorem c__law_numbers (T : Txt K mg) : Cal P w K mg base 2 "_law_numbers" (sp__law_numbers K mg) := by
  refine T.d__law_numbers.cal (k := 1) sc__law_numbers (by intro vs H Q E h; unfold sp__law_numbers at h; split at h <;> first | rfl | exact h.elim) fun f cdv A outer s H vs Q E hr h => ?_
  refine ⟨_, (pss_cons (ps_set (i := 3) sc__law_numbers.nd rfl (.inl rfl) (pe_lst pa_nil))
    (pss_cons (ps_for PassesOwn.never rfl (pi_enum (by rfl) T.n_enumerate (pa_cons (pv 2) pa_nil)) (pg_tup rfl (pgs_cons (pg_name (i := 4) sc__law_numbers.nd rfl (.inl rfl)) (pgs_cons (pg_name (i := 5) sc__law_numbers.nd rfl (.inl rfl)) pgs_nil)))
    (pss_one (ps_if (pt_tru (pv 1) (by intro _; rfl))
    (pss_cons (ps_expr (pe_bm PySem.F.plainAttrs_list PySem.F.slot_list_append PySem.F.type_list_append mt_append (pv 3) (pa_cons (pe_op op_mod (pv 0) (pv 5)) pa_nil)))
    (pss_one (ps_set (i := 0) sc__law_numbers.nd rfl (.inl rfl) (pe_op op_fdivW (pv 0) (pv 5)))))
    (pss_one (ps_expr (pe_bm PySem.F.plainAttrs_list PySem.F.slot_list_append PySem.F.type_list_append mt_append (pv 3) (pa_cons (pe_op op_mod (pe_c (c__law_mix T) hr (by decide) (by rfl) (pa_cons (pv 0) (pa_cons (pe_op op_addA pe_int (pv 4)) pa_nil))) (pv 5)) pa_nil)))))))
    (pss_one (ps_ret (pv 3))))), ?_⟩
  try simp only [cxOf_K, cxOf_K', cxOf_mg, cxOf_mg']
  unfold sp__law_numbers at h
  split at h
  case h_2 => exact h.elim
  rename_i c d l
  rw [show L2.start ["_law_cell", "_law_digits", "_law_bases", "_law_numbers_here", "_law_k", "_law_base"] [V.int c, V.bl d, V.ref l] = [some (V.int c), some (V.bl d), some (V.ref l), none, none, none] from rfl]
  obtain ⟨bs, hl, hb, hp, q⟩ := h
  walk_at "sa"
  refine L_new (by decide) fun p hpn => ?_
  walk_at "sa"
  refine L_re (.of (hp_new hpn hl)) ?_
  refine f_it walk_enum (fun i σ' H' => ∃ (c' : Int) (done : List Int) (v1 v2 : Option V), σ' = [some (.int c'), some (.bl d), some (.ref l), some (.ref p), v1, v2] ∧ Same H H' ∧ H' p = some (.lst (done.map V.int)) ∧ done.length = i ∧ nums d c 0 bs = done ++ nums d c' i (bs.drop i)) ⟨c, [], none, none, rfl, same_new hpn, upd_same, rfl, rfl⟩ (fun i σ' H' _ ⟨_, _, _, _, _, s, _⟩ => .of (s _ _ hl)) ?_ ?_
  · rintro i x σ' H' H'' hi ⟨c', done, v1, v2, rfl, s, hd, hlen, e⟩ ⟨T, k0, b0, rfl, hT, rfl, hk, hbv⟩
    cases hk
    rw [List.length_map] at hi
    replace hbv : (bs.map V.int)[i]? = some b0 := hbv
    rw [List.getElem?_map, List.getElem?_eq_getElem hi] at hbv
    cases hbv
    have hb0 := hp bs[i] (List.getElem_mem hi)
    have e2 : bs.drop i = bs[i] :: bs.drop (i + 1) := List.drop_eq_getElem_cons hi
    refine L_gTup (.of upd_same) rfl ?_
    have s2 := same_upd (o := HO.tup [V.int (i : Int), V.int bs[i]]) s hT
    have hd2 := hp_new (o := HO.tup [V.int (i : Int), V.int bs[i]]) hT hd
    walk_at "sts"
    refine L_b (fun hdt => ?_) (fun hdt => ?_)
    · walk_at "sts"
      refine L_tyL (.of hd2) ?_
      walk_at "sts"
      refine L_I hb0.1 ?_
      walk_at "sts"
      refine L_app hd2 (by rw [List.length_map]; exact sz_lt (by omega)) ?_
      walk_at "sts"
      refine L_I ((bd_64 (by omega)).cdiv hb0.1) ?_
      walk_at "sts"
      refine ⟨c' / bs[i], done ++ [c' % bs[i]], _, _, rfl, fun b o hbo => ?_, by rw [List.map_append]; exact upd_same, by simp [hlen], ?_⟩
      · rw [upd_ne (ne_of_none hbo hpn)]; exact s2 _ _ hbo
      · rw [e, e2, nums, if_pos hdt, List.append_assoc]; rfl
    · walk_at "sts"
      refine L_tyL (.of hd2) ?_
      walk_at "sts"
      refine ⟨by omega, by omega, ?_⟩
      walk_at "sts"
      refine L_I hb0.1 ?_
      walk_at "sts"
      refine L_app hd2 (by rw [List.length_map]; exact sz_lt (by omega)) ?_
      walk_at "sts"
      refine ⟨c', done ++ [mix c' (3 + (i : Int)) % bs[i]], _, _, rfl, fun b o hbo => ?_, by rw [List.map_append]; exact upd_same, by simp [hlen], ?_⟩
      · rw [upd_ne (ne_of_none hbo hpn)]; exact s2 _ _ hbo
      · rw [e, e2, nums, if_neg (by simp [hdt]), List.append_assoc]; rfl
  · rintro σ' H' ⟨c', done, v1, v2, rfl, s, hd, hlen, e⟩
    walk_at "sts"
    rw [List.length_map, List.drop_length, nums, List.append_nil] at e
    rw [← e] at hd
    exact q p H' hpn s hd
def sp__law_marks (K : PySem.W.Frag) (mg : Str → Option Value) : Sp := fun vs H Q _ => match vs with | [.int s, .int m] => 0 ≤ s ∧ s < 1000 ∧ 0 ≤ m ∧ m ≤ 1000 ∧ NewL H (((List.range 1000).map fun j : Nat => mk s m (j : Int)).map V.int) Q | _ => False
theorem q__law_marks {H : Hp} {Q : VK} {E : XK} {s : Int} {m : Int} (q : 0 ≤ s ∧ s < 1000 ∧ 0 ≤ m ∧ m ≤ 1000 ∧ NewL H (((List.range 1000).map fun j : Nat => mk s m (j : Int)).map V.int) Q) : sp__law_marks K mg [.int s, .int m] H Q E := q
local macro_rules | `(tactic| walk_at "op") => `(tactic| with_reducible refine q__law_marks ?_)
theorem c__law_marks (T : Txt K mg) : Cal P w K mg base 1 "_law_marks" (sp__law_marks K mg) := by
  refine T.d__law_marks.cal (k := 0) sc__law_marks (by intro vs H Q E h; unfold sp__law_marks at h; split at h <;> first | rfl | exact h.elim) fun f cdv A outer s H vs Q E hr h => ?_
  refine ⟨_, (pss_cons (ps_set (i := 2) sc__law_marks.nd rfl (.inl rfl) (pe_op op_mulA (pe_lst (pa_cons pe_int pa_nil)) pe_int))
    (pss_cons (ps_for PassesOwn.never rfl (pi_range1 (by rfl) T.n_range (pa_cons (pv 1) pa_nil)) (pg_name (i := 3) sc__law_marks.nd rfl (.inl rfl))
    (pss_one (ps_asg pe_int (pg_sub (pv 2) (pe_op op_mod (pe_op op_addA (pv 0) (pv 3)) pe_int) set_list))))
    (pss_one (ps_ret (pv 2))))), ?_⟩
  try simp only [cxOf_K, cxOf_K', cxOf_mg, cxOf_mg']
  unfold sp__law_marks at h
  split at h
  case h_2 => exact h.elim
  rename_i s m
  rw [show L2.start ["_law_start", "_law_many", "_law_marks_here", "_law_k"] [V.int s, V.int m] = [some (V.int s), some (V.int m), none, none] from rfl]
  obtain ⟨hs, hs2, hm, hm2, q⟩ := h
  walk_at "sa"
  refine L_new (by decide) fun p0 hp0 => ?_
  walk_at "sa"
  refine L_repL upd_same (by decide) (by decide) (sz_dec (by decide)) fun p hp => ?_
  have s1 := same_upd (o := HO.lst (List.replicate (1000 : Int).toNat [V.int 0]).flatten) (same_new (o := HO.lst [V.int 0]) hp0) hp
  walk_at "sa"
  refine L_r1 (by omega) (by omega) ?_
  refine f_range (fun i σ' H' => ∃ v1 : Option V, σ' = [some (.int s), some (.int m), some (.ref p), v1] ∧ Same H H' ∧ H' p = some (.lst (((List.range 1000).map fun j : Nat => mk s (i : Int) (j : Int)).map V.int))) ⟨none, rfl, s1, ?_⟩ ?_ ?_
  · rw [upd_same]
    exact congrArg (fun x => some (HO.lst x)) (mk_zero s)
  · rintro i σ' H' hi ⟨v1, rfl, s2, hp2⟩
    walk_at "sa"
    refine L_setL hp2 (ixN_of (by omega) (by rw [List.length_map, List.length_map, List.length_range]; omega)) ?_
    refine ⟨_, rfl, fun b o hb => ?_, ?_⟩
    · rw [upd_ne (fun e => ?_)]
      · exact s2 _ _ hb
      · rw [e] at hb
        rw [(same_new (o := HO.lst [V.int 0]) hp0).free hp] at hb
        cases hb
    · rw [upd_same]
      have e := mk_set (s := s) (i := i) ⟨hs, hs2⟩ (by omega)
      have e0 : (0 : Int) + (i : Int) = (i : Int) := Int.zero_add _
      rw [e0]
      exact congrArg (fun x => some (HO.lst x)) e
  · rintro σ' H' ⟨v1, rfl, s2, hp2⟩
    walk_at "sa"
    refine q p H' ((same_new (o := HO.lst [V.int 0]) hp0).free hp) s2 ?_
    rw [hp2, show ((m.toNat : Nat) : Int) = m by omega]
theorem nums3 {d : Bool} {c : Int} : ∃ s m w, nums d c 0 [1000, 1001, 8] = [s, m, w] ∧ (0 ≤ s ∧ s < 1000) ∧ (0 ≤ m ∧ m < 1001) ∧ (0 ≤ w ∧ w < 8) := by
  have hl := nums_len d [1000, 1001, 8] c 0
  have hb := nums_b d [1000, 1001, 8] c 0 (by decide)
  generalize nums d c 0 [1000, 1001, 8] = l at *
  match l, hl with
  | [s, m, w], _ => exact ⟨s, m, w, rfl, hb 0 s 1000 rfl rfl, hb 1 m 1001 rfl rfl, hb 2 w 8 rfl rfl⟩
def sp__law_turn (K : PySem.W.Frag) (mg : Str → Option Value) : Sp := fun vs H Q _ => match vs with | [.int c, .bl d] => ∀ s m, 0 ≤ s → s < 1000 → 0 ≤ m → m ≤ 1000 → NewT H [.int s, .int m] Q | _ => False
theorem q__law_turn {H : Hp} {Q : VK} {E : XK} {c : Int} {d : Bool} (q : ∀ s m, 0 ≤ s → s < 1000 → 0 ≤ m → m ≤ 1000 → NewT H [.int s, .int m] Q) : sp__law_turn K mg [.int c, .bl d] H Q E := q
local macro_rules | `(tactic| walk_at "op") => `(tactic| with_reducible refine q__law_turn ?_)
theorem c__law_turn (T : Txt K mg) : Cal P w K mg base 3 "_law_turn" (sp__law_turn K mg) := by
  refine T.d__law_turn.cal (k := 2) sc__law_turn (by intro vs H Q E h; unfold sp__law_turn at h; split at h <;> first | rfl | exact h.elim) fun f cdv A outer s H vs Q E hr h => ?_
  refine ⟨_, (pss_cons (ps_asg (pe_c (c__law_numbers T) hr (by decide) (by rfl) (pa_cons (pv 0) (pa_cons (pv 1) (pa_cons (pe_lst (pa_cons pe_int (pa_cons pe_int (pa_cons pe_int pa_nil)))) pa_nil)))) (pg_lst rfl (pgs_cons (pg_name (i := 2) sc__law_turn.nd rfl (.inl rfl)) (pgs_cons (pg_name (i := 3) sc__law_turn.nd rfl (.inl rfl)) (pgs_cons (pg_name (i := 4) sc__law_turn.nd rfl (.inl rfl)) pgs_nil)))))
    (Evl.pss_cut (ps_if (pt_cmpR (op_eqA hr) (pv 4) pe_int (nomark _))
    (pss_one (ps_set (i := 3) sc__law_turn.nd rfl (.inl rfl) (pe_ix ix_seq (pe_lst (pa_cons pe_int (pa_cons pe_int (pa_cons pe_int (pa_cons pe_int (pa_cons pe_int (pa_cons pe_int (pa_cons pe_int (pa_cons pe_int pa_nil))))))))) (pe_op op_mod (pv 3) pe_int) (fun _ _ => rfl))))
    pss_nil)
    (pss_cons (ps_if (pt_cmpR (op_eqA hr) (pv 4) pe_int (nomark _))
    (pss_one (ps_set (i := 3) sc__law_turn.nd rfl (.inl rfl) (pe_op op_mod (pv 3) pe_int)))
    pss_nil)
    (pss_one (ps_ret (pe_tup (pa_cons (pv 2) (pa_cons (pv 3) pa_nil)))))))), ?_⟩
  try simp only [cxOf_K, cxOf_K', cxOf_mg, cxOf_mg']
  unfold sp__law_turn at h
  split at h
  case h_2 => exact h.elim
  rename_i c d
  rw [show L2.start ["_law_cell", "_law_digits", "_law_start", "_law_many", "_law_way"] [V.int c, V.bl d] = [some (V.int c), some (V.bl d), none, none, none] from rfl]
  walk_at "sa"
  refine L_new (by decide) fun p0 hp0 => ?_
  walk_at "sa"
  refine ⟨[1000, 1001, 8], upd_same, by decide, by decide, fun p H1 hp s1 e1 => ?_⟩
  obtain ⟨s, m, way, e, hs, hm, hw⟩ := nums3 (d := d) (c := c)
  rw [e] at e1
  replace e1 : H1 p = some (HO.lst [V.int s, V.int m, V.int way]) := e1
  refine L_gLst (.of e1) rfl ?_
  walk_at "sts"
  refine L_cut (Mid := fun σ' H' => ∃ m' : Int, 0 ≤ m' ∧ m' ≤ 1000 ∧ σ' = [some (.int c), some (.bl d), some (.int s), some (.int m'), some (.int way)] ∧ Same H H') ?_ ?_
  · walk_at "sts"
    have s2 := (same_new (o := HO.lst [V.int 1000, V.int 1001, V.int 8]) hp0).trans s1
    refine L_d (fun c => ?_) (fun c => ?_)
    · walk_at "sts"
      refine L_new (by decide) fun p2 hp2 => ?_
      walk_at "sa"
      have z0 := Int.emod_nonneg m (show (8 : Int) ≠ 0 by decide)
      have z1 := Int.emod_lt_of_pos m (show (0 : Int) < 8 by decide)
      have z2 : ∀ k : Nat, k < 8 → 0 ≤ [0, 1, 999, 1000, 500, 2, 998, 10].getD k (0 : Int) ∧ [0, 1, 999, 1000, 500, 2, 998, 10].getD k (0 : Int) ≤ 1000 := by decide
      refine L_ixL (.of upd_same) (atI_ints (xs := [0, 1, 999, 1000, 500, 2, 998, 10]) z0 z1) ?_
      walk_at "sts"
      exact ⟨_, (z2 _ (by omega)).1, (z2 _ (by omega)).2, rfl, same_upd s2 hp2⟩
    · walk_at "sts"
      exact ⟨m, by omega, by omega, rfl, s2⟩
  · rintro σ' H' ⟨m', m0, m1, rfl, s2⟩
    walk_at "sts"
    refine L_d (fun c => ?_) (fun c => ?_)
    · walk_at "sa"
      exact L_nw ((h s (m' % 40) (by omega) (by omega) (by omega) (by omega)).of s2).at
    · walk_at "sa"
      exact L_nw ((h s m' (by omega) (by omega) (by omega) (by omega)).of s2).at
def sp_is_whole (K : PySem.W.Frag) (mg : Str → Option Value) : Sp := fun vs H Q _ => match vs with | [v, .int lo, .int hi] => (∃ t, v = .int t ∧ Q (.bl (decide (lo ≤ t) && decide (t ≤ hi))) H) ∨ (NotW K H v ∧ Q (.bl false) H) | _ => False
theorem c_is_whole (T : Txt K mg) : Cal P w K mg base 1 "is_whole" (sp_is_whole K mg) := by
  refine T.d_is_whole.cal (k := 0) sc_is_whole (by intro vs H Q E h; unfold sp_is_whole at h; split at h <;> first | rfl | exact h.elim) fun f cdv A outer s H vs Q E hr h => ?_
  refine ⟨_, (pss_cons (ps_if (PW.pt (pw_or (pt_not (pt_val (pe_callB call_isi (by rfl) T.n_isinstance (by decide +kernel) (pa_cons (pv 0) (pa_cons (pe_ty "int" (by rfl) T.n_int (by decide +kernel)) pa_nil))))) (pw_or1 (pt_val (pe_callB call_isi (by rfl) T.n_isinstance (by decide +kernel) (pa_cons (pv 0) (pa_cons (pe_ty "bool" (by rfl) T.n_bool (by decide +kernel)) pa_nil)))))))
    (pss_one (ps_ret pe_bl))
    pss_nil)
    (pss_one (ps_ret (pe_chain op_leA op_leA (pv 1) (pv 0) (pv 2))))), ?_⟩
  try simp only [cxOf_K, cxOf_K', cxOf_mg, cxOf_mg']
  unfold sp_is_whole at h
  split at h
  case h_2 => exact h.elim
  rename_i v lo hi
  rw [show L2.start ["thing", "low", "high"] [v, V.int lo, V.int hi] = [some (v), some (V.int lo), some (V.int hi)] from rfl]
  rcases h with ⟨t, rfl, q⟩ | ⟨⟨b, rfl⟩ | ⟨ty, h1, h2⟩, q⟩
  · walk_at "sa"
    refine L_d (fun c1 => ?_) (fun c1 => ?_)
    · rw [decide_eq_true c1, Bool.true_and] at q
      walk_at "sts"
      exact q
    · rw [decide_eq_false c1, Bool.false_and] at q
      exact q
  · walk_at "sts"
    refine L_isi (.base (.bl b)) (b := true) (by decide +kernel) ?_
    walk_at "sts"
    refine L_isi (.base (.bl b)) (b := true) (by decide +kernel) ?_
    walk_at "sts"
    exact q
  · walk_at "sts"
    refine L_isi h1 h2 ?_
    walk_at "sts"
    exact q
theorem q_whole {H : Hp} {Q : VK} {E : XK} {t lo hi : Int} (q : Q (.bl (decide (lo ≤ t) && decide (t ≤ hi))) H) : sp_is_whole K mg [.int t, .int lo, .int hi] H Q E := .inl ⟨t, rfl, q⟩
theorem q_wholeT {H : Hp} {Q : VK} {E : XK} {t lo hi : Int} (h : lo ≤ t ∧ t ≤ hi) (q : Q (.bl true) H) : sp_is_whole K mg [.int t, .int lo, .int hi] H Q E := q_whole (by rw [decide_eq_true h.1, decide_eq_true h.2]; exact q)
theorem q_wholeF {H : Hp} {Q : VK} {E : XK} {t lo hi : Int} (h : ¬ (lo ≤ t ∧ t ≤ hi)) (q : Q (.bl false) H) : sp_is_whole K mg [.int t, .int lo, .int hi] H Q E := q_whole (by
  rw [show (decide (lo ≤ t) && decide (t ≤ hi)) = false by simp only [Bool.and_eq_false_iff, decide_eq_false_iff_not]; omega]; exact q)
theorem q_wholeN {H : Hp} {Q : VK} {E : XK} {v : V} {lo hi : Int} (h : NotW K H v) (q : Q (.bl false) H) : sp_is_whole K mg [v, .int lo, .int hi] H Q E := .inr ⟨h, q⟩
theorem q_wholeB {H : Hp} {Q : VK} {E : XK} {v : V} {lo hi : Int} (h : BadW K H v lo hi) (q : Q (.bl false) H) : sp_is_whole K mg [v, .int lo, .int hi] H Q E := by
  rcases h with h | ⟨t, rfl, h⟩
  · exact q_wholeN h q
  · exact q_wholeF h q
local macro_rules | `(tactic| walk_at "op") => `(tactic| with_reducible first | refine q_wholeT (by omega) ?_ | refine q_wholeF (by omega) ?_ | refine q_whole ?_)
def sp_need_number (K : PySem.W.Frag) (mg : Str → Option Value) : Sp := fun vs H Q E => match vs with | [v] => (∃ t, v = .int t ∧ 0 ≤ t ∧ t < 1000 ∧ Q .non H) ∨ (BadW K H v 0 999 ∧ E (.ref (cA mg "NoTurn")) none H) | _ => False
theorem q_need_number {H : Hp} {Q : VK} {E : XK} {v : V} (q : (∃ t, v = .int t ∧ 0 ≤ t ∧ t < 1000 ∧ Q .non H) ∨ (BadW K H v 0 999 ∧ E (.ref (cA mg "NoTurn")) none H)) : sp_need_number K mg [v] H Q E := q
local macro_rules | `(tactic| walk_at "op") => `(tactic| with_reducible refine q_need_number ?_)
theorem c_need_number (T : Txt K mg) : CalX P w K mg base 2 "need_number" (sp_need_number K mg) := by
  refine T.d_need_number.calX (k := 1) sc_need_number (by intro vs H Q E h; unfold sp_need_number at h; split at h <;> first | rfl | exact h.elim) fun f cdv A outer s H vs Q E hr h => ?_
  refine ⟨_, (pss_one (ps_if (pt_not (pt_val (pe_c (c_is_whole T) hr (by decide) (by rfl) (pa_cons (pv 0) (pa_cons pe_int (pa_cons (pe_op op_sub (pe_gc (by rfl) T.g_CIRCLE) pe_int) pa_nil))))))
    (pss_one (ps_raise rfl (takes_of rfl rfl rfl rfl) (pmk_own0 T.x_NoTurn T.m_NoTurn (by rfl))))
    pss_nil)), ?_⟩
  try simp only [cxOf_K, cxOf_K', cxOf_mg, cxOf_mg']
  unfold sp_need_number at h
  split at h
  case h_2 => exact h.elim
  rename_i v
  rw [show L2.start ["thing"] [v] = [some (v)] from rfl]
  rcases h with ⟨t, rfl, h1, h2, q⟩ | ⟨h1, q⟩
  · walk_at "sa"
    exact q
  · walk_at "sa"
    refine q_wholeB h1 ?_
    walk_at "sa"
    exact q
def sp_need_many (K : PySem.W.Frag) (mg : Str → Option Value) : Sp := fun vs H Q E => match vs with | [v] => (∃ t, v = .int t ∧ 0 ≤ t ∧ t ≤ 1000 ∧ Q .non H) ∨ (BadW K H v 0 1000 ∧ E (.ref (cA mg "NoTurn")) none H) | _ => False
theorem q_need_many {H : Hp} {Q : VK} {E : XK} {v : V} (q : (∃ t, v = .int t ∧ 0 ≤ t ∧ t ≤ 1000 ∧ Q .non H) ∨ (BadW K H v 0 1000 ∧ E (.ref (cA mg "NoTurn")) none H)) : sp_need_many K mg [v] H Q E := q
local macro_rules | `(tactic| walk_at "op") => `(tactic| with_reducible refine q_need_many ?_)
theorem c_need_many (T : Txt K mg) : CalX P w K mg base 2 "need_many" (sp_need_many K mg) := by
  refine T.d_need_many.calX (k := 1) sc_need_many (by intro vs H Q E h; unfold sp_need_many at h; split at h <;> first | rfl | exact h.elim) fun f cdv A outer s H vs Q E hr h => ?_
  refine ⟨_, (pss_one (ps_if (pt_not (pt_val (pe_c (c_is_whole T) hr (by decide) (by rfl) (pa_cons (pv 0) (pa_cons pe_int (pa_cons (pe_gc (by rfl) T.g_CIRCLE) pa_nil))))))
    (pss_one (ps_raise rfl (takes_of rfl rfl rfl rfl) (pmk_own0 T.x_NoTurn T.m_NoTurn (by rfl))))
    pss_nil)), ?_⟩
  try simp only [cxOf_K, cxOf_K', cxOf_mg, cxOf_mg']
  unfold sp_need_many at h
  split at h
  case h_2 => exact h.elim
  rename_i v
  rw [show L2.start ["thing"] [v] = [some (v)] from rfl]
  rcases h with ⟨t, rfl, h1, h2, q⟩ | ⟨h1, q⟩
  · walk_at "sa"
    exact q
  · walk_at "sa"
    refine q_wholeB h1 ?_
    walk_at "sa"
    exact q
/-- a Turn's fields -/
def tuF (s m : Int) : List (Str × V) := [("start", .int s), ("many", .int m)]
/-- what no Turn is made of -/
def BadT (K : PySem.W.Frag) (H : Hp) (v w : V) : Prop := BadW K H v 0 999 ∨ ∃ s, v = .int s ∧ 0 ≤ s ∧ s < 1000 ∧ BadW K H w 0 1000
theorem BadT.same {H H' : Hp} {v w : V} (h : BadT K H v w) (e : Same H H') : BadT K H' v w := by
  rcases h with h | ⟨s, h1, h2, h3, h4⟩
  · exact .inl (h.same e)
  · exact .inr ⟨s, h1, h2, h3, h4.same e⟩
/-- a new Turn -/
def NewU (mg : Str → Option Value) (H : Hp) (s m : Int) (Q : VK) : Prop := ∀ p dx H', H p = none → Same H H' → H' p = some (.ins (cA mg "Turn") dx (tuF s m)) → Q (.ref p) H'
def sp_Turn___init__ (K : PySem.W.Frag) (mg : Str → Option Value) : Sp := fun vs H Q E => match vs with | [.ref x, v, w] => ∃ dx, H x = some (.ins (cA mg "Turn") dx []) ∧ ((BadT K H v w ∧ E (.ref (cA mg "NoTurn")) none H) ∨ ∃ s m, v = .int s ∧ w = .int m ∧ 0 ≤ s ∧ s < 1000 ∧ 0 ≤ m ∧ m ≤ 1000 ∧ ∀ H', (∀ b o, H b = some o → b ≠ x → H' b = some o) → H' x = some (.ins (cA mg "Turn") dx (tuF s m)) → Q .non H') | _ => False
theorem q_Turn___init__ {H : Hp} {Q : VK} {E : XK} {x : Addr} {v : V} {w : V} (q : ∃ dx, H x = some (.ins (cA mg "Turn") dx []) ∧ ((BadT K H v w ∧ E (.ref (cA mg "NoTurn")) none H) ∨ ∃ s m, v = .int s ∧ w = .int m ∧ 0 ≤ s ∧ s < 1000 ∧ 0 ≤ m ∧ m ≤ 1000 ∧ ∀ H', (∀ b o, H b = some o → b ≠ x → H' b = some o) → H' x = some (.ins (cA mg "Turn") dx (tuF s m)) → Q .non H')) : sp_Turn___init__ K mg [.ref x, v, w] H Q E := q
local macro_rules | `(tactic| walk_at "op") => `(tactic| with_reducible refine q_Turn___init__ ?_)
theorem m_Turn (T : Txt K mg) : MakX P w K mg base 3 "Turn" (cA mg "Turn") (sp_Turn___init__ K mg) := by
  refine InitAt.makX T.m_Turn T.i_Turn (k := 2) sc_Turn___init__ (by intro vs H Q E h; unfold sp_Turn___init__ at h; split at h <;> first | rfl | exact h.elim) fun f cdv A outer s H vs Q E hr h => ?_
  refine ⟨_, (pss_cons (ps_expr (pe_xS (c_need_number T) hr (by decide) (by rfl) (fun σ => passAt (takes_of rfl rfl rfl rfl) σ) (pa_cons (pv 1) pa_nil)))
    (pss_cons (ps_expr (pe_xS (c_need_many T) hr (by decide) (by rfl) (fun σ => passAt (takes_of rfl rfl rfl rfl) σ) (pa_cons (pv 2) pa_nil)))
    (pss_cons (ps_fld (pv 0) (pv 1) rfl)
    (pss_one (ps_fld (pv 0) (pv 2) rfl))))), ?_⟩
  try simp only [cxOf_K, cxOf_K', cxOf_mg, cxOf_mg']
  unfold sp_Turn___init__ at h
  split at h
  case h_2 => exact h.elim
  rename_i x v w
  rw [show L2.start ["self", "start", "many"] [V.ref x, v, w] = [some (V.ref x), some (v), some (w)] from rfl]
  obtain ⟨dx, hx, ⟨h | ⟨s, rfl, h1, h2, h⟩, q⟩ | ⟨s, m, rfl, rfl, h1, h2, h3, h4, q⟩⟩ := h
  · walk_at "sts"
    exact .inr ⟨h, q⟩
  · walk_at "sts"
    refine .inl ⟨s, rfl, h1, h2, ?_⟩
    walk_at "sts"
    exact .inr ⟨h, q⟩
  walk_at "sts"
  refine .inl ⟨s, rfl, h1, h2, ?_⟩
  walk_at "sts"
  refine .inl ⟨m, rfl, h3, h4, ?_⟩
  walk_at "sa"
  refine L_sFldv hx T.k_Turn T.na_Turn_start (by decide) ?_
  walk_at "sa"
  refine L_sFldv upd_same T.k_Turn T.na_Turn_many (by show 1 < 1000; decide) ?_
  refine q _ (fun b o hb ne => by rw [upd_ne ne, upd_ne ne]; exact hb) ?_
  rw [upd_same]
  rfl
/-- a Turn is made -/
theorem L_turn {H : Hp} {s m : Int} {Q : VK} {E : XK} (h : 0 ≤ s ∧ s < 1000 ∧ 0 ≤ m ∧ m ≤ 1000) (q : NewU mg H s m Q) : MakeP (cA mg "Turn") (sp_Turn___init__ K mg) E [.int s, .int m] H Q := fun x dx nx nd ne =>
  ⟨dx, upd_same, .inr ⟨s, m, rfl, rfl, h.1, h.2.1, h.2.2.1, h.2.2.2, fun H' k hx => ⟨rfl, q x dx H' nx (Same.made nx nd k) hx⟩⟩⟩
theorem same_made {H : Hp} {x dx C : Addr} (nx : H x = none) (nd : H dx = none) (ne : dx ≠ x) : Same H (upd (upd H dx (.own x)) x (.ins C dx [])) :=
  (same_new nd).trans (same_new (by rw [upd_ne ne.symm]; exact nx))
/-- a Turn is not made -/
theorem L_turnX {H : Hp} {v w : V} {Q : VK} {E : XK} (h : BadT K H v w) (q : ∀ H', Same H H' → E (.ref (cA mg "NoTurn")) none H') : MakeP (cA mg "Turn") (sp_Turn___init__ K mg) E [v, w] H Q := fun x dx nx nd ne =>
  ⟨dx, upd_same, .inl ⟨h.same (same_made nx nd ne), q _ (same_made nx nd ne)⟩⟩
/-- whether a number is in a turn -/
def isin (s m t : Int) : Bool := decide ((t - s) % 1000 < m)
/-- no list of numbers -/
def BadNs (K : PySem.W.Frag) (H : Hp) (v : V) (lo hi : Int) : Prop := NotL K H v ∨ ∃ a xs, v = .ref a ∧ SqL K H a xs ∧ (24 < xs.length ∨ ((∀ x ∈ xs, (∃ t, x = .int t ∧ lo ≤ t ∧ t ≤ hi) ∨ BadW K H x lo hi) ∧ ∃ x ∈ xs, BadW K H x lo hi))
theorem BadNs.same {H H' : Hp} {v : V} {lo hi : Int} (h : BadNs K H v lo hi) (e : Same H H') : BadNs K H' v lo hi := by
  rcases h with h | ⟨a, xs, h1, h2, h3⟩
  · exact .inl (h.same e)
  · refine .inr ⟨a, xs, h1, e.seq h2, ?_⟩
    rcases h3 with h3 | ⟨h3, x, h4, h5⟩
    · exact .inl h3
    · exact .inr ⟨fun x hx => (h3 x hx).imp id fun b => b.same e, x, h4, h5.same e⟩
/-- a list of numbers -/
def GoodNs (K : PySem.W.Frag) (H : Hp) (v : V) (ts : List Int) (lo hi : Int) : Prop := ∃ a, v = .ref a ∧ SqL K H a (ts.map V.int) ∧ ts.length ≤ 24 ∧ ∀ t ∈ ts, lo ≤ t ∧ t ≤ hi
theorem GoodNs.same {H H' : Hp} {v : V} {ts : List Int} {lo hi : Int} (h : GoodNs K H v ts lo hi) (e : Same H H') : GoodNs K H' v ts lo hi := by
  obtain ⟨a, h1, h2, h3, h4⟩ := h
  exact ⟨a, h1, e.seq h2, h3, h4⟩
theorem nn_ok {H : Hp} {x : V} {t : Int} (e : x = .int t) (h0 : 0 ≤ t) (h1 : t ≤ 999) : ∀ Q E, Q .non H → sp_need_number K mg [x] H Q E := fun _ _ q => .inl ⟨t, e, h0, by omega, q⟩
theorem nn_bad {H : Hp} {x : V} (h : BadW K H x 0 999) : ∀ Q E, E (.ref (cA mg "NoTurn")) none H → sp_need_number K mg [x] H Q E := fun _ _ q => .inr ⟨h, q⟩
theorem nm_ok {H : Hp} {x : V} {t : Int} (e : x = .int t) (h0 : 0 ≤ t) (h1 : t ≤ 1000) : ∀ Q E, Q .non H → sp_need_many K mg [x] H Q E := fun _ _ q => .inl ⟨t, e, h0, h1, q⟩
theorem nm_bad {H : Hp} {x : V} (h : BadW K H x 0 1000) : ∀ Q E, E (.ref (cA mg "NoTurn")) none H → sp_need_many K mg [x] H Q E := fun _ _ q => .inr ⟨h, q⟩
theorem int_of_mem {ts : List Int} {x : V} (h : x ∈ ts.map V.int) : ∃ t ∈ ts, x = .int t := by
  obtain ⟨t, h1, h2⟩ := List.mem_map.mp h
  exact ⟨t, h1, h2.symm⟩
def sp_need_numbers (K : PySem.W.Frag) (mg : Str → Option Value) : Sp := fun vs H Q E => match vs with | [v] => (∃ ts, GoodNs K H v ts 0 999 ∧ Q .non H) ∨ (BadNs K H v 0 999 ∧ E (.ref (cA mg "NoTurn")) none H) | _ => False
theorem q_need_numbers {H : Hp} {Q : VK} {E : XK} {v : V} (q : (∃ ts, GoodNs K H v ts 0 999 ∧ Q .non H) ∨ (BadNs K H v 0 999 ∧ E (.ref (cA mg "NoTurn")) none H)) : sp_need_numbers K mg [v] H Q E := q
local macro_rules | `(tactic| walk_at "op") => `(tactic| with_reducible refine q_need_numbers ?_)
theorem c_need_numbers (T : Txt K mg) : CalX P w K mg base 3 "need_numbers" (sp_need_numbers K mg) := by
  refine T.d_need_numbers.calX (k := 2) sc_need_numbers (by intro vs H Q E h; unfold sp_need_numbers at h; split at h <;> first | rfl | exact h.elim) fun f cdv A outer s H vs Q E hr h => ?_
  refine ⟨_, (pss_cons (ps_if (PW.pt (pw_or (pt_not (pt_val (pe_callB call_isi (by rfl) T.n_isinstance (by decide +kernel) (pa_cons (pv 0) (pa_cons (pe_ty "list" (by rfl) T.n_list (by decide +kernel)) pa_nil))))) (pw_or1 (pt_cmpR op_gt (pe_callB call_lenA (by rfl) T.n_len (by decide +kernel) (pa_cons (pv 0) pa_nil)) (pe_gc (by rfl) T.g_MOST_TURNS) (nomark _)))))
    (pss_one (ps_raise rfl (takes_of rfl rfl rfl rfl) (pmk_own0 T.x_NoTurn T.m_NoTurn (by rfl))))
    pss_nil)
    (pss_one (ps_for (passes_of rfl) rfl (pi_list (pv 0)) (pg_name (i := 1) sc_need_numbers.nd rfl (.inl rfl))
    (pss_one (ps_expr (pe_xS (c_need_number T) hr (by decide) (by rfl) (fun σ => passAt (takes_of rfl rfl rfl rfl) σ) (pa_cons (pv 1) pa_nil))))))), ?_⟩
  try simp only [cxOf_K, cxOf_K', cxOf_mg, cxOf_mg']
  unfold sp_need_numbers at h
  split at h
  case h_2 => exact h.elim
  rename_i v
  rw [show L2.start ["thing", "number"] [v] = [some (v), none] from rfl]
  rcases h with ⟨ts, ⟨a, rfl, hL, hl, hg⟩, q⟩ | ⟨⟨ty, h1, h2⟩ | ⟨a, xs, rfl, hL, h⟩, q⟩
  · walk_at "sts"
    refine L_isi (tyx_L hL) (b := true) (by decide +kernel) ?_
    walk_at "sts"
    refine L_lenL hL ?_
    walk_at "sts"
    refine L_dF (by rw [List.length_map]; omega) ?_
    walk_at "sts"
    refine L_rl hL (L_forChk hL (by simp) (fun x hx => ?_) fun v => q)
    obtain ⟨t, ht, e⟩ := int_of_mem hx
    exact nn_ok e (hg t ht).1 (hg t ht).2
  · walk_at "sts"
    refine L_isi h1 h2 ?_
    walk_at "sts"
    exact q
  · walk_at "sts"
    refine L_isi (tyx_L hL) (b := true) (by decide +kernel) ?_
    walk_at "sts"
    refine L_lenL hL ?_
    walk_at "sts"
    by_cases hz : 24 < xs.length
    · refine L_dT (by omega) ?_
      walk_at "sts"
      exact q
    · refine L_dF (by omega) ?_
      obtain ⟨h1, x, hx, hb⟩ := h.resolve_left hz
      walk_at "sts"
      refine L_rl hL (L_forChkX (c := .ref (cA mg "NoTurn")) hL (by simp) (fun y hy => ?_) ⟨x, hx, nn_bad hb⟩ fun v => q)
      rcases h1 y hy with ⟨t, e, t0, t1⟩ | hc
      · exact .inl (nn_ok e t0 t1)
      · exact .inr (nn_bad hc)
def sp_Turn_has (K : PySem.W.Frag) (mg : Str → Option Value) : Sp := fun vs H Q E => match vs with | [.ref x, v] => ∃ dx s m, H x = some (.ins (cA mg "Turn") dx (tuF s m)) ∧ ((BadW K H v 0 999 ∧ E (.ref (cA mg "NoTurn")) none H) ∨ ∃ t, v = .int t ∧ 0 ≤ t ∧ t < 1000 ∧ Q (.bl (isin s m t)) H) | _ => False
theorem q_Turn_has {H : Hp} {Q : VK} {E : XK} {x : Addr} {v : V} (q : ∃ dx s m, H x = some (.ins (cA mg "Turn") dx (tuF s m)) ∧ ((BadW K H v 0 999 ∧ E (.ref (cA mg "NoTurn")) none H) ∨ ∃ t, v = .int t ∧ 0 ≤ t ∧ t < 1000 ∧ Q (.bl (isin s m t)) H)) : sp_Turn_has K mg [.ref x, v] H Q E := q
local macro_rules | `(tactic| walk_at "op") => `(tactic| with_reducible refine q_Turn_has ?_)
theorem c_Turn_has (T : Txt K mg) : MetX P w K mg base 3 (cA mg "Turn") "has" (sp_Turn_has K mg) := by
  refine MethAt.metX T.k_Turn T.d_Turn_has (k := 2) sc_Turn_has (by intro vs H Q E h; unfold sp_Turn_has at h; split at h <;> first | rfl | exact h.elim) fun f cdv A outer s H vs Q E hr h => ?_
  refine ⟨_, (pss_cons (ps_expr (pe_xS (c_need_number T) hr (by decide) (by rfl) (fun σ => passAt (takes_of rfl rfl rfl rfl) σ) (pa_cons (pv 1) pa_nil)))
    (pss_one (ps_ret (pe_cmpR op_ltA (pe_op op_mod (pe_op op_sub (pv 1) (pe_fld (pv 0) rfl)) (pe_gc (by rfl) T.g_CIRCLE)) (pe_fld (pv 0) rfl) (nomark _))))), ?_⟩
  try simp only [cxOf_K, cxOf_K', cxOf_mg, cxOf_mg']
  unfold sp_Turn_has at h
  split at h
  case h_2 => exact h.elim
  rename_i x v
  rw [show L2.start ["self", "number"] [V.ref x, v] = [some (V.ref x), some (v)] from rfl]
  obtain ⟨dx, s, m, hx, ⟨hb, q⟩ | ⟨t, rfl, h1, h2, q⟩⟩ := h
  · walk_at "sts"
    exact .inr ⟨hb, q⟩
  · walk_at "sts"
    refine .inl ⟨t, rfl, h1, h2, ?_⟩
    walk_at "sa"
    exact q
/-- the places of those that are in -/
def mem (s m : Int) (ts : List Int) : List Int := (List.range ts.length).filterMap fun i => if isin s m (ts.getD i 0) = true then some (i : Int) else none
theorem fm_int {f : Nat → Option Int} {n : Nat} : (List.range n).filterMap (fun i => (f i).map V.int) = ((List.range n).filterMap f).map V.int := by
  rw [List.map_filterMap]
def sp_Turn_members (K : PySem.W.Frag) (mg : Str → Option Value) : Sp := fun vs H Q E => match vs with | [.ref x, v] => ∃ dx s m, H x = some (.ins (cA mg "Turn") dx (tuF s m)) ∧ ((BadNs K H v 0 999 ∧ E (.ref (cA mg "NoTurn")) none H) ∨ ∃ ts, GoodNs K H v ts 0 999 ∧ NewL H ((mem s m ts).map V.int) Q) | _ => False
theorem q_Turn_members {H : Hp} {Q : VK} {E : XK} {x : Addr} {v : V} (q : ∃ dx s m, H x = some (.ins (cA mg "Turn") dx (tuF s m)) ∧ ((BadNs K H v 0 999 ∧ E (.ref (cA mg "NoTurn")) none H) ∨ ∃ ts, GoodNs K H v ts 0 999 ∧ NewL H ((mem s m ts).map V.int) Q)) : sp_Turn_members K mg [.ref x, v] H Q E := q
local macro_rules | `(tactic| walk_at "op") => `(tactic| with_reducible refine q_Turn_members ?_)
theorem c_Turn_members (T : Txt K mg) : MetX P w K mg base 4 (cA mg "Turn") "members" (sp_Turn_members K mg) := by
  refine MethAt.metX T.k_Turn T.d_Turn_members (k := 3) sc_Turn_members (by intro vs H Q E h; unfold sp_Turn_members at h; split at h <;> first | rfl | exact h.elim) fun f cdv A outer s H vs Q E hr h => ?_
  refine ⟨_, (pss_cons (ps_expr (pe_xS (c_need_numbers T) hr (by decide) (by rfl) (fun σ => passAt (takes_of rfl rfl rfl rfl) σ) (pa_cons (pv 1) pa_nil)))
    (pss_one (ps_ret (pe_lc (own := [("place", 2), ("number", 3)]) (g := (gTup K 2 (gCons (gName 2) (gCons (gName 3) gNil)))) (tt := (tB (tMethE (cA mg "Turn") "has" (sp_Turn_has K mg) (fun _ => E0) (tVar 0) (tCons (tVar 3) tNil)))) (te := (tVar 2)) rfl sc_Turn_members.nd (pi_enum (by rfl) T.n_enumerate (pa_cons (pv 1) pa_nil)) (blkOk_by (N := ["self", "numbers", "place", "number"]) (sc := defScope s_Turn_members) (by decide +kernel)) (fun _ _ _ _ _ => by exact (pg_tup rfl (pgs_cons (pg_name (i := 2) sc_Turn_members.nd rfl (.inl rfl)) (pgs_cons (pg_name (i := 3) sc_Turn_members.nd rfl (.inl rfl)) pgs_nil)))) (fun _ _ _ _ _ => by exact pts_one (pt_val (pe_xMt (c_Turn_has T) hr (by decide) (fun σ => passN σ) (pv 0) (pa_cons (pv 3) pa_nil)))) (fun _ _ _ _ _ => by exact (pv 2)))))), ?_⟩
  try simp only [cxOf_K, cxOf_K', cxOf_mg, cxOf_mg']
  unfold sp_Turn_members at h
  split at h
  case h_2 => exact h.elim
  rename_i x v
  rw [show L2.start ["self", "numbers", "place", "number"] [V.ref x, v] = [some (V.ref x), some (v), none, none] from rfl]
  obtain ⟨dx, s, m, hx, ⟨hb, q⟩ | ⟨ts, hg, q⟩⟩ := h
  · walk_at "sts"
    exact .inr ⟨hb, q⟩
  · walk_at "sts"
    refine .inl ⟨ts, hg, ?_⟩
    obtain ⟨a, rfl, hL, hl, hb⟩ := hg
    walk_at "sts"
    refine L_re hL ?_
    refine lc_fm walk_enum (fun i => (if isin s m (ts.getD i 0) = true then some (i : Int) else none).map V.int) (by rw [List.length_map]; omega) (fun H' e => e.seq hL) ?_ ?_
    · rintro i x1 H2 H' R R' hi sm ⟨T1, k0, t0, rfl, hT, rfl, hk, ht⟩ r1 r2
      cases hk
      replace ht : (ts.map V.int)[i]? = some t0 := ht
      rw [List.getElem?_map] at ht
      obtain ⟨t, ht', rfl⟩ := Option.map_eq_some_iff.mp ht
      have hd : ts.getD i 0 = t := by rw [List.getD_eq_getElem?_getD, ht']; rfl
      have hbt := hb t (List.mem_of_getElem? ht')
      refine L_gTup (.of upd_same) rfl ?_
      walk_at "sts"
      refine ⟨rfl, ?_⟩
      have s2 := same_upd (o := HO.tup [V.int (i : Int), V.int t]) sm hT
      walk_at "sts"
      refine L_methv (s2 _ _ hx) rfl ?_
      walk_at "sts"
      refine ⟨dx, s, m, s2 _ _ hx, .inr ⟨t, rfl, by omega, by omega, ?_⟩⟩
      walk_at "sts"
      refine L_b (fun c => ?_) (fun c => ?_)
      · walk_at "sts"
        exact r1 _ _ (by rw [hd, c]; rfl) (same_new hT)
      · exact r2 _ (by rw [hd, c]; rfl) (same_new hT)
    · rw [fm_int, List.length_map]
      exact q
def sp_Turn_moved (K : PySem.W.Frag) (mg : Str → Option Value) : Sp := fun vs H Q _ => match vs with | [.ref x, .int by_] => ∃ dx s m, H x = some (.ins (cA mg "Turn") dx (tuF s m)) ∧ 0 ≤ m ∧ m ≤ 1000 ∧ NewU mg H ((s + by_) % 1000) m Q | _ => False
theorem q_Turn_moved {H : Hp} {Q : VK} {E : XK} {x : Addr} {by_ : Int} (q : ∃ dx s m, H x = some (.ins (cA mg "Turn") dx (tuF s m)) ∧ 0 ≤ m ∧ m ≤ 1000 ∧ NewU mg H ((s + by_) % 1000) m Q) : sp_Turn_moved K mg [.ref x, .int by_] H Q E := q
local macro_rules | `(tactic| walk_at "op") => `(tactic| with_reducible refine q_Turn_moved ?_)
theorem c_Turn_moved (T : Txt K mg) : Met P w K mg base 5 (cA mg "Turn") "moved" (sp_Turn_moved K mg) := by
  refine MethAt.met T.k_Turn T.d_Turn_moved (k := 4) sc_Turn_moved (by intro vs H Q E h; unfold sp_Turn_moved at h; split at h <;> first | rfl | exact h.elim) fun f cdv A outer s H vs Q E hr h => ?_
  refine ⟨_, (pss_one (ps_ret (pe_xMk (m_Turn T) hr (by decide) (by rfl) (fun σ => passN σ) (pa_cons (pe_op op_mod (pe_op op_addA (pe_fld (pv 0) rfl) (pv 1)) (pe_gc (by rfl) T.g_CIRCLE)) (pa_cons (pe_fld (pv 0) rfl) pa_nil))))), ?_⟩
  try simp only [cxOf_K, cxOf_K', cxOf_mg, cxOf_mg']
  unfold sp_Turn_moved at h
  split at h
  case h_2 => exact h.elim
  rename_i x by_
  rw [show L2.start ["self", "by"] [V.ref x, V.int by_] = [some (V.ref x), some (V.int by_)] from rfl]
  obtain ⟨dx, s, m, hx, h1, h2, q⟩ := h
  walk_at "sa"
  exact L_turn ⟨by omega, by omega, h1, h2⟩ q
def pick (s : Int) (ms ts : List Int) : List Int := (List.range ms.length).filterMap fun i => if isin s (ms.getD i 0) (ts.getD i 0) = true then some (i : Int) else none
/-- nothing that is picked by -/
def BadP (K : PySem.W.Frag) (H : Hp) (v w u : V) : Prop := BadW K H v 0 999 ∨ ∃ s, v = .int s ∧ 0 ≤ s ∧ s < 1000 ∧ (BadNs K H w 0 1000 ∨ ∃ ms, GoodNs K H w ms 0 1000 ∧ (BadNs K H u 0 999 ∨ ∃ ts, GoodNs K H u ts 0 999 ∧ ms.length ≠ ts.length))
theorem getD_of {ts : List Int} {i : Nat} {t : Int} (h : ts[i]? = some t) : ts.getD i 0 = t := by rw [List.getD_eq_getElem?_getD, h]; rfl
def sp_picked (K : PySem.W.Frag) (mg : Str → Option Value) : Sp := fun vs H Q E => match vs with | [v, w, u] => (BadP K H v w u ∧ E (.ref (cA mg "NoTurn")) none H) ∨ ∃ s ms ts, v = .int s ∧ 0 ≤ s ∧ s < 1000 ∧ GoodNs K H w ms 0 1000 ∧ GoodNs K H u ts 0 999 ∧ ms.length = ts.length ∧ NewL H ((pick s ms ts).map V.int) Q | _ => False
theorem q_picked {H : Hp} {Q : VK} {E : XK} {v : V} {w : V} {u : V} (q : (BadP K H v w u ∧ E (.ref (cA mg "NoTurn")) none H) ∨ ∃ s ms ts, v = .int s ∧ 0 ≤ s ∧ s < 1000 ∧ GoodNs K H w ms 0 1000 ∧ GoodNs K H u ts 0 999 ∧ ms.length = ts.length ∧ NewL H ((pick s ms ts).map V.int) Q) : sp_picked K mg [v, w, u] H Q E := q
local macro_rules | `(tactic| walk_at "op") => `(tactic| with_reducible refine q_picked ?_)
theorem c_picked (T : Txt K mg) : CalX P w K mg base 5 "picked" (sp_picked K mg) := by
  refine T.d_picked.calX (k := 4) sc_picked (by intro vs H Q E h; unfold sp_picked at h; split at h <;> first | rfl | exact h.elim) fun f cdv A outer s H vs Q E hr h => ?_
  refine ⟨_, (pss_cons (ps_expr (pe_xS (c_need_number T) hr (by decide) (by rfl) (fun σ => passAt (takes_of rfl rfl rfl rfl) σ) (pa_cons (pv 0) pa_nil)))
    (pss_cons (ps_if (PW.pt (pw_or (pt_not (pt_val (pe_callB call_isi (by rfl) T.n_isinstance (by decide +kernel) (pa_cons (pv 1) (pa_cons (pe_ty "list" (by rfl) T.n_list (by decide +kernel)) pa_nil))))) (pw_or1 (pt_cmpR op_gt (pe_callB call_lenA (by rfl) T.n_len (by decide +kernel) (pa_cons (pv 1) pa_nil)) (pe_gc (by rfl) T.g_MOST_TURNS) (nomark _)))))
    (pss_one (ps_raise rfl (takes_of rfl rfl rfl rfl) (pmk_own0 T.x_NoTurn T.m_NoTurn (by rfl))))
    pss_nil)
    (pss_cons (ps_for (passes_of rfl) rfl (pi_list (pv 1)) (pg_name (i := 3) sc_picked.nd rfl (.inl rfl))
    (pss_one (ps_expr (pe_xS (c_need_many T) hr (by decide) (by rfl) (fun σ => passAt (takes_of rfl rfl rfl rfl) σ) (pa_cons (pv 3) pa_nil)))))
    (pss_cons (ps_expr (pe_xS (c_need_numbers T) hr (by decide) (by rfl) (fun σ => passAt (takes_of rfl rfl rfl rfl) σ) (pa_cons (pv 2) pa_nil)))
    (pss_cons (ps_if (pt_cmpR (op_neA hr) (pe_callB call_lenA (by rfl) T.n_len (by decide +kernel) (pa_cons (pv 2) pa_nil)) (pe_callB call_lenA (by rfl) T.n_len (by decide +kernel) (pa_cons (pv 1) pa_nil)) (nomark _))
    (pss_one (ps_raise rfl (takes_of rfl rfl rfl rfl) (pmk_own0 T.x_NoTurn T.m_NoTurn (by rfl))))
    pss_nil)
    (pss_one (ps_ret (pe_lc (own := [("place", 4), ("many", 3)]) (g := (gTup K 2 (gCons (gName 4) (gCons (gName 3) gNil)))) (tt := (tB (tMethE (cA mg "Turn") "has" (sp_Turn_has K mg) (fun _ => E0) (tMakeE (cA mg "Turn") (sp_Turn___init__ K mg) (fun _ => E0) (tCons (tVar 0) (tCons (tVar 3) tNil))) (tCons (tOp (rIx K) (tVar 2) (tVar 4)) tNil)))) (te := (tVar 4)) rfl sc_picked.nd (pi_enum (by rfl) T.n_enumerate (pa_cons (pv 1) pa_nil)) (blkOk_by (N := ["start", "manys", "numbers", "many", "place"]) (sc := defScope s_picked) (by decide +kernel)) (fun _ _ _ _ _ => by exact (pg_tup rfl (pgs_cons (pg_name (i := 4) sc_picked.nd rfl (.inl rfl)) (pgs_cons (pg_name (i := 3) sc_picked.nd rfl (.inl rfl)) pgs_nil)))) (fun _ _ _ _ _ => by exact pts_one (pt_val (pe_xMt (c_Turn_has T) hr (by decide) (fun σ => passN σ) (pe_xMk (m_Turn T) hr (by decide) (by rfl) (fun σ => passN σ) (pa_cons (pv 0) (pa_cons (pv 3) pa_nil))) (pa_cons (pe_ix ix_seq (pv 2) (pv 4) (fun _ _ => rfl)) pa_nil)))) (fun _ _ _ _ _ => by exact (pv 4)))))))))), ?_⟩
  try simp only [cxOf_K, cxOf_K', cxOf_mg, cxOf_mg']
  unfold sp_picked at h
  split at h
  case h_2 => exact h.elim
  rename_i v w u
  rw [show L2.start ["start", "manys", "numbers", "many", "place"] [v, w, u] = [some (v), some (w), some (u), none, none] from rfl]
  rcases h with ⟨h | ⟨s, rfl, s0, s1, (⟨ty, h1, h2⟩ | ⟨a, xs, rfl, hL, h⟩) | ⟨ms, hw, hu⟩⟩, q⟩ | ⟨s, ms, ts, rfl, s0, s1, hw, hu, hl, q⟩
  · walk_at "sts"
    exact .inr ⟨h, q⟩
  · walk_at "sts"
    refine .inl ⟨s, rfl, s0, s1, ?_⟩
    walk_at "sts"
    refine L_isi h1 h2 ?_
    walk_at "sts"
    exact q
  · walk_at "sts"
    refine .inl ⟨s, rfl, s0, s1, ?_⟩
    walk_at "sts"
    refine L_isi (tyx_L hL) (b := true) (by decide +kernel) ?_
    walk_at "sts"
    refine L_lenL hL ?_
    walk_at "sts"
    by_cases hz : 24 < xs.length
    · refine L_dT (by omega) ?_
      walk_at "sts"
      exact q
    · refine L_dF (by omega) ?_
      obtain ⟨h1, x, hx, hb⟩ := h.resolve_left hz
      walk_at "sts"
      refine L_rl hL (L_forChkX (c := .ref (cA mg "NoTurn")) hL (by simp) (fun y hy => ?_) ⟨x, hx, nm_bad hb⟩ fun v => q)
      rcases h1 y hy with ⟨t, e, t0, t1⟩ | hc
      · exact .inl (nm_ok e t0 t1)
      · exact .inr (nm_bad hc)
  · obtain ⟨a, rfl, hL, hl, hg⟩ := hw
    walk_at "sts"
    refine .inl ⟨s, rfl, s0, s1, ?_⟩
    walk_at "sts"
    refine L_isi (tyx_L hL) (b := true) (by decide +kernel) ?_
    walk_at "sts"
    refine L_lenL hL ?_
    walk_at "sts"
    refine L_dF (by rw [List.length_map]; omega) ?_
    walk_at "sts"
    refine L_rl hL (L_forChk hL (by simp) (fun x hx => ?_) fun v => ?_)
    · obtain ⟨t, ht, e⟩ := int_of_mem hx
      exact nm_ok e (hg t ht).1 (hg t ht).2
    walk_at "sts"
    rcases hu with hu | ⟨ts, hu, hne⟩
    · exact .inr ⟨hu, q⟩
    · refine .inl ⟨ts, hu, ?_⟩
      obtain ⟨b, rfl, hL2, hl2, hg2⟩ := hu
      walk_at "sts"
      refine L_lenL hL2 ?_
      walk_at "sts"
      refine L_lenL hL ?_
      walk_at "sts"
      refine L_ndT (by rw [List.length_map, List.length_map]; omega) ?_
      walk_at "sts"
      exact q
  · obtain ⟨a, rfl, hL, hl1, hg⟩ := hw
    walk_at "sts"
    refine .inl ⟨s, rfl, s0, s1, ?_⟩
    walk_at "sts"
    refine L_isi (tyx_L hL) (b := true) (by decide +kernel) ?_
    walk_at "sts"
    refine L_lenL hL ?_
    walk_at "sts"
    refine L_dF (by rw [List.length_map]; omega) ?_
    walk_at "sts"
    refine L_rl hL (L_forChk hL (by simp) (fun x hx => ?_) fun v => ?_)
    · obtain ⟨t, ht, e⟩ := int_of_mem hx
      exact nm_ok e (hg t ht).1 (hg t ht).2
    walk_at "sts"
    refine .inl ⟨ts, hu, ?_⟩
    obtain ⟨b, rfl, hL2, hl2, hg2⟩ := hu
    walk_at "sts"
    refine L_lenL hL2 ?_
    walk_at "sts"
    refine L_lenL hL ?_
    walk_at "sts"
    refine L_ndF (by rw [List.length_map, List.length_map]; omega) ?_
    walk_at "sts"
    refine L_re hL ?_
    refine lc_fm walk_enum (fun i => (if isin s (ms.getD i 0) (ts.getD i 0) = true then some (i : Int) else none).map V.int) (by rw [List.length_map]; omega) (fun H' e => e.seq hL) ?_ ?_
    · rintro i x1 H2 H' R R' hi sm ⟨T1, k0, t0, rfl, hT, rfl, hk, ht⟩ r1 r2
      cases hk
      replace ht : (ms.map V.int)[i]? = some t0 := ht
      rw [List.getElem?_map] at ht
      obtain ⟨t, ht', rfl⟩ := Option.map_eq_some_iff.mp ht
      have hd : ms.getD i 0 = t := getD_of ht'
      have hbt := hg t (List.mem_of_getElem? ht')
      have hi2 : i < ts.length := by rw [List.length_map] at hi; omega
      have hbn := hg2 _ (List.getElem_mem hi2)
      have hn : ts.getD i 0 = ts[i] := getD_of (List.getElem?_eq_getElem hi2)
      refine L_gTup (.of upd_same) rfl ?_
      have s2 := same_upd (o := HO.tup [V.int (i : Int), V.int t]) sm hT
      walk_at "sts"
      refine ⟨rfl, ?_⟩
      walk_at "sts"
      refine L_turn ⟨s0, s1, hbt.1, hbt.2⟩ fun p3 d3 H3 hp3 s3 e3 => ?_
      walk_at "sts"
      refine L_methv e3 rfl ?_
      walk_at "sts"
      refine L_ixL ((s2.trans s3).seq hL2) (atI_ints (by omega) (by omega)) ?_
      walk_at "sts"
      rw [show ((i : Nat) : Int).toNat = i from rfl, hn]
      refine ⟨d3, s, t, e3, .inr ⟨ts[i], rfl, hbn.1, by omega, ?_⟩⟩
      walk_at "sts"
      refine L_b (fun c => ?_) (fun c => ?_)
      · walk_at "sts"
        exact r1 _ _ (by rw [hd, hn, c]; rfl) ((same_new hT).trans s3)
      · exact r2 _ (by rw [hd, hn, c]; rfl) ((same_new hT).trans s3)
    · rw [fm_int, List.length_map]
      exact q
def sp__law_bad (K : PySem.W.Frag) (mg : Str → Option Value) : Sp := fun vs H Q _ => match vs with | [.int n] => ∀ v H', Same H H' → BadW K H' v 0 999 → BadW K H' v 0 1000 → Q v H' | _ => False
theorem q__law_bad {H : Hp} {Q : VK} {E : XK} {n : Int} (q : ∀ v H', Same H H' → BadW K H' v 0 999 → BadW K H' v 0 1000 → Q v H') : sp__law_bad K mg [.int n] H Q E := q
local macro_rules | `(tactic| walk_at "op") => `(tactic| with_reducible refine q__law_bad ?_)
theorem c__law_bad (T : Txt K mg) : Cal P w K mg base 1 "_law_bad" (sp__law_bad K mg) := by
  refine T.d__law_bad.cal (k := 0) sc__law_bad (by intro vs H Q E h; unfold sp__law_bad at h; split at h <;> first | rfl | exact h.elim) fun f cdv A outer s H vs Q E hr h => ?_
  refine ⟨_, (pss_cons (ps_set (i := 1) sc__law_bad.nd rfl (.inl rfl) (pe_lst (pa_cons pe_non (pa_cons (pe_un un_neg pe_int) (pa_cons pe_int (pa_cons (pe_op op_addA pe_int (pe_op op_pow pe_int pe_int)) (pa_cons pe_bl (pa_cons pe_bl (pa_cons pe_str (pa_cons (pe_tup (pa_cons pe_int pa_nil)) (pa_cons (pe_lst (pa_cons pe_int pa_nil)) (pa_cons pe_dnewK (pa_cons (pe_un un_neg (pe_op op_pow pe_int pe_int)) (pa_cons pe_str pa_nil))))))))))))))
    (pss_one (ps_ret (pe_ix ix_seq (pv 1) (pe_op op_mod (pv 0) pe_int) (fun _ _ => rfl))))), ?_⟩
  try simp only [cxOf_K, cxOf_K', cxOf_mg, cxOf_mg']
  unfold sp__law_bad at h
  split at h
  case h_2 => exact h.elim
  rename_i n
  rw [show L2.start ["_law_number", "_law_some"] [V.int n] = [some (V.int n), none] from rfl]
  walk_at "sa"
  walk_at "nw"
  rename_i p1 hp1 H1 s1 e1
  walk_at "sa"
  walk_at "nw"
  rename_i p2 hp2 H2 s2 e2
  walk_at "sa"
  walk_at "nwp"
  rename_i p3 hp3 H3 s3 e3
  walk_at "sa"
  walk_at "nw"
  rename_i p4 hp4 H4 s4 e4
  walk_at "sa"
  refine L_menuV (.of e4) (by omega) (by show _ < (12 : Int); omega) fun v hv => ?_
  have hb : BadW K H4 v 0 999 ∧ BadW K H4 v 0 1000 := by
    simp only [List.mem_cons, List.not_mem_nil, or_false] at hv
    rcases hv with rfl | rfl | rfl | rfl | rfl | rfl | rfl | rfl | rfl | rfl | rfl | rfl
    · exact ⟨notw_non.bad, notw_non.bad⟩
    · exact ⟨badw_int (by omega), badw_int (by omega)⟩
    · exact ⟨badw_int (by omega), badw_int (by omega)⟩
    · exact ⟨badw_int (by omega), badw_int (by omega)⟩
    · exact ⟨notw_bl.bad, notw_bl.bad⟩
    · exact ⟨notw_bl.bad, notw_bl.bad⟩
    · exact ⟨notw_str.bad, notw_str.bad⟩
    · exact ⟨(notw_tup ((s2.trans (s3.trans s4)) _ _ e1)).bad, (notw_tup ((s2.trans (s3.trans s4)) _ _ e1)).bad⟩
    · exact ⟨(notw_lst ((s3.trans s4) _ _ e2)).bad, (notw_lst ((s3.trans s4) _ _ e2)).bad⟩
    · exact ⟨(notw_dK (s4 _ _ e3)).bad, (notw_dK (s4 _ _ e3)).bad⟩
    · exact ⟨badw_int (by omega), badw_int (by omega)⟩
    · exact ⟨notw_str.bad, notw_str.bad⟩
  exact h v H4 (by walk_at "sm") hb.1 hb.2
theorem bad_one {H : Hp} {a : Addr} {x : V} {lo hi : Int} (h : H a = some (.lst [x])) (b : BadW K H x lo hi) : BadNs K H (.ref a) lo hi := .inr ⟨a, _, rfl, .of h, .inr ⟨fun y hy => by rw [List.mem_singleton.mp hy]; exact .inr b, x, List.mem_singleton.mpr rfl, b⟩⟩
theorem good_ns {H : Hp} {a : Addr} {ts : List Int} {lo hi : Int} (h : H a = some (.lst (ts.map V.int))) (hl : ts.length ≤ 24) (hb : ∀ t ∈ ts, lo ≤ t ∧ t ≤ hi) : GoodNs K H (.ref a) ts lo hi := ⟨a, rfl, .of h, hl, hb⟩
def sp__law_refused (K : PySem.W.Frag) (mg : Str → Option Value) : Sp := fun vs H Q _ => match vs with | [.int way, .ref a, v] => ∃ dx s m, H a = some (.ins (cA mg "Turn") dx (tuF s m)) ∧ BadW K H v 0 999 ∧ BadW K H v 0 1000 ∧ ∀ H', Same H H' → Q (.bl true) H' | _ => False
theorem q__law_refused {H : Hp} {Q : VK} {E : XK} {way : Int} {a : Addr} {v : V} (q : ∃ dx s m, H a = some (.ins (cA mg "Turn") dx (tuF s m)) ∧ BadW K H v 0 999 ∧ BadW K H v 0 1000 ∧ ∀ H', Same H H' → Q (.bl true) H') : sp__law_refused K mg [.int way, .ref a, v] H Q E := q
local macro_rules | `(tactic| walk_at "op") => `(tactic| with_reducible refine q__law_refused ?_)
theorem c__law_refused (T : Txt K mg) : Cal P w K mg base 6 "_law_refused" (sp__law_refused K mg) := by
  refine T.d__law_refused.cal (k := 5) sc__law_refused (by intro vs H Q E h; unfold sp__law_refused at h; split at h <;> first | rfl | exact h.elim) fun f cdv A outer s H vs Q E hr h => ?_
  refine ⟨_, (pss_cons (ps_set (i := 3) sc__law_refused.nd rfl (.inl rfl) pe_bl)
    (Evl.pss_cut (ps_try_only (tb := fun W => (tIfS (tTest (tOp (aEq K) (tVar 0) (tC (.int 0)))) (tDrop (tMakeE (cA mg "Turn") (sp_Turn___init__ K mg) (fun σ => WE W σ) (tCons (tVar 2) (tCons (tC (.int 3)) tNil)))) (tIfS (tTest (tOp (aEq K) (tVar 0) (tC (.int 1)))) (tDrop (tMakeE (cA mg "Turn") (sp_Turn___init__ K mg) (fun σ => WE W σ) (tCons (tC (.int 3)) (tCons (tVar 2) tNil)))) (tIfS (tTest (tOp (aEq K) (tVar 0) (tC (.int 2)))) (tDrop (tMethE (cA mg "Turn") "has" (sp_Turn_has K mg) (fun σ => WE W σ) (tVar 1) (tCons (tVar 2) tNil))) (tIfS (tTest (tOp (aEq K) (tVar 0) (tC (.int 3)))) (tDrop (tMethE (cA mg "Turn") "members" (sp_Turn_members K mg) (fun σ => WE W σ) (tVar 1) (tCons (tLst (tCons (tC (.int 1)) (tCons (tVar 2) tNil))) tNil))) (tIfS (tTest (tOp (aEq K) (tVar 0) (tC (.int 4)))) (tDrop (tCallS (sp_picked K mg) (fun σ => WE W σ) (tCons (tVar 2) (tCons (tLst tNil) (tCons (tLst tNil) tNil))))) (tIfS (tTest (tOp (aEq K) (tVar 0) (tC (.int 5)))) (tDrop (tCallS (sp_picked K mg) (fun σ => WE W σ) (tCons (tC (.int 5)) (tCons (tLst (tCons (tVar 2) tNil)) (tCons (tLst (tCons (tC (.int 7)) tNil)) tNil))))) (tIfS (tTest (tOp (aEq K) (tVar 0) (tC (.int 6)))) (tDrop (tCallS (sp_picked K mg) (fun σ => WE W σ) (tCons (tC (.int 5)) (tCons (tLst (tCons (tC (.int 7)) tNil)) (tCons (tLst (tCons (tVar 2) tNil)) tNil))))) (tIfS (tTest (tOp (aEq K) (tVar 0) (tC (.int 7)))) (tDrop (tMethE (cA mg "Turn") "members" (sp_Turn_members K mg) (fun σ => WE W σ) (tVar 1) (tCons (tOp aMul (tLst (tCons (tC (.int 0)) tNil)) (tC (.int 25))) tNil))) (tIfS (tTest (tOp (aEq K) (tVar 0) (tC (.int 8)))) (tDrop (tMethE (cA mg "Turn") "members" (sp_Turn_members K mg) (fun σ => WE W σ) (tVar 1) (tCons (tTup (tCons (tC (.int 1)) (tCons (tC (.int 2)) tNil))) tNil))) (tIfS (tTest (tOp (aEq K) (tVar 0) (tC (.int 9)))) (tDrop (tCallS (sp_picked K mg) (fun σ => WE W σ) (tCons (tC (.int 5)) (tCons (tLst (tCons (tC (.int 7)) (tCons (tC (.int 8)) tNil))) (tCons (tLst (tCons (tC (.int 7)) tNil)) tNil))))) (tIfS (tTest (tOp (aEq K) (tVar 0) (tC (.int 10)))) (tDrop (tMakeE (cA mg "Turn") (sp_Turn___init__ K mg) (fun σ => WE W σ) (tCons (tC (.int 1000)) (tCons (tC (.int 3)) tNil)))) (tIfS (tTest (tOp (aEq K) (tVar 0) (tC (.int 11)))) (tDrop (tMethE (cA mg "Turn") "has" (sp_Turn_has K mg) (fun σ => WE W σ) (tVar 1) (tCons (tC (.int 1000)) tNil))) (tIfS (tTest (tOp (aEq K) (tVar 0) (tC (.int 12)))) (tDrop (tCallS (sp_picked K mg) (fun σ => WE W σ) (tCons (tC (.int 5)) (tCons (tOp aMul (tLst (tCons (tC (.int 7)) tNil)) (tC (.int 25))) (tCons (tOp aMul (tLst (tCons (tC (.int 7)) tNil)) (tC (.int 25))) tNil))))) (tIfS (tTest (tOp (aEq K) (tVar 0) (tC (.int 13)))) (tDrop (tCallS (sp_picked K mg) (fun σ => WE W σ) (tCons (tC (.int 5)) (tCons (tLst (tCons (tC (.int 7)) tNil)) (tCons (tTup (tCons (tC (.int 7)) tNil)) tNil))))) (tDrop (tCallS (sp_picked K mg) (fun σ => WE W σ) (tCons (tC (.int 5)) (tCons (tTup (tCons (tC (.int 7)) tNil)) (tCons (tLst (tCons (tC (.int 7)) tNil)) tNil)))))))))))))))))))) (ts := fun _ _ _ => (tAsg (tC (.bl true)) (gName 3))) rfl rfl ⟨rfl, by decide, .inl T.m_NoTurn⟩ takes0 (fun W pn xe tk po => by exact (pss_one (ps_if (pt_cmpR (op_eqA hr) (pv 0) pe_int (nomark _))
    (pss_one (ps_expr (pe_xMk (m_Turn T) hr (by decide) (by rfl) (fun σ => passAt tk σ) (pa_cons (pv 2) (pa_cons pe_int pa_nil)))))
    (pss_one (ps_if (pt_cmpR (op_eqA hr) (pv 0) pe_int (nomark _))
    (pss_one (ps_expr (pe_xMk (m_Turn T) hr (by decide) (by rfl) (fun σ => passAt tk σ) (pa_cons pe_int (pa_cons (pv 2) pa_nil)))))
    (pss_one (ps_if (pt_cmpR (op_eqA hr) (pv 0) pe_int (nomark _))
    (pss_one (ps_expr (pe_xMt (c_Turn_has T) hr (by decide) (fun σ => passAt tk σ) (pv 1) (pa_cons (pv 2) pa_nil))))
    (pss_one (ps_if (pt_cmpR (op_eqA hr) (pv 0) pe_int (nomark _))
    (pss_one (ps_expr (pe_xMt (c_Turn_members T) hr (by decide) (fun σ => passAt tk σ) (pv 1) (pa_cons (pe_lst (pa_cons pe_int (pa_cons (pv 2) pa_nil))) pa_nil))))
    (pss_one (ps_if (pt_cmpR (op_eqA hr) (pv 0) pe_int (nomark _))
    (pss_one (ps_expr (pe_xS (c_picked T) hr (by decide) (by rfl) (fun σ => passAt tk σ) (pa_cons (pv 2) (pa_cons (pe_lst pa_nil) (pa_cons (pe_lst pa_nil) pa_nil))))))
    (pss_one (ps_if (pt_cmpR (op_eqA hr) (pv 0) pe_int (nomark _))
    (pss_one (ps_expr (pe_xS (c_picked T) hr (by decide) (by rfl) (fun σ => passAt tk σ) (pa_cons pe_int (pa_cons (pe_lst (pa_cons (pv 2) pa_nil)) (pa_cons (pe_lst (pa_cons pe_int pa_nil)) pa_nil))))))
    (pss_one (ps_if (pt_cmpR (op_eqA hr) (pv 0) pe_int (nomark _))
    (pss_one (ps_expr (pe_xS (c_picked T) hr (by decide) (by rfl) (fun σ => passAt tk σ) (pa_cons pe_int (pa_cons (pe_lst (pa_cons pe_int pa_nil)) (pa_cons (pe_lst (pa_cons (pv 2) pa_nil)) pa_nil))))))
    (pss_one (ps_if (pt_cmpR (op_eqA hr) (pv 0) pe_int (nomark _))
    (pss_one (ps_expr (pe_xMt (c_Turn_members T) hr (by decide) (fun σ => passAt tk σ) (pv 1) (pa_cons (pe_op op_mulA (pe_lst (pa_cons pe_int pa_nil)) pe_int) pa_nil))))
    (pss_one (ps_if (pt_cmpR (op_eqA hr) (pv 0) pe_int (nomark _))
    (pss_one (ps_expr (pe_xMt (c_Turn_members T) hr (by decide) (fun σ => passAt tk σ) (pv 1) (pa_cons (pe_tup (pa_cons pe_int (pa_cons pe_int pa_nil))) pa_nil))))
    (pss_one (ps_if (pt_cmpR (op_eqA hr) (pv 0) pe_int (nomark _))
    (pss_one (ps_expr (pe_xS (c_picked T) hr (by decide) (by rfl) (fun σ => passAt tk σ) (pa_cons pe_int (pa_cons (pe_lst (pa_cons pe_int (pa_cons pe_int pa_nil))) (pa_cons (pe_lst (pa_cons pe_int pa_nil)) pa_nil))))))
    (pss_one (ps_if (pt_cmpR (op_eqA hr) (pv 0) pe_int (nomark _))
    (pss_one (ps_expr (pe_xMk (m_Turn T) hr (by decide) (by rfl) (fun σ => passAt tk σ) (pa_cons pe_int (pa_cons pe_int pa_nil)))))
    (pss_one (ps_if (pt_cmpR (op_eqA hr) (pv 0) pe_int (nomark _))
    (pss_one (ps_expr (pe_xMt (c_Turn_has T) hr (by decide) (fun σ => passAt tk σ) (pv 1) (pa_cons pe_int pa_nil))))
    (pss_one (ps_if (pt_cmpR (op_eqA hr) (pv 0) pe_int (nomark _))
    (pss_one (ps_expr (pe_xS (c_picked T) hr (by decide) (by rfl) (fun σ => passAt tk σ) (pa_cons pe_int (pa_cons (pe_op op_mulA (pe_lst (pa_cons pe_int pa_nil)) pe_int) (pa_cons (pe_op op_mulA (pe_lst (pa_cons pe_int pa_nil)) pe_int) pa_nil))))))
    (pss_one (ps_if (pt_cmpR (op_eqA hr) (pv 0) pe_int (nomark _))
    (pss_one (ps_expr (pe_xS (c_picked T) hr (by decide) (by rfl) (fun σ => passAt tk σ) (pa_cons pe_int (pa_cons (pe_lst (pa_cons pe_int pa_nil)) (pa_cons (pe_tup (pa_cons pe_int pa_nil)) pa_nil))))))
    (pss_one (ps_expr (pe_xS (c_picked T) hr (by decide) (by rfl) (fun σ => passAt tk σ) (pa_cons pe_int (pa_cons (pe_tup (pa_cons pe_int pa_nil)) (pa_cons (pe_lst (pa_cons pe_int pa_nil)) pa_nil))))))))))))))))))))))))))))))))))) (fun a oe cls d pn _ _ => by exact (pss_one (ps_set (i := 3) sc__law_refused.nd rfl (.inl rfl) pe_bl))))
    (pss_one (ps_ret (pv 3))))), ?_⟩
  try simp only [cxOf_K, cxOf_K', cxOf_mg, cxOf_mg']
  unfold sp__law_refused at h
  split at h
  case h_2 => exact h.elim
  rename_i way a v
  rw [show L2.start ["_law_way", "_law_turn_here", "_law_thing", "_law_refused_here"] [V.int way, V.ref a, v] = [some (V.int way), some (V.ref a), some (v), none] from rfl]
  obtain ⟨dx, s, m, ha, hb, hb2, q⟩ := h
  walk_at "sts"
  refine L_cut (Mid := fun σ' H' => σ' = [some (.int way), some (.ref a), some v, some (.bl true)] ∧ Same H H') ?_ ?_
  case refine_2 =>
    rintro σ' H' ⟨rfl, e⟩
    walk_at "sts"
    exact q _ e
  have fin : ∀ H', Same H H' → wOnly K (.ref (cA mg "NoTurn")) (fun _ _ _ => tAsg (tC (.bl true)) (gName 3)) (fun _ _ _ _ => False) ⟨fun σ' H' => σ' = [some (.int way), some (.ref a), some v, some (.bl true)] ∧ Same H H', Q, fun _ _ => False, fun _ _ => False⟩ (.ref (cA mg "NoTurn")) none [some (.int way), some (.ref a), some v, some (.bl false)] H' := fun H' e => by
    refine L_only (T.y_NoTurn.exm T.e_NoTurn_NoTurn) fun _ _ => ?_
    walk_at "sts"
    exact ⟨rfl, e⟩
  walk_at "sts"
  refine L_d (fun _ => ?_) (fun _ => ?_)
  · walk_at "sts"
    exact L_turnX (.inl hb) fin
  walk_at "sts"
  refine L_d (fun _ => ?_) (fun _ => ?_)
  · walk_at "sts"
    exact L_turnX (.inr ⟨3, rfl, by decide, by decide, hb2⟩) fin
  walk_at "sts"
  refine L_d (fun _ => ?_) (fun _ => ?_)
  · walk_at "sts"
    refine L_methv ha rfl ?_
    walk_at "sts"
    exact ⟨dx, s, m, ha, .inl ⟨hb, fin _ (Same.refl _)⟩⟩
  walk_at "sts"
  refine L_d (fun _ => ?_) (fun _ => ?_)
  · walk_at "sts"
    refine L_methv ha rfl ?_
    walk_at "sts"
    walk_at "nw"
    rename_i p1 hp1 H1 s1 e1
    walk_at "sts"
    refine ⟨dx, s, m, s1 _ _ ha, .inl ⟨.inr ⟨p1, _, rfl, .of e1, .inr ⟨fun y hy => ?_, v, by simp, hb.same s1⟩⟩, fin _ s1⟩⟩
    rcases List.mem_cons.mp hy with rfl | hy
    · exact .inl ⟨1, rfl, by decide, by decide⟩
    · rw [List.mem_singleton.mp hy]
      exact .inr (hb.same s1)
  walk_at "sts"
  refine L_d (fun _ => ?_) (fun _ => ?_)
  · walk_at "sts"
    walk_at "nw"
    rename_i p1 hp1 H1 s1 e1
    walk_at "sts"
    walk_at "nw"
    rename_i p2 hp2 H2 s2 e2
    walk_at "sts"
    exact .inl ⟨.inl (hb.same (s1.trans s2)), fin _ (s1.trans s2)⟩
  walk_at "sts"
  refine L_d (fun _ => ?_) (fun _ => ?_)
  · walk_at "sts"
    walk_at "nw"
    rename_i p1 hp1 H1 s1 e1
    walk_at "sts"
    walk_at "nw"
    rename_i p2 hp2 H2 s2 e2
    walk_at "sts"
    exact .inl ⟨.inr ⟨5, rfl, by decide, by decide, .inl (bad_one (s2 _ _ e1) (hb2.same (s1.trans s2)))⟩, fin _ (s1.trans s2)⟩
  walk_at "sts"
  refine L_d (fun _ => ?_) (fun _ => ?_)
  · walk_at "sts"
    walk_at "nw"
    rename_i p1 hp1 H1 s1 e1
    walk_at "sts"
    walk_at "nw"
    rename_i p2 hp2 H2 s2 e2
    walk_at "sts"
    exact .inl ⟨.inr ⟨5, rfl, by decide, by decide, .inr ⟨[7], good_ns (s2 _ _ e1) (by decide) (by decide), .inl (bad_one e2 (hb.same (s1.trans s2)))⟩⟩, fin _ (s1.trans s2)⟩
  walk_at "sts"
  refine L_d (fun _ => ?_) (fun _ => ?_)
  · walk_at "sts"
    refine L_methv ha rfl ?_
    walk_at "sts"
    walk_at "nw"
    rename_i p1 hp1 H1 s1 e1
    walk_at "sts"
    refine L_repL e1 (by decide) (by decide) (sz_dec (by decide)) ?_
    walk_at "nwp"
    rename_i p2 hp2 H2 s2 e2
    walk_at "sts"
    exact ⟨dx, s, m, (s1.trans s2) _ _ ha, .inl ⟨.inr ⟨p2, _, rfl, .of e2, .inl (by decide)⟩, fin _ (s1.trans s2)⟩⟩
  walk_at "sts"
  refine L_d (fun _ => ?_) (fun _ => ?_)
  · walk_at "sts"
    refine L_methv ha rfl ?_
    walk_at "sts"
    walk_at "nw"
    rename_i p1 hp1 H1 s1 e1
    walk_at "sts"
    exact ⟨dx, s, m, s1 _ _ ha, .inl ⟨.inl (notl_tup (.of e1)), fin _ s1⟩⟩
  walk_at "sts"
  refine L_d (fun _ => ?_) (fun _ => ?_)
  · walk_at "sts"
    walk_at "nw"
    rename_i p1 hp1 H1 s1 e1
    walk_at "sts"
    walk_at "nw"
    rename_i p2 hp2 H2 s2 e2
    walk_at "sts"
    exact .inl ⟨.inr ⟨5, rfl, by decide, by decide, .inr ⟨[7, 8], good_ns (s2 _ _ e1) (by decide) (by decide), .inr ⟨[7], good_ns e2 (by decide) (by decide), by decide⟩⟩⟩, fin _ (s1.trans s2)⟩
  walk_at "sts"
  refine L_d (fun _ => ?_) (fun _ => ?_)
  · walk_at "sts"
    exact L_turnX (.inl (badw_int (by decide))) fin
  walk_at "sts"
  refine L_d (fun _ => ?_) (fun _ => ?_)
  · walk_at "sts"
    refine L_methv ha rfl ?_
    walk_at "sts"
    exact ⟨dx, s, m, ha, .inl ⟨badw_int (by decide), fin _ (Same.refl _)⟩⟩
  walk_at "sts"
  refine L_d (fun _ => ?_) (fun _ => ?_)
  · walk_at "sts"
    walk_at "nw"
    rename_i p1 hp1 H1 s1 e1
    walk_at "sts"
    refine L_repL e1 (by decide) (by decide) (sz_dec (by decide)) ?_
    walk_at "nwp"
    rename_i p2 hp2 H2 s2 e2
    walk_at "sts"
    walk_at "nw"
    rename_i p3 hp3 H3 s3 e3
    walk_at "sts"
    refine L_repL e3 (by decide) (by decide) (sz_dec (by decide)) ?_
    walk_at "nwp"
    rename_i p4 hp4 H4 s4 e4
    walk_at "sts"
    exact .inl ⟨.inr ⟨5, rfl, by decide, by decide, .inl (.inr ⟨p2, _, rfl, .of ((s3.trans s4) _ _ e2), .inl (by decide)⟩)⟩, fin _ (by walk_at "sm")⟩
  walk_at "sts"
  refine L_d (fun _ => ?_) (fun _ => ?_)
  · walk_at "sts"
    walk_at "nw"
    rename_i p1 hp1 H1 s1 e1
    walk_at "sts"
    walk_at "nw"
    rename_i p2 hp2 H2 s2 e2
    walk_at "sts"
    exact .inl ⟨.inr ⟨5, rfl, by decide, by decide, .inr ⟨[7], good_ns (s2 _ _ e1) (by decide) (by decide), .inl (.inl (notl_tup (.of e2)))⟩⟩, fin _ (s1.trans s2)⟩
  walk_at "sts"
  walk_at "nw"
  rename_i p1 hp1 H1 s1 e1
  walk_at "sts"
  walk_at "nw"
  rename_i p2 hp2 H2 s2 e2
  walk_at "sts"
  exact .inl ⟨.inr ⟨5, rfl, by decide, by decide, .inl (.inl (notl_tup (.of (s2 _ _ e1))))⟩, fin _ (s1.trans s2)⟩
theorem mk_isin {s m t : Int} : decide (mk s m t = 1) = isin s m t := by
  unfold mk isin
  by_cases h : (t - s) % 1000 < m
  · rw [if_pos h, decide_eq_true rfl, decide_eq_true h]
  · rw [if_neg h, decide_eq_false h, decide_eq_false (by decide)]
theorem marks_at {s m t : Int} (h0 : 0 ≤ t) (h1 : t < 1000) : atI (((List.range 1000).map fun j : Nat => mk s m (j : Int)).map V.int) t = some (.int (mk s m t)) := by
  refine atI_int h0 ?_
  rw [List.getElem?_map, List.getElem?_map, List.getElem?_range (by omega)]
  simp only [Option.map_some]
  rw [show (t.toNat : Int) = t by omega]
def sp__law_told (K : PySem.W.Frag) (mg : Str → Option Value) : Sp := fun vs H Q _ => match vs with | [.ref t, .ref a, .ref b] => ∃ (dx : Addr) (s m : Int) (ts : List Int), H t = some (.ins (cA mg "Turn") dx (tuF s m)) ∧ H a = some (.lst (ts.map V.int)) ∧ ts.length ≤ 24 ∧ (∀ t ∈ ts, 0 ≤ t ∧ t ≤ 999) ∧ H b = some (.lst (((List.range 1000).map fun j : Nat => mk s m (j : Int)).map V.int)) ∧ ∀ H', Same H H' → Q (.bl true) H' | _ => False
theorem q__law_told {H : Hp} {Q : VK} {E : XK} {t : Addr} {a : Addr} {b : Addr} (q : ∃ (dx : Addr) (s m : Int) (ts : List Int), H t = some (.ins (cA mg "Turn") dx (tuF s m)) ∧ H a = some (.lst (ts.map V.int)) ∧ ts.length ≤ 24 ∧ (∀ t ∈ ts, 0 ≤ t ∧ t ≤ 999) ∧ H b = some (.lst (((List.range 1000).map fun j : Nat => mk s m (j : Int)).map V.int)) ∧ ∀ H', Same H H' → Q (.bl true) H') : sp__law_told K mg [.ref t, .ref a, .ref b] H Q E := q
local macro_rules | `(tactic| walk_at "op") => `(tactic| with_reducible refine q__law_told ?_)
theorem c__law_told (T : Txt K mg) : Cal P w K mg base 5 "_law_told" (sp__law_told K mg) := by
  refine T.d__law_told.cal (k := 4) sc__law_told (by intro vs H Q E h; unfold sp__law_told at h; split at h <;> first | rfl | exact h.elim) fun f cdv A outer s H vs Q E hr h => ?_
  refine ⟨_, (pss_cons (ps_setLc (i := 4) (own := [("_law_k", 8), ("_law_number", 3)]) (g := (gTup K 2 (gCons (gName 8) (gCons (gName 3) gNil)))) (tt := (tTest (tOp (aEq K) (tOp (rIx K) (tVar 2) (tVar 3)) (tC (.int 1))))) (te := (tVar 8)) rfl sc__law_told.nd rfl rfl (sw_true rfl rfl rfl (by decide +kernel)) (pi_enum (by rfl) T.n_enumerate (pa_cons (pv 1) pa_nil)) (blkOk_by (N := ["_law_turn_here", "_law_numbers_here", "_law_marks_here", "_law_number", "_law_due", "_law_handed", "_law_found", "_law_has", "_law_k"]) (sc := defScope s__law_told) (by decide +kernel)) (fun _ _ _ _ _ => by exact (pg_tup rfl (pgs_cons (pg_name (i := 8) sc__law_told.nd rfl (.inl rfl)) (pgs_cons (pg_name (i := 3) sc__law_told.nd rfl (.inl rfl)) pgs_nil)))) (fun _ _ _ _ _ => by exact pts_one (pt_cmpR (op_eqA hr) (pe_ix ix_seq (pv 2) (pv 3) (fun _ _ => rfl)) pe_int (nomark _))) (fun _ _ _ _ _ => by exact (pv 8)))
    (pss_cons (ps_set (i := 5) sc__law_told.nd rfl (.inl rfl) (pe_callTy call_list1A (by rfl) T.n_list (by decide +kernel) (pa_cons (pv 1) pa_nil)))
    (pss_cons (ps_set (i := 6) sc__law_told.nd rfl (.inl rfl) (pe_xMt (c_Turn_members T) hr (by decide) (fun σ => passN σ) (pv 0) (pa_cons (pv 5) pa_nil)))
    (pss_cons (ps_if (PW.pt (pw_or (pt_not (pt_val (pe_callB call_isi (by rfl) T.n_isinstance (by decide +kernel) (pa_cons (pv 6) (pa_cons (pe_ty "list" (by rfl) T.n_list (by decide +kernel)) pa_nil))))) (pw_or (pt_cmpR (op_neA hr) (pv 6) (pv 4) (nomark _)) (pw_or1 (pt_cmpR (op_neA hr) (pv 5) (pv 1) (nomark _))))))
    (pss_one (ps_ret pe_bl))
    pss_nil)
    (pss_cons (ps_expr (pe_bm0 PySem.F.plainAttrs_list PySem.F.slot_list_clear PySem.F.type_list_clear mt_clear (pv 6)))
    (pss_cons (ps_expr (pe_bm0 PySem.F.plainAttrs_list PySem.F.slot_list_clear PySem.F.type_list_clear mt_clear (pv 5)))
    (pss_cons (ps_if (pt_cmpR (op_neA hr) (pe_xMt (c_Turn_members T) hr (by decide) (fun σ => passN σ) (pv 0) (pa_cons (pv 1) pa_nil)) (pv 4) (nomark _))
    (pss_one (ps_ret pe_bl))
    pss_nil)
    (pss_cons (ps_for PassesOwn.never rfl (pi_list (pv 1)) (pg_name (i := 3) sc__law_told.nd rfl (.inl rfl))
    (pss_cons (ps_set (i := 7) sc__law_told.nd rfl (.inl rfl) (pe_xMt (c_Turn_has T) hr (by decide) (fun σ => passN σ) (pv 0) (pa_cons (pv 3) pa_nil)))
    (pss_one (ps_if (PW.pt (pw_or (pt_not (pt_val (pe_callB call_isi (by rfl) T.n_isinstance (by decide +kernel) (pa_cons (pv 7) (pa_cons (pe_ty "bool" (by rfl) T.n_bool (by decide +kernel)) pa_nil))))) (pw_or1 (pt_cmpR (op_neA hr) (pv 7) (pe_cmpR (op_eqA hr) (pe_ix ix_seq (pv 2) (pv 3) (fun _ _ => rfl)) pe_int (nomark _)) (nomark _)))))
    (pss_one (ps_ret pe_bl))
    pss_nil))))
    (pss_one (ps_ret pe_bl)))))))))), ?_⟩
  try simp only [cxOf_K, cxOf_K', cxOf_mg, cxOf_mg']
  unfold sp__law_told at h
  split at h
  case h_2 => exact h.elim
  rename_i t a b
  rw [show L2.start ["_law_turn_here", "_law_numbers_here", "_law_marks_here", "_law_number", "_law_due", "_law_handed", "_law_found", "_law_has", "_law_k"] [V.ref t, V.ref a, V.ref b] = [some (V.ref t), some (V.ref a), some (V.ref b), none, none, none, none, none, none] from rfl]
  obtain ⟨dx, s, m, ts, ht, ha, hl, hg, hb, q⟩ := h
  walk_at "sts"
  refine L_re (.of ha) ?_
  refine lc_fm walk_enum (fun i => (if isin s m (ts.getD i 0) = true then some (i : Int) else none).map V.int) (by rw [List.length_map]; omega) (fun H' e => .of (e _ _ ha)) ?_ ?_
  · rintro i x1 H2 H' R R' hi sm ⟨T1, k0, t0, rfl, hT, rfl, hk, ht⟩ r1 r2
    cases hk
    replace ht : (ts.map V.int)[i]? = some t0 := ht
    rw [List.getElem?_map] at ht
    obtain ⟨t, ht', rfl⟩ := Option.map_eq_some_iff.mp ht
    have hbt := hg t (List.mem_of_getElem? ht')
    refine L_gTup (.of upd_same) rfl ?_
    have s2 := same_upd (o := HO.tup [V.int (i : Int), V.int t]) sm hT
    walk_at "sts"
    refine ⟨rfl, ?_⟩
    walk_at "sts"
    refine L_ixL (.of (s2 _ _ hb)) (marks_at hbt.1 (by omega)) ?_
    walk_at "sts"
    rw [mk_isin]
    refine L_b (fun c => ?_) (fun c => ?_)
    · walk_at "sts"
      exact r1 _ _ (by rw [getD_of ht', c]; rfl) (same_new hT)
    · exact r2 _ (by rw [getD_of ht', c]; rfl) (same_new hT)
  rw [fm_int, List.length_map]
  intro p1 H1 hp1 s1 e1
  replace e1 : H1 p1 = some (.lst ((mem s m ts).map V.int)) := e1
  walk_at "sts"
  refine L_list1 (.of (s1 _ _ ha)) ?_
  walk_at "nwp"
  rename_i p2 hp2 H2 s2 e2
  walk_at "sts"
  refine L_methv ((s1.trans s2) _ _ ht) rfl ?_
  walk_at "sts"
  refine ⟨dx, s, m, (s1.trans s2) _ _ ht, .inr ⟨ts, good_ns e2 hl hg, fun p3 H3 hp3 s3 e3 => ?_⟩⟩
  walk_at "sts"
  refine L_isi (tyx_L (.of e3)) (b := true) (by decide +kernel) ?_
  walk_at "sts"
  refine L_neR (.ints (.of e3)) (.ints (.of ((s2.trans s3) _ _ e1))) (shp_ints (n := 0)).ok ?_
  walk_at "sts"
  refine L_neR (.ints (.of (s3 _ _ e2))) (.ints (.of ((s1.trans (s2.trans s3)) _ _ ha))) (shp_ints (n := 0)).ok ?_
  walk_at "sts"
  refine L_tyL (.of e3) ?_
  walk_at "sts"
  refine L_clear e3 ?_
  walk_at "sts"
  have n32 : p3 ≠ p2 := ne_new hp3 ⟨_, e2⟩
  have e2' : (upd H3 p3 (HO.lst [])) p2 = some (.lst (ts.map V.int)) := by rw [upd_ne n32.symm]; exact s3 _ _ e2
  refine L_tyL (.of e2') ?_
  walk_at "sts"
  refine L_clear e2' ?_
  have h13 : H1 p3 = none := s2.free hp3
  have s15 : Same H1 (upd (upd H3 p3 (HO.lst [])) p2 (HO.lst [])) := same_mut (same_mut (s2.trans s3) h13) hp2
  generalize upd (upd H3 p3 (HO.lst [])) p2 (HO.lst []) = H5 at s15
  have s05 := s1.trans s15
  walk_at "sts"
  refine L_methv (s05 _ _ ht) rfl ?_
  walk_at "sts"
  refine ⟨dx, s, m, s05 _ _ ht, .inr ⟨ts, good_ns (s05 _ _ ha) hl hg, fun p6 H6 hp6 s6 e6 => ?_⟩⟩
  walk_at "sts"
  refine L_neR (.ints (.of e6)) (.ints (.of ((s15.trans s6) _ _ e1))) (shp_ints (n := 0)).ok ?_
  walk_at "sts"
  have s06 := s05.trans s6
  refine L_rl (.of (s06 _ _ ha)) ?_
  refine f_it walk_list (fun i σ' H' => Same H6 H' ∧ ∃ v3 v7 v8, σ' = [some (.ref t), some (.ref a), some (.ref b), v3, some (.ref p1), some (.ref p2), some (.ref p3), v7, v8]) ⟨Same.refl _, _, _, _, rfl⟩ (fun i σ' H' _ p => p.1.seq (.of (s06 _ _ ha))) ?_ ?_
  · rintro i x σ' H7 H7' hi ⟨s7, v3, v7, v8, rfl⟩ ⟨rfl, hx⟩
    rw [List.getElem?_map] at hx
    obtain ⟨n, hn, rfl⟩ := Option.map_eq_some_iff.mp hx
    have hbn := hg n (List.mem_of_getElem? hn)
    have s07 := s06.trans s7
    walk_at "sts"
    refine L_methv (s07 _ _ ht) rfl ?_
    walk_at "sts"
    refine ⟨dx, s, m, s07 _ _ ht, .inr ⟨n, rfl, hbn.1, by omega, ?_⟩⟩
    walk_at "sts"
    refine L_isi (.base (.bl _)) (b := true) (by decide +kernel) ?_
    walk_at "sts"
    refine L_ixL (.of (s07 _ _ hb)) (marks_at hbn.1 (by omega)) ?_
    walk_at "sts"
    rw [mk_isin, decide_eq_true rfl]
    walk_at "sts"
    exact ⟨s7, _, _, _, rfl⟩
  · rintro σ' H' ⟨s7, _, _, _, rfl⟩
    walk_at "sts"
    exact q _ (s06.trans s7)
def sp__law_picked (K : PySem.W.Frag) (mg : Str → Option Value) : Sp := fun vs H Q _ => match vs with | [.int s, .ref a, .int c, .bl d] => 0 ≤ s ∧ s < 1000 ∧ ∃ ts : List Int, H a = some (.lst (ts.map V.int)) ∧ ts.length ≤ 24 ∧ (∀ t ∈ ts, 0 ≤ t ∧ t ≤ 999) ∧ ∀ H', Same H H' → Q (.bl true) H' | _ => False
theorem q__law_picked {H : Hp} {Q : VK} {E : XK} {s : Int} {a : Addr} {c : Int} {d : Bool} (q : 0 ≤ s ∧ s < 1000 ∧ ∃ ts : List Int, H a = some (.lst (ts.map V.int)) ∧ ts.length ≤ 24 ∧ (∀ t ∈ ts, 0 ≤ t ∧ t ≤ 999) ∧ ∀ H', Same H H' → Q (.bl true) H') : sp__law_picked K mg [.int s, .ref a, .int c, .bl d] H Q E := q
local macro_rules | `(tactic| walk_at "op") => `(tactic| with_reducible refine q__law_picked ?_)
theorem c__law_picked (T : Txt K mg) : Cal P w K mg base 6 "_law_picked" (sp__law_picked K mg) := by
  refine T.d__law_picked.cal (k := 5) sc__law_picked (by intro vs H Q E h; unfold sp__law_picked at h; split at h <;> first | rfl | exact h.elim) fun f cdv A outer s H vs Q E hr h => ?_
  refine ⟨_, (pss_cons (ps_set (i := 4) sc__law_picked.nd rfl (.inl rfl) (pe_c (c__law_numbers T) hr (by decide) (by rfl) (pa_cons (pv 2) (pa_cons (pv 3) (pa_cons (pe_op op_rep (pe_lst (pa_cons pe_int pa_nil)) (pe_callB call_lenA (by rfl) T.n_len (by decide +kernel) (pa_cons (pv 1) pa_nil))) pa_nil)))))
    (pss_cons (ps_set (i := 5) sc__law_picked.nd rfl (.inl rfl) (pe_lst pa_nil))
    (pss_cons (ps_for PassesOwn.never rfl (pi_range1 (by rfl) T.n_range (pa_cons (pe_callB call_lenA (by rfl) T.n_len (by decide +kernel) (pa_cons (pv 1) pa_nil)) pa_nil)) (pg_name (i := 6) sc__law_picked.nd rfl (.inl rfl))
    (pss_one (ps_if (pt_cmpR (op_eqA hr) (pe_ix ix_seq (pe_c (c__law_marks T) hr (by decide) (by rfl) (pa_cons (pv 0) (pa_cons (pe_ix ix_seq (pv 4) (pv 6) (fun _ _ => rfl)) pa_nil))) (pe_ix ix_seq (pv 1) (pv 6) (fun _ _ => rfl)) (fun _ _ => rfl)) pe_int (nomark _))
    (pss_one (ps_expr (pe_bm PySem.F.plainAttrs_list PySem.F.slot_list_append PySem.F.type_list_append mt_append (pv 5) (pa_cons (pv 6) pa_nil))))
    pss_nil)))
    (pss_one (ps_ret (pe_cmpR (op_eqA hr) (pe_xS (c_picked T) hr (by decide) (by rfl) (fun σ => passN σ) (pa_cons (pv 0) (pa_cons (pv 4) (pa_cons (pv 1) pa_nil)))) (pv 5) (nomark _))))))), ?_⟩
  try simp only [cxOf_K, cxOf_K', cxOf_mg, cxOf_mg']
  unfold sp__law_picked at h
  split at h
  case h_2 => exact h.elim
  rename_i s a c d
  rw [show L2.start ["_law_start", "_law_numbers_here", "_law_cell", "_law_digits", "_law_manys", "_law_due", "_law_k"] [V.int s, V.ref a, V.int c, V.bl d] = [some (V.int s), some (V.ref a), some (V.int c), some (V.bl d), none, none, none] from rfl]
  obtain ⟨s0, s1, ts, ha, hl, hg, q⟩ := h
  walk_at "sts"
  walk_at "nw"
  rename_i p1 hp1 H1 s1' e1
  walk_at "sts"
  refine L_lenL (.of (s1' _ _ ha)) ?_
  walk_at "sts"
  rw [List.length_map]
  refine ⟨_, _, _, rfl, rfl, e1, by omega, by omega, sz_dec (by simp; omega), ?_⟩
  walk_at "nwp"
  rename_i p2 hp2 H2 s2 e2
  rw [show ((ts.length : Int)).toNat = ts.length from rfl, rep1 1001 ts.length] at e2
  walk_at "sts"
  refine ⟨List.replicate ts.length 1001, e2, by simp; omega, fun b hb => by rw [List.eq_of_mem_replicate hb]; decide, fun p3 H3 hp3 s3 e3 => ?_⟩
  have hn := nums_len d (List.replicate ts.length 1001) c 0
  have hnb := nums_b d (List.replicate ts.length 1001) c 0 (fun b hb => by rw [List.eq_of_mem_replicate hb]; decide)
  rw [List.length_replicate] at hn
  generalize hms : nums d c 0 (List.replicate ts.length 1001) = ms at e3 hn hnb
  have hmb : ∀ i (h : i < ms.length), 0 ≤ ms[i] ∧ ms[i] ≤ 1000 := fun i h => by
    have := hnb i ms[i] 1001 (List.getElem?_eq_getElem h) (by rw [List.getElem?_replicate, if_pos (by omega)])
    omega
  walk_at "sts"
  walk_at "nw"
  rename_i p4 hp4 H4 s4 e4
  walk_at "sts"
  have s04 : Same H H4 := by walk_at "sm"
  refine L_lenL (.of (s04 _ _ ha)) ?_
  walk_at "sts"
  rw [List.length_map]
  refine L_r1 (by omega) (by omega) ?_
  have g3 := s4 _ _ e3
  refine f_range (fun i σ' H' => Same H3 H' ∧ (∃ v6, σ' = [some (.int s), some (.ref a), some (.int c), some (.bl d), some (.ref p3), some (.ref p4), v6]) ∧ H' p4 = some (.lst (((List.range i).filterMap fun i => if isin s (ms.getD i 0) (ts.getD i 0) = true then some (i : Int) else none).map V.int))) ⟨s4, ⟨_, rfl⟩, e4⟩ ?_ ?_
  · rintro i σ' H5 hi ⟨s5, ⟨v6, rfl⟩, e5⟩
    have hi' : i < ts.length := by omega
    have hi2 : i < ms.length := by omega
    have hti : ts.getD i 0 = ts[i] := getD_of (List.getElem?_eq_getElem hi')
    have hmi : ms.getD i 0 = ms[i] := getD_of (List.getElem?_eq_getElem hi2)
    have hbt := hg _ (List.getElem_mem hi')
    have hbm := hmb i hi2
    have s05 : Same H H5 := by walk_at "sm"
    walk_at "sts"
    refine L_ixL (.of (s5 _ _ e3)) (atI_ints (by omega) (by omega)) ?_
    rw [show ((0 : Int) + (i : Int)).toNat = i by omega, hmi]
    walk_at "sts"
    refine ⟨s0, s1, hbm.1, hbm.2, fun p6 H6 hp6 s6 e6 => ?_⟩
    walk_at "sts"
    refine L_ixL (.of ((s05.trans s6) _ _ ha)) (atI_ints (by omega) (by omega)) ?_
    rw [show ((0 : Int) + (i : Int)).toNat = i by omega, hti]
    walk_at "sts"
    refine L_ixL (.of e6) (marks_at hbt.1 (by omega)) ?_
    walk_at "sts"
    rw [mk_isin]
    have hn4 : H3 p4 = none := hp4
    refine L_b (fun c => ?_) (fun c => ?_)
    · walk_at "sts"
      refine L_tyL (.of (s6 _ _ e5)) ?_
      walk_at "sts"
      refine L_app (s6 _ _ e5) (by rw [List.length_map]; exact sz_lt (Nat.lt_of_le_of_lt (fm_len' _ _) (by omega))) ?_
      walk_at "sts"
      refine ⟨same_mut (s5.trans s6) hn4, ⟨_, rfl⟩, ?_⟩
      rw [upd_same, fm_succ', hmi, hti, c, Int.zero_add, List.map_append]
      rfl
    · walk_at "sts"
      refine ⟨s5.trans s6, ⟨_, rfl⟩, ?_⟩
      rw [fm_succ', hmi, hti, c, s6 _ _ e5]
      simp
  · rintro σ' H5 ⟨s5, ⟨v6, rfl⟩, e5⟩
    have s05 : Same H H5 := by walk_at "sm"
    walk_at "sts"
    refine .inr ⟨s, ms, ts, rfl, s0, s1, good_ns (s5 _ _ e3) (by omega) (fun t ht => ?_), good_ns (s05 _ _ ha) hl hg, hn, fun p7 H7 hp7 s7 e7 => ?_⟩
    · obtain ⟨i, hi, rfl⟩ := List.mem_iff_getElem.mp ht
      exact hmb i hi
    walk_at "sts"
    refine L_eqR (.ints (.of e7)) (.ints (ns := pick s ms ts) (.of ?_)) (shp_ints (n := 0)).ok ?_
    · rw [s7 _ _ e5]
      unfold pick
      rw [hn]
      rfl
    exact q _ (by walk_at "sm")
def sp_law (K : PySem.W.Frag) (mg : Str → Option Value) : Sp := fun vs H Q _ => match vs with | [.ref a] => ∃ ns : List Int, SqL K H a (ns.map V.int) ∧ ns.length ≤ 63 ∧ (∀ z ∈ ns, Builtin.Int.intBits z ≤ 1048576) ∧ ∀ H', Q (.bl true) H' | _ => False
theorem q_law {H : Hp} {Q : VK} {E : XK} {a : Addr} (q : ∃ ns : List Int, SqL K H a (ns.map V.int) ∧ ns.length ≤ 63 ∧ (∀ z ∈ ns, Builtin.Int.intBits z ≤ 1048576) ∧ ∀ H', Q (.bl true) H') : sp_law K mg [.ref a] H Q E := q
local macro_rules | `(tactic| walk_at "op") => `(tactic| with_reducible refine q_law ?_)
theorem c_law (T : Txt K mg) {f : Addr} {fd : FuncData} (F : Fun K "law" "law" s_law f fd) : FnOk P w K mg base CX0 7 f fd ["_law_script"] (sp_law K mg) := by
  refine F.ok (k := 6) sc_law (by intro vs H Q E h; unfold sp_law at h; split at h <;> first | rfl | exact h.elim) fun cdv A outer s H vs Q E hr h => ?_
  refine ⟨_, (pss_cons (ps_set (i := 1) sc_law.nd rfl (.inl rfl) (pe_cmpR (op_eqA hr) (pe_op op_mod (pe_c (c__law_cell_at T) hr (by decide) (by rfl) (pa_cons (pv 0) (pa_cons pe_int pa_nil))) pe_int) pe_int (nomark _)))
    (pss_cons (ps_for PassesOwn.never rfl (pi_enum (by rfl) T.n_enumerate (pa_cons (pe_op op_addA (pe_slice sl_list (pv 0) (po_some pe_int) (po_some pe_int)) (pe_lst (pa_cons (pe_ifExp (pt_cmpR op_gt (pe_callB call_lenA (by rfl) T.n_len (by decide +kernel) (pa_cons (pv 0) pa_nil)) pe_int (nomark _)) (pe_ix ix_seq (pv 0) pe_int (fun _ _ => rfl)) pe_int) pa_nil))) pa_nil)) (pg_tup rfl (pgs_cons (pg_name (i := 2) sc_law.nd rfl (.inl rfl)) (pgs_cons (pg_name (i := 3) sc_law.nd rfl (.inl rfl)) pgs_nil)))
    (pss_cons (ps_asg (pe_c (c__law_turn T) hr (by decide) (by rfl) (pa_cons (pv 3) (pa_cons (pv 1) pa_nil))) (pg_tup rfl (pgs_cons (pg_name (i := 4) sc_law.nd rfl (.inl rfl)) (pgs_cons (pg_name (i := 5) sc_law.nd rfl (.inl rfl)) pgs_nil))))
    (pss_cons (ps_set (i := 6) sc_law.nd rfl (.inl rfl) (pe_c (c__law_marks T) hr (by decide) (by rfl) (pa_cons (pv 4) (pa_cons (pv 5) pa_nil))))
    (pss_cons (ps_set (i := 7) sc_law.nd rfl (.inl rfl) (pe_xMk (m_Turn T) hr (by decide) (by rfl) (fun σ => passN σ) (pa_cons (pv 4) (pa_cons (pv 5) pa_nil))))
    (pss_cons (ps_set (i := 8) sc_law.nd rfl (.inl rfl) (pe_c (c__law_numbers T) hr (by decide) (by rfl) (pa_cons (pe_op op_fdivW (pv 3) pe_int) (pa_cons (pv 1) (pa_cons (pe_op op_mulA (pe_lst (pa_cons pe_int pa_nil)) (pe_op op_mod (pe_op op_addA (pv 2) (pv 3)) pe_int)) pa_nil)))))
    (pss_cons (ps_set (i := 9) sc_law.nd rfl (.inl rfl) (pe_op op_addA (pe_lst (pa_cons (pv 4) (pa_cons (pe_op op_mod (pe_op op_sub (pv 4) pe_int) pe_int) (pa_cons (pe_op op_mod (pe_op op_addA (pv 4) (pv 5)) pe_int) (pa_cons (pe_op op_mod (pe_op op_sub (pe_op op_addA (pv 4) (pv 5)) pe_int) pe_int) pa_nil))))) (pv 8)))
    (Evl.pss_cut (ps_if (pt_cmpR (op_eqA hr) (pe_op op_mod (pe_c (c__law_mix T) hr (by decide) (by rfl) (pa_cons (pv 3) (pa_cons pe_int pa_nil))) pe_int) pe_int (nomark _))
    (pss_one (ps_set (i := 9) sc_law.nd rfl (.inl rfl) (pe_lst pa_nil)))
    pss_nil)
    (pss_cons (ps_if (PW.pt (pw_or (pt_cmpR (op_neA hr) (pe_fld (pv 7) rfl) (pv 4) (nomark _)) (pw_or (pt_cmpR (op_neA hr) (pe_fld (pv 7) rfl) (pv 5) (nomark _)) (pw_or1 (pt_not (pt_val (pe_c (c__law_told T) hr (by decide) (by rfl) (pa_cons (pv 7) (pa_cons (pv 9) (pa_cons (pv 6) pa_nil))))))))))
    (pss_one (ps_ret pe_bl))
    pss_nil)
    (pss_cons (ps_set (i := 10) sc_law.nd rfl (.inl rfl) (pe_op op_sub (pe_op op_mod (pv 3) (pe_op op_pow pe_int pe_int)) (pe_op op_pow pe_int pe_int)))
    (pss_cons (ps_set (i := 11) sc_law.nd rfl (.inl rfl) (pe_mt (c_Turn_moved T) hr (by decide) (pv 7) (pa_cons (pv 10) pa_nil)))
    (pss_cons (ps_if (PW.pt (pw_or (pt_cmpR (op_neA hr) (pe_fld (pv 11) rfl) (pe_op op_mod (pe_op op_addA (pv 4) (pv 10)) pe_int) (nomark _)) (pw_or (pt_cmpR (op_neA hr) (pe_fld (pv 11) rfl) (pv 5) (nomark _)) (pw_or1 (pt_cmpR (op_neA hr) (pe_fld (pv 7) rfl) (pv 4) (nomark _))))))
    (pss_one (ps_ret pe_bl))
    pss_nil)
    (pss_cons (ps_if (pt_not (pt_val (pe_c (c__law_refused T) hr (by decide) (by rfl) (pa_cons (pe_op op_mod (pe_c (c__law_mix T) hr (by decide) (by rfl) (pa_cons (pv 3) (pa_cons pe_int pa_nil))) pe_int) (pa_cons (pv 7) (pa_cons (pe_c (c__law_bad T) hr (by decide) (by rfl) (pa_cons (pe_c (c__law_mix T) hr (by decide) (by rfl) (pa_cons (pv 3) (pa_cons pe_int pa_nil))) pa_nil)) pa_nil))))))
    (pss_one (ps_ret pe_bl))
    pss_nil)
    (pss_one (ps_if (PW.pt (pw_and (pt_cmpR op_ltA (pv 2) pe_int (nomark _)) (pw_and1 (pt_not (pt_val (pe_c (c__law_picked T) hr (by decide) (by rfl) (pa_cons (pv 4) (pa_cons (pv 9) (pa_cons (pe_op op_fdivW (pv 3) pe_int) (pa_cons (pv 1) pa_nil))))))))))
    (pss_one (ps_ret pe_bl))
    pss_nil))))))))))))))
    (pss_one (ps_ret pe_bl)))), ?_⟩
  try simp only [cxOf_K, cxOf_K', cxOf_mg, cxOf_mg']
  unfold sp_law at h
  split at h
  case h_2 => exact h.elim
  rename_i a
  rw [show L2.start ["_law_script", "_law_digits", "_law_k", "_law_cell", "_law_start", "_law_many", "_law_marks_here", "_law_turn_here", "_law_extra", "_law_numbers_here", "_law_by", "_law_moved"] [V.ref a] = [some (V.ref a), none, none, none, none, none, none, none, none, none, none, none] from rfl]
  obtain ⟨ns, hS, hl, hbits, q⟩ := h
  walk_at "sts"
  refine ⟨ns, hS, by decide, ?_⟩
  walk_at "sa"
  refine L_slL hS ?_
  walk_at "nwp"
  rename_i p1 hp1 H1 s1 e1
  rw [cutV_map] at e1
  walk_at "stn"
  refine L_via (P := tIf _ _ _ _ _) (fun v H' => H' = H1 ∧ ∃ c0 : Int, v = .int c0) (fun Q q => ?_) ?_
  · walk_at "sts"
    refine L_lenL (s1.seq hS) ?_
    walk_at "sts"
    refine L_d (fun c => ?_) (fun c => ?_)
    · walk_at "sts"
      exact L_ixL (s1.seq hS) (atI_ints (by decide) (by rw [List.length_map] at c; omega)) (q _ _ ⟨rfl, _, rfl⟩)
    · walk_at "sts"
      exact q _ _ ⟨rfl, _, rfl⟩
  rintro _ _ ⟨rfl, c0, rfl⟩
  walk_at "sts"
  walk_at "nw"
  rename_i p2 hp2 H2 s2 e2
  have hcl := cutG_len ns (some 1) (some 41)
  refine L_addL (s2 _ _ e1) e2 (by rw [List.length_map]; exact sz_dec (by simp; omega)) ?_
  walk_at "nwp"
  rename_i p3 hp3 H3 s3 e3
  rw [show (cutG ns (some 1) (some 41)).map V.int ++ [V.int c0] = (cutG ns (some 1) (some 41) ++ [c0]).map V.int by rw [List.map_append]; rfl] at e3
  have hcz : (cutG ns (some 1) (some 41) ++ [c0]).length ≤ 64 := by simp; omega
  generalize cutG ns (some 1) (some 41) ++ [c0] = cells at e3 hcz
  generalize decide (cellAt ns 0 0 % 2 = 1) = d
  refine L_re (.of e3) ?_
  refine f_it walk_enum (fun i σ' H' => Same H3 H' ∧ ∃ v2 v3 v4 v5 v6 v7 v8 v9 v10 v11 : Option V, σ' = [some (.ref a), some (.bl d), v2, v3, v4, v5, v6, v7, v8, v9, v10, v11]) ⟨Same.refl _, none, none, none, none, none, none, none, none, none, none, rfl⟩ (fun i σ' H' _ p => p.1.seq (.of e3)) ?_ ?_
  · rintro i x σ' H4 H4' hi ⟨s4, v2, v3, v4, v5, v6, v7, v8, v9, v10, v11, rfl⟩ ⟨T1, k0, t0, rfl, hT, rfl, hk, hx⟩
    cases hk
    replace hx : (cells.map V.int)[i]? = some t0 := hx
    rw [List.getElem?_map] at hx
    obtain ⟨c, -, rfl⟩ := Option.map_eq_some_iff.mp hx
    rw [List.length_map] at hi
    refine L_gTup (.of upd_same) rfl ?_
    have s4b := same_upd (o := HO.tup [V.int (i : Int), V.int c]) s4 hT
    generalize upd H4 T1 (HO.tup [V.int (i : Int), V.int c]) = H4b at s4b
    walk_at "sts"
    intro s m hs0 hs1 hm0 hm1 p5 H5 hp5 s5 e5
    refine L_gTup (.of e5) rfl ?_
    walk_at "sts"
    refine ⟨hs0, hs1, hm0, hm1, fun p6 H6 hp6 s6 e6 => ?_⟩
    walk_at "sts"
    refine L_turn ⟨hs0, hs1, hm0, hm1⟩ fun p7 d7 H7 hp7 s7 e7 => ?_
    walk_at "sa"
    walk_at "nw"
    rename_i p8 hp8 H8 s8 e8
    walk_at "sa"
    refine L_repL e8 (by omega) (by omega) (sz_dec (by simp; omega)) ?_
    walk_at "nwp"
    rename_i p9 hp9 H9 s9 e9
    generalize hr : (((i : Int) + c) % 21).toNat = r at e9
    have hr2 : r ≤ 20 := by omega
    rw [rep1 1000 r] at e9
    walk_at "sts"
    refine ⟨List.replicate r 1000, e9, by simp; omega, fun b hb => by rw [List.eq_of_mem_replicate hb]; decide, fun p10 H10 hp10 s10 e10 => ?_⟩
    have hn := nums_len d (List.replicate r 1000) (c / 8008000) 0
    have hnb := nums_b d (List.replicate r 1000) (c / 8008000) 0 (fun b hb => by rw [List.eq_of_mem_replicate hb]; decide)
    rw [List.length_replicate] at hn
    generalize nums d (c / 8008000) 0 (List.replicate r 1000) = ms at e10 hn hnb
    have hmb : ∀ t ∈ ms, 0 ≤ t ∧ t ≤ 999 := fun t ht => by
      obtain ⟨i, hi, rfl⟩ := List.mem_iff_getElem.mp ht
      have := hnb i ms[i] 1000 (List.getElem?_eq_getElem hi) (by rw [List.getElem?_replicate, if_pos (by omega)])
      omega
    walk_at "sa"
    walk_at "nw"
    rename_i p11 hp11 H11 s11 e11
    walk_at "sa"
    refine L_addL e11 (s11 _ _ e10) (by rw [List.length_map]; exact sz_dec (by simp; omega)) ?_
    walk_at "nwp"
    rename_i p12 hp12 H12 s12 e12
    walk_at "sts"
    have g7 : H12 p7 = some (.ins (cA mg "Turn") d7 (tuF s m)) := by walk_at "hp"
    have g6 : H12 p6 = some (.lst (((List.range 1000).map fun j : Nat => mk s m (j : Int)).map V.int)) := by walk_at "hp"
    have s412 : Same H4b H12 := by walk_at "sm"
    refine L_cut (Mid := fun σ' H' => Same H12 H' ∧ ∃ (ts : List Int) (p : Addr), H' p = some (.lst (ts.map V.int)) ∧ ts.length ≤ 24 ∧ (∀ t ∈ ts, 0 ≤ t ∧ t ≤ 999) ∧ σ' = [some (.ref a), some (.bl d), some (.int (i : Int)), some (.int c), some (.int s), some (.int m), some (.ref p6), some (.ref p7), some (.ref p10), some (.ref p), v10, v11]) ?_ ?_
    · walk_at "sts"
      refine ⟨by decide, by decide, ?_⟩
      walk_at "sts"
      refine L_I (by decide) ?_
      walk_at "sts"
      refine L_d (fun _ => ?_) (fun _ => ?_)
      · walk_at "sts"
        walk_at "nw"
        rename_i p13 hp13 H13 s13 e13
        exact ⟨s13, [], p13, e13, by decide, (fun t ht => nomatch ht), rfl⟩
      · walk_at "sts"
        refine ⟨Same.refl _, [s, (s - 1) % 1000, (s + m) % 1000, (s + m - 1) % 1000] ++ ms, p12, by rw [e12, List.map_append]; rfl, by simp; omega, fun t ht => ?_, rfl⟩
        rcases List.mem_append.mp ht with ht | ht
        · simp only [List.mem_cons, List.not_mem_nil, or_false] at ht
          rcases ht with rfl | rfl | rfl | rfl <;> omega
        · exact hmb t ht
    · rintro σ' H13 ⟨s13, ts, p, ep, hl24, htb, rfl⟩
      have h7 := s13 _ _ g7
      walk_at "sts"
      refine L_fldv h7 T.k_Turn T.na_Turn_start rfl ?_
      walk_at "sts"
      rw [decide_eq_true rfl]
      walk_at "sts"
      refine L_fldv h7 T.k_Turn T.na_Turn_many rfl ?_
      walk_at "sts"
      rw [decide_eq_true rfl]
      walk_at "sts"
      refine ⟨d7, s, m, ts, h7, ep, hl24, htb, s13 _ _ g6, fun H14 s14 => ?_⟩
      have h7b := s14 _ _ h7
      walk_at "sts"
      refine L_powE (i := 10) (j := 40) (n := 10000000000000000000000000000000000000000) (cpow_lit (by decide)) (by decide) ?_
      walk_at "sts"
      refine L_I (by decide) ?_
      walk_at "sts"
      refine L_powE (i := 10) (j := 39) (n := 1000000000000000000000000000000000000000) (cpow_lit (by decide)) (by decide) ?_
      walk_at "sts"
      refine L_methv h7b rfl ?_
      walk_at "sts"
      refine ⟨d7, s, m, h7b, hm0, hm1, fun p15 d15 H15 hp15 s15 e15 => ?_⟩
      have h7c := s15 _ _ h7b
      walk_at "sts"
      refine L_fldv e15 T.k_Turn T.na_Turn_start rfl ?_
      walk_at "sts"
      refine L_I (by decide) ?_
      walk_at "sts"
      rw [decide_eq_true rfl]
      walk_at "sts"
      refine L_fldv e15 T.k_Turn T.na_Turn_many rfl ?_
      walk_at "sts"
      rw [decide_eq_true rfl]
      walk_at "sts"
      refine L_fldv h7c T.k_Turn T.na_Turn_start rfl ?_
      walk_at "sts"
      rw [decide_eq_true rfl]
      walk_at "sts"
      refine ⟨by decide, by decide, ?_⟩
      walk_at "sts"
      refine L_I (by decide) ?_
      walk_at "sts"
      refine ⟨by decide, by decide, ?_⟩
      walk_at "sts"
      intro v H16 s16 hb1 hb2
      walk_at "sts"
      refine ⟨d7, s, m, s16 _ _ h7c, hb1, hb2, fun H17 s17 => ?_⟩
      walk_at "sts"
      have s1417 : Same H14 H17 := (s15.trans s16).trans s17
      refine L_d (fun _ => ?_) (fun _ => ?_)
      · walk_at "sa"
        refine ⟨hs0, hs1, ts, (s14.trans s1417) _ _ ep, hl24, htb, fun H18 s18 => ?_⟩
        walk_at "sts"
        exact ⟨(s4b.trans s412).trans ((s13.trans s14).trans (s1417.trans s18)), _, _, _, _, _, _, _, _, _, _, rfl⟩
      · walk_at "sts"
        exact ⟨(s4b.trans s412).trans ((s13.trans s14).trans s1417), _, _, _, _, _, _, _, _, _, _, rfl⟩
  · rintro σ' H' ⟨s4, v2, v3, v4, v5, v6, v7, v8, v9, v10, v11, rfl⟩
    walk_at "sts"
    exact q _
end
theorem txt_mk {K : PySem.W.Frag} {h : Heap} {mg : Str → Option Value} (X : K.In h) (G : h.Ns mainGlobals mg)
    (z_n_len : PySem.W.nsIn K mainGlobals "len" = some none)
    (z_n_enumerate : PySem.W.nsIn K mainGlobals "enumerate" = some none)
    (z_n_range : PySem.W.nsIn K mainGlobals "range" = some none)
    (z_n_bool : PySem.W.nsIn K mainGlobals "bool" = some none)
    (z_n_int : PySem.W.nsIn K mainGlobals "int" = some none)
    (z_n_isinstance : PySem.W.nsIn K mainGlobals "isinstance" = some none)
    {u_g_CIRCLE : Value} (z_g_CIRCLE : PySem.W.nsIn K mainGlobals "CIRCLE" = some (some u_g_CIRCLE)) (y_g_CIRCLE : RelV (.int 1000) u_g_CIRCLE)
    {C_NoTurn : Addr} (aC_NoTurn : PySem.W.nsIn K mainGlobals "NoTurn" = some (some (.ref C_NoTurn)))
    (xx_NoTurn : PySem.W.excIn K C_NoTurn [.type "ValueError", .type "Exception", .type "BaseException", .type "object"] "ValueError.__new__" = true) (xk_NoTurn : PySem.W.keepIn K (.ref C_NoTurn) = true) (xb_NoTurn : PySem.W.subIn K (.ref C_NoTurn) (.type "BaseException") = some true) (xt_NoTurn : PySem.W.typeIn K (.ref C_NoTurn) = some (.type "type"))
    {C_Turn : Addr} (aC_Turn : PySem.W.nsIn K mainGlobals "Turn" = some (some (.ref C_Turn)))
    (pg_Turn : PySem.W.plainGet K C_Turn Str.empty = true) (hd_Turn : PySem.W.hasDictIn K C_Turn = true) (po_Turn : PySem.W.plainOver K C_Turn = true) (sa_Turn : PySem.W.findIn K (.ref C_Turn) "__setattr__" = some (some (.builtin "object.__setattr__"))) (mk_Turn : PySem.W.makesIn K C_Turn = true) (kc_Turn : PySem.W.keepIn K (.ref C_Turn) = true)
    (na_Turn_start : PySem.W.findIn K (.ref C_Turn) "start" = some none)
    (na_Turn_many : PySem.W.findIn K (.ref C_Turn) "many" = some none)
    (z_n_list : PySem.W.nsIn K mainGlobals "list" = some none)
    {u_g_MOST_TURNS : Value} (z_g_MOST_TURNS : PySem.W.nsIn K mainGlobals "MOST_TURNS" = some (some u_g_MOST_TURNS)) (y_g_MOST_TURNS : RelV (.int 24) u_g_MOST_TURNS)
    (yb_NoTurn : PySem.W.subIn K (.ref C_NoTurn) (.type "BaseException") = some true) (yi_NoTurn : PySem.W.isClsIn K C_NoTurn = true) (yt_NoTurn : PySem.W.typeIn K (.ref C_NoTurn) = some (.type "type"))
    (es_NoTurn_NoTurn : PySem.W.subIn K (.ref C_NoTurn) (.ref C_NoTurn) = some true)
    {f__law_cell_at : Addr} {od__law_cell_at an__law_cell_at : Option Addr} {sl__law_cell_at : Array (Option Value)} {oc__law_cell_at kV__law_cell_at dc__law_cell_at pm__law_cell_at cd__law_cell_at ct__law_cell_at : Value}
    (a__law_cell_at : PySem.W.nsIn K mainGlobals "_law_cell_at" = some (some (.ref f__law_cell_at))) (l__law_cell_at : K.lookup f__law_cell_at = some ⟨oc__law_cell_at, od__law_cell_at, .func (PySem.W.fnOf "_law_cell_at" "_law_cell_at" (defArgs s__law_cell_at) (defBody s__law_cell_at) (defScope s__law_cell_at) .none kV__law_cell_at dc__law_cell_at pm__law_cell_at an__law_cell_at cd__law_cell_at ct__law_cell_at), sl__law_cell_at⟩) (c__law_cell_at : PySem.W.codeIn K cd__law_cell_at "_law_cell_at" = true) (k__law_cell_at : PySem.W.keepIn K (.ref f__law_cell_at) = true)
    {f__law_mix : Addr} {od__law_mix an__law_mix : Option Addr} {sl__law_mix : Array (Option Value)} {oc__law_mix kV__law_mix dc__law_mix pm__law_mix cd__law_mix ct__law_mix : Value}
    (a__law_mix : PySem.W.nsIn K mainGlobals "_law_mix" = some (some (.ref f__law_mix))) (l__law_mix : K.lookup f__law_mix = some ⟨oc__law_mix, od__law_mix, .func (PySem.W.fnOf "_law_mix" "_law_mix" (defArgs s__law_mix) (defBody s__law_mix) (defScope s__law_mix) .none kV__law_mix dc__law_mix pm__law_mix an__law_mix cd__law_mix ct__law_mix), sl__law_mix⟩) (c__law_mix : PySem.W.codeIn K cd__law_mix "_law_mix" = true) (k__law_mix : PySem.W.keepIn K (.ref f__law_mix) = true)
    {f__law_numbers : Addr} {od__law_numbers an__law_numbers : Option Addr} {sl__law_numbers : Array (Option Value)} {oc__law_numbers kV__law_numbers dc__law_numbers pm__law_numbers cd__law_numbers ct__law_numbers : Value}
    (a__law_numbers : PySem.W.nsIn K mainGlobals "_law_numbers" = some (some (.ref f__law_numbers))) (l__law_numbers : K.lookup f__law_numbers = some ⟨oc__law_numbers, od__law_numbers, .func (PySem.W.fnOf "_law_numbers" "_law_numbers" (defArgs s__law_numbers) (defBody s__law_numbers) (defScope s__law_numbers) .none kV__law_numbers dc__law_numbers pm__law_numbers an__law_numbers cd__law_numbers ct__law_numbers), sl__law_numbers⟩) (c__law_numbers : PySem.W.codeIn K cd__law_numbers "_law_numbers" = true) (k__law_numbers : PySem.W.keepIn K (.ref f__law_numbers) = true)
    {f__law_marks : Addr} {od__law_marks an__law_marks : Option Addr} {sl__law_marks : Array (Option Value)} {oc__law_marks kV__law_marks dc__law_marks pm__law_marks cd__law_marks ct__law_marks : Value}
    (a__law_marks : PySem.W.nsIn K mainGlobals "_law_marks" = some (some (.ref f__law_marks))) (l__law_marks : K.lookup f__law_marks = some ⟨oc__law_marks, od__law_marks, .func (PySem.W.fnOf "_law_marks" "_law_marks" (defArgs s__law_marks) (defBody s__law_marks) (defScope s__law_marks) .none kV__law_marks dc__law_marks pm__law_marks an__law_marks cd__law_marks ct__law_marks), sl__law_marks⟩) (c__law_marks : PySem.W.codeIn K cd__law_marks "_law_marks" = true) (k__law_marks : PySem.W.keepIn K (.ref f__law_marks) = true)
    {f__law_turn : Addr} {od__law_turn an__law_turn : Option Addr} {sl__law_turn : Array (Option Value)} {oc__law_turn kV__law_turn dc__law_turn pm__law_turn cd__law_turn ct__law_turn : Value}
    (a__law_turn : PySem.W.nsIn K mainGlobals "_law_turn" = some (some (.ref f__law_turn))) (l__law_turn : K.lookup f__law_turn = some ⟨oc__law_turn, od__law_turn, .func (PySem.W.fnOf "_law_turn" "_law_turn" (defArgs s__law_turn) (defBody s__law_turn) (defScope s__law_turn) .none kV__law_turn dc__law_turn pm__law_turn an__law_turn cd__law_turn ct__law_turn), sl__law_turn⟩) (c__law_turn : PySem.W.codeIn K cd__law_turn "_law_turn" = true) (k__law_turn : PySem.W.keepIn K (.ref f__law_turn) = true)
    {f_is_whole : Addr} {od_is_whole an_is_whole : Option Addr} {sl_is_whole : Array (Option Value)} {oc_is_whole kV_is_whole dc_is_whole pm_is_whole cd_is_whole ct_is_whole : Value}
    (a_is_whole : PySem.W.nsIn K mainGlobals "is_whole" = some (some (.ref f_is_whole))) (l_is_whole : K.lookup f_is_whole = some ⟨oc_is_whole, od_is_whole, .func (PySem.W.fnOf "is_whole" "is_whole" (defArgs s_is_whole) (defBody s_is_whole) (defScope s_is_whole) .none kV_is_whole dc_is_whole pm_is_whole an_is_whole cd_is_whole ct_is_whole), sl_is_whole⟩) (c_is_whole : PySem.W.codeIn K cd_is_whole "is_whole" = true) (k_is_whole : PySem.W.keepIn K (.ref f_is_whole) = true)
    {f_need_number : Addr} {od_need_number an_need_number : Option Addr} {sl_need_number : Array (Option Value)} {oc_need_number kV_need_number dc_need_number pm_need_number cd_need_number ct_need_number : Value}
    (a_need_number : PySem.W.nsIn K mainGlobals "need_number" = some (some (.ref f_need_number))) (l_need_number : K.lookup f_need_number = some ⟨oc_need_number, od_need_number, .func (PySem.W.fnOf "need_number" "need_number" (defArgs s_need_number) (defBody s_need_number) (defScope s_need_number) .none kV_need_number dc_need_number pm_need_number an_need_number cd_need_number ct_need_number), sl_need_number⟩) (c_need_number : PySem.W.codeIn K cd_need_number "need_number" = true) (k_need_number : PySem.W.keepIn K (.ref f_need_number) = true)
    {f_need_many : Addr} {od_need_many an_need_many : Option Addr} {sl_need_many : Array (Option Value)} {oc_need_many kV_need_many dc_need_many pm_need_many cd_need_many ct_need_many : Value}
    (a_need_many : PySem.W.nsIn K mainGlobals "need_many" = some (some (.ref f_need_many))) (l_need_many : K.lookup f_need_many = some ⟨oc_need_many, od_need_many, .func (PySem.W.fnOf "need_many" "need_many" (defArgs s_need_many) (defBody s_need_many) (defScope s_need_many) .none kV_need_many dc_need_many pm_need_many an_need_many cd_need_many ct_need_many), sl_need_many⟩) (c_need_many : PySem.W.codeIn K cd_need_many "need_many" = true) (k_need_many : PySem.W.keepIn K (.ref f_need_many) = true)
    {f_Turn___init__ : Addr} {od_Turn___init__ an_Turn___init__ : Option Addr} {sl_Turn___init__ : Array (Option Value)} {oc_Turn___init__ kV_Turn___init__ dc_Turn___init__ pm_Turn___init__ cd_Turn___init__ ct_Turn___init__ : Value}
    (a_Turn___init__ : PySem.W.findIn K (.ref C_Turn) "__init__" = some (some (.ref f_Turn___init__))) (i_Turn___init__ : PySem.W.isFn K (.ref f_Turn___init__) = true) (l_Turn___init__ : K.lookup f_Turn___init__ = some ⟨oc_Turn___init__, od_Turn___init__, .func (PySem.W.fnOf "__init__" "Turn.__init__" (defArgs s_Turn___init__) (defBody s_Turn___init__) (defScope s_Turn___init__) .none kV_Turn___init__ dc_Turn___init__ pm_Turn___init__ an_Turn___init__ cd_Turn___init__ ct_Turn___init__), sl_Turn___init__⟩) (c_Turn___init__ : PySem.W.codeIn K cd_Turn___init__ "Turn.__init__" = true) (k_Turn___init__ : PySem.W.keepIn K (.ref f_Turn___init__) = true)
    {f_need_numbers : Addr} {od_need_numbers an_need_numbers : Option Addr} {sl_need_numbers : Array (Option Value)} {oc_need_numbers kV_need_numbers dc_need_numbers pm_need_numbers cd_need_numbers ct_need_numbers : Value}
    (a_need_numbers : PySem.W.nsIn K mainGlobals "need_numbers" = some (some (.ref f_need_numbers))) (l_need_numbers : K.lookup f_need_numbers = some ⟨oc_need_numbers, od_need_numbers, .func (PySem.W.fnOf "need_numbers" "need_numbers" (defArgs s_need_numbers) (defBody s_need_numbers) (defScope s_need_numbers) .none kV_need_numbers dc_need_numbers pm_need_numbers an_need_numbers cd_need_numbers ct_need_numbers), sl_need_numbers⟩) (c_need_numbers : PySem.W.codeIn K cd_need_numbers "need_numbers" = true) (k_need_numbers : PySem.W.keepIn K (.ref f_need_numbers) = true)
    {f_Turn_has : Addr} {od_Turn_has an_Turn_has : Option Addr} {sl_Turn_has : Array (Option Value)} {oc_Turn_has kV_Turn_has dc_Turn_has pm_Turn_has cd_Turn_has ct_Turn_has : Value}
    (a_Turn_has : PySem.W.findIn K (.ref C_Turn) "has" = some (some (.ref f_Turn_has))) (i_Turn_has : PySem.W.isFn K (.ref f_Turn_has) = true) (l_Turn_has : K.lookup f_Turn_has = some ⟨oc_Turn_has, od_Turn_has, .func (PySem.W.fnOf "has" "Turn.has" (defArgs s_Turn_has) (defBody s_Turn_has) (defScope s_Turn_has) .none kV_Turn_has dc_Turn_has pm_Turn_has an_Turn_has cd_Turn_has ct_Turn_has), sl_Turn_has⟩) (c_Turn_has : PySem.W.codeIn K cd_Turn_has "Turn.has" = true) (k_Turn_has : PySem.W.keepIn K (.ref f_Turn_has) = true)
    {f_Turn_members : Addr} {od_Turn_members an_Turn_members : Option Addr} {sl_Turn_members : Array (Option Value)} {oc_Turn_members kV_Turn_members dc_Turn_members pm_Turn_members cd_Turn_members ct_Turn_members : Value}
    (a_Turn_members : PySem.W.findIn K (.ref C_Turn) "members" = some (some (.ref f_Turn_members))) (i_Turn_members : PySem.W.isFn K (.ref f_Turn_members) = true) (l_Turn_members : K.lookup f_Turn_members = some ⟨oc_Turn_members, od_Turn_members, .func (PySem.W.fnOf "members" "Turn.members" (defArgs s_Turn_members) (defBody s_Turn_members) (defScope s_Turn_members) .none kV_Turn_members dc_Turn_members pm_Turn_members an_Turn_members cd_Turn_members ct_Turn_members), sl_Turn_members⟩) (c_Turn_members : PySem.W.codeIn K cd_Turn_members "Turn.members" = true) (k_Turn_members : PySem.W.keepIn K (.ref f_Turn_members) = true)
    {f_Turn_moved : Addr} {od_Turn_moved an_Turn_moved : Option Addr} {sl_Turn_moved : Array (Option Value)} {oc_Turn_moved kV_Turn_moved dc_Turn_moved pm_Turn_moved cd_Turn_moved ct_Turn_moved : Value}
    (a_Turn_moved : PySem.W.findIn K (.ref C_Turn) "moved" = some (some (.ref f_Turn_moved))) (i_Turn_moved : PySem.W.isFn K (.ref f_Turn_moved) = true) (l_Turn_moved : K.lookup f_Turn_moved = some ⟨oc_Turn_moved, od_Turn_moved, .func (PySem.W.fnOf "moved" "Turn.moved" (defArgs s_Turn_moved) (defBody s_Turn_moved) (defScope s_Turn_moved) .none kV_Turn_moved dc_Turn_moved pm_Turn_moved an_Turn_moved cd_Turn_moved ct_Turn_moved), sl_Turn_moved⟩) (c_Turn_moved : PySem.W.codeIn K cd_Turn_moved "Turn.moved" = true) (k_Turn_moved : PySem.W.keepIn K (.ref f_Turn_moved) = true)
    {f_picked : Addr} {od_picked an_picked : Option Addr} {sl_picked : Array (Option Value)} {oc_picked kV_picked dc_picked pm_picked cd_picked ct_picked : Value}
    (a_picked : PySem.W.nsIn K mainGlobals "picked" = some (some (.ref f_picked))) (l_picked : K.lookup f_picked = some ⟨oc_picked, od_picked, .func (PySem.W.fnOf "picked" "picked" (defArgs s_picked) (defBody s_picked) (defScope s_picked) .none kV_picked dc_picked pm_picked an_picked cd_picked ct_picked), sl_picked⟩) (c_picked : PySem.W.codeIn K cd_picked "picked" = true) (k_picked : PySem.W.keepIn K (.ref f_picked) = true)
    {f__law_bad : Addr} {od__law_bad an__law_bad : Option Addr} {sl__law_bad : Array (Option Value)} {oc__law_bad kV__law_bad dc__law_bad pm__law_bad cd__law_bad ct__law_bad : Value}
    (a__law_bad : PySem.W.nsIn K mainGlobals "_law_bad" = some (some (.ref f__law_bad))) (l__law_bad : K.lookup f__law_bad = some ⟨oc__law_bad, od__law_bad, .func (PySem.W.fnOf "_law_bad" "_law_bad" (defArgs s__law_bad) (defBody s__law_bad) (defScope s__law_bad) .none kV__law_bad dc__law_bad pm__law_bad an__law_bad cd__law_bad ct__law_bad), sl__law_bad⟩) (c__law_bad : PySem.W.codeIn K cd__law_bad "_law_bad" = true) (k__law_bad : PySem.W.keepIn K (.ref f__law_bad) = true)
    {f__law_refused : Addr} {od__law_refused an__law_refused : Option Addr} {sl__law_refused : Array (Option Value)} {oc__law_refused kV__law_refused dc__law_refused pm__law_refused cd__law_refused ct__law_refused : Value}
    (a__law_refused : PySem.W.nsIn K mainGlobals "_law_refused" = some (some (.ref f__law_refused))) (l__law_refused : K.lookup f__law_refused = some ⟨oc__law_refused, od__law_refused, .func (PySem.W.fnOf "_law_refused" "_law_refused" (defArgs s__law_refused) (defBody s__law_refused) (defScope s__law_refused) .none kV__law_refused dc__law_refused pm__law_refused an__law_refused cd__law_refused ct__law_refused), sl__law_refused⟩) (c__law_refused : PySem.W.codeIn K cd__law_refused "_law_refused" = true) (k__law_refused : PySem.W.keepIn K (.ref f__law_refused) = true)
    {f__law_told : Addr} {od__law_told an__law_told : Option Addr} {sl__law_told : Array (Option Value)} {oc__law_told kV__law_told dc__law_told pm__law_told cd__law_told ct__law_told : Value}
    (a__law_told : PySem.W.nsIn K mainGlobals "_law_told" = some (some (.ref f__law_told))) (l__law_told : K.lookup f__law_told = some ⟨oc__law_told, od__law_told, .func (PySem.W.fnOf "_law_told" "_law_told" (defArgs s__law_told) (defBody s__law_told) (defScope s__law_told) .none kV__law_told dc__law_told pm__law_told an__law_told cd__law_told ct__law_told), sl__law_told⟩) (c__law_told : PySem.W.codeIn K cd__law_told "_law_told" = true) (k__law_told : PySem.W.keepIn K (.ref f__law_told) = true)
    {f__law_picked : Addr} {od__law_picked an__law_picked : Option Addr} {sl__law_picked : Array (Option Value)} {oc__law_picked kV__law_picked dc__law_picked pm__law_picked cd__law_picked ct__law_picked : Value}
    (a__law_picked : PySem.W.nsIn K mainGlobals "_law_picked" = some (some (.ref f__law_picked))) (l__law_picked : K.lookup f__law_picked = some ⟨oc__law_picked, od__law_picked, .func (PySem.W.fnOf "_law_picked" "_law_picked" (defArgs s__law_picked) (defBody s__law_picked) (defScope s__law_picked) .none kV__law_picked dc__law_picked pm__law_picked an__law_picked cd__law_picked ct__law_picked), sl__law_picked⟩) (c__law_picked : PySem.W.codeIn K cd__law_picked "_law_picked" = true) (k__law_picked : PySem.W.keepIn K (.ref f__law_picked) = true)
    {f_law : Addr} {od_law an_law : Option Addr} {sl_law : Array (Option Value)} {oc_law kV_law dc_law pm_law cd_law ct_law : Value}
    (a_law : PySem.W.nsIn K mainGlobals "law" = some (some (.ref f_law))) (l_law : K.lookup f_law = some ⟨oc_law, od_law, .func (PySem.W.fnOf "law" "law" (defArgs s_law) (defBody s_law) (defScope s_law) .none kV_law dc_law pm_law an_law cd_law ct_law), sl_law⟩) (c_law : PySem.W.codeIn K cd_law "law" = true) (k_law : PySem.W.keepIn K (.ref f_law) = true) : Txt K mg := by
  have e_NoTurn : cA mg "NoTurn" = C_NoTurn := cA_of (PySem.W.mg_of X G aC_NoTurn)
  have e_Turn : cA mg "Turn" = C_Turn := cA_of (PySem.W.mg_of X G aC_Turn)
  exact ⟨(PySem.W.mg_none_of X G z_n_len), (PySem.W.mg_none_of X G z_n_enumerate), (PySem.W.mg_none_of X G z_n_range), (PySem.W.mg_none_of X G z_n_bool), (PySem.W.mg_none_of X G z_n_int), (PySem.W.mg_none_of X G z_n_isinstance), (⟨_, PySem.W.mg_of X G z_g_CIRCLE, y_g_CIRCLE⟩), (by rw [e_NoTurn]; exact PySem.W.mg_of X G aC_NoTurn), (by rw [e_NoTurn]; exact ⟨xx_NoTurn, xk_NoTurn, xb_NoTurn, xt_NoTurn⟩), (by rw [e_Turn]; exact PySem.W.mg_of X G aC_Turn), (by rw [e_Turn]; exact ⟨pg_Turn, hd_Turn, po_Turn, sa_Turn⟩), (by rw [e_Turn]; exact na_Turn_start), (by rw [e_Turn]; exact na_Turn_many), (PySem.W.mg_none_of X G z_n_list), (⟨_, PySem.W.mg_of X G z_g_MOST_TURNS, y_g_MOST_TURNS⟩), (by rw [e_NoTurn]; exact ⟨yb_NoTurn, yi_NoTurn, yt_NoTurn⟩), (by rw [e_NoTurn]; exact es_NoTurn_NoTurn), (⟨f__law_cell_at, _, fun_mk (st := s__law_cell_at) l__law_cell_at c__law_cell_at k__law_cell_at, PySem.W.mg_of X G a__law_cell_at, (fun_mk (st := s__law_cell_at) l__law_cell_at c__law_cell_at k__law_cell_at).binds (ps := ["_law_script", "_law_k"]) fun _ _ _ _ _ _ us hl => match us, hl with | [_, _], _ => rfl⟩), (⟨f__law_mix, _, fun_mk (st := s__law_mix) l__law_mix c__law_mix k__law_mix, PySem.W.mg_of X G a__law_mix, (fun_mk (st := s__law_mix) l__law_mix c__law_mix k__law_mix).binds (ps := ["_law_cell", "_law_k"]) fun _ _ _ _ _ _ us hl => match us, hl with | [_, _], _ => rfl⟩), (⟨f__law_numbers, _, fun_mk (st := s__law_numbers) l__law_numbers c__law_numbers k__law_numbers, PySem.W.mg_of X G a__law_numbers, (fun_mk (st := s__law_numbers) l__law_numbers c__law_numbers k__law_numbers).binds (ps := ["_law_cell", "_law_digits", "_law_bases"]) fun _ _ _ _ _ _ us hl => match us, hl with | [_, _, _], _ => rfl⟩), (⟨f__law_marks, _, fun_mk (st := s__law_marks) l__law_marks c__law_marks k__law_marks, PySem.W.mg_of X G a__law_marks, (fun_mk (st := s__law_marks) l__law_marks c__law_marks k__law_marks).binds (ps := ["_law_start", "_law_many"]) fun _ _ _ _ _ _ us hl => match us, hl with | [_, _], _ => rfl⟩), (⟨f__law_turn, _, fun_mk (st := s__law_turn) l__law_turn c__law_turn k__law_turn, PySem.W.mg_of X G a__law_turn, (fun_mk (st := s__law_turn) l__law_turn c__law_turn k__law_turn).binds (ps := ["_law_cell", "_law_digits"]) fun _ _ _ _ _ _ us hl => match us, hl with | [_, _], _ => rfl⟩), (⟨f_is_whole, _, fun_mk (st := s_is_whole) l_is_whole c_is_whole k_is_whole, PySem.W.mg_of X G a_is_whole, (fun_mk (st := s_is_whole) l_is_whole c_is_whole k_is_whole).binds (ps := ["thing", "low", "high"]) fun _ _ _ _ _ _ us hl => match us, hl with | [_, _, _], _ => rfl⟩), (⟨f_need_number, _, fun_mk (st := s_need_number) l_need_number c_need_number k_need_number, PySem.W.mg_of X G a_need_number, (fun_mk (st := s_need_number) l_need_number c_need_number k_need_number).binds (ps := ["thing"]) fun _ _ _ _ _ _ us hl => match us, hl with | [_], _ => rfl⟩), (⟨f_need_many, _, fun_mk (st := s_need_many) l_need_many c_need_many k_need_many, PySem.W.mg_of X G a_need_many, (fun_mk (st := s_need_many) l_need_many c_need_many k_need_many).binds (ps := ["thing"]) fun _ _ _ _ _ _ us hl => match us, hl with | [_], _ => rfl⟩), (by rw [e_Turn]; exact ⟨f_Turn___init__, _, fun_mk (st := s_Turn___init__) l_Turn___init__ c_Turn___init__ k_Turn___init__, ⟨mk_Turn, a_Turn___init__, i_Turn___init__, kc_Turn⟩, (fun_mk (st := s_Turn___init__) l_Turn___init__ c_Turn___init__ k_Turn___init__).binds (ps := ["self", "start", "many"]) fun _ _ _ _ _ _ us hl => match us, hl with | [_, _, _], _ => rfl⟩), (⟨f_need_numbers, _, fun_mk (st := s_need_numbers) l_need_numbers c_need_numbers k_need_numbers, PySem.W.mg_of X G a_need_numbers, (fun_mk (st := s_need_numbers) l_need_numbers c_need_numbers k_need_numbers).binds (ps := ["thing"]) fun _ _ _ _ _ _ us hl => match us, hl with | [_], _ => rfl⟩), (by rw [e_Turn]; exact ⟨f_Turn_has, _, fun_mk (st := s_Turn_has) l_Turn_has c_Turn_has k_Turn_has, ⟨a_Turn_has, i_Turn_has, k_Turn_has⟩, (fun_mk (st := s_Turn_has) l_Turn_has c_Turn_has k_Turn_has).binds (ps := ["self", "number"]) fun _ _ _ _ _ _ us hl => match us, hl with | [_, _], _ => rfl⟩), (by rw [e_Turn]; exact ⟨f_Turn_members, _, fun_mk (st := s_Turn_members) l_Turn_members c_Turn_members k_Turn_members, ⟨a_Turn_members, i_Turn_members, k_Turn_members⟩, (fun_mk (st := s_Turn_members) l_Turn_members c_Turn_members k_Turn_members).binds (ps := ["self", "numbers"]) fun _ _ _ _ _ _ us hl => match us, hl with | [_, _], _ => rfl⟩), (by rw [e_Turn]; exact ⟨f_Turn_moved, _, fun_mk (st := s_Turn_moved) l_Turn_moved c_Turn_moved k_Turn_moved, ⟨a_Turn_moved, i_Turn_moved, k_Turn_moved⟩, (fun_mk (st := s_Turn_moved) l_Turn_moved c_Turn_moved k_Turn_moved).binds (ps := ["self", "by"]) fun _ _ _ _ _ _ us hl => match us, hl with | [_, _], _ => rfl⟩), (⟨f_picked, _, fun_mk (st := s_picked) l_picked c_picked k_picked, PySem.W.mg_of X G a_picked, (fun_mk (st := s_picked) l_picked c_picked k_picked).binds (ps := ["start", "manys", "numbers"]) fun _ _ _ _ _ _ us hl => match us, hl with | [_, _, _], _ => rfl⟩), (⟨f__law_bad, _, fun_mk (st := s__law_bad) l__law_bad c__law_bad k__law_bad, PySem.W.mg_of X G a__law_bad, (fun_mk (st := s__law_bad) l__law_bad c__law_bad k__law_bad).binds (ps := ["_law_number"]) fun _ _ _ _ _ _ us hl => match us, hl with | [_], _ => rfl⟩), (⟨f__law_refused, _, fun_mk (st := s__law_refused) l__law_refused c__law_refused k__law_refused, PySem.W.mg_of X G a__law_refused, (fun_mk (st := s__law_refused) l__law_refused c__law_refused k__law_refused).binds (ps := ["_law_way", "_law_turn_here", "_law_thing"]) fun _ _ _ _ _ _ us hl => match us, hl with | [_, _, _], _ => rfl⟩), (⟨f__law_told, _, fun_mk (st := s__law_told) l__law_told c__law_told k__law_told, PySem.W.mg_of X G a__law_told, (fun_mk (st := s__law_told) l__law_told c__law_told k__law_told).binds (ps := ["_law_turn_here", "_law_numbers_here", "_law_marks_here"]) fun _ _ _ _ _ _ us hl => match us, hl with | [_, _, _], _ => rfl⟩), (⟨f__law_picked, _, fun_mk (st := s__law_picked) l__law_picked c__law_picked k__law_picked, PySem.W.mg_of X G a__law_picked, (fun_mk (st := s__law_picked) l__law_picked c__law_picked k__law_picked).binds (ps := ["_law_start", "_law_numbers_here", "_law_cell", "_law_digits"]) fun _ _ _ _ _ _ us hl => match us, hl with | [_, _, _, _], _ => rfl⟩), (⟨f_law, _, fun_mk (st := s_law) l_law c_law k_law, PySem.W.mg_of X G a_law, (fun_mk (st := s_law) l_law c_law k_law).binds (ps := ["_law_script"]) fun _ _ _ _ _ _ us hl => match us, hl with | [_], _ => rfl⟩)⟩
theorem law_mk {P : Program} {w : World} {K : PySem.W.Frag} {mg : Str → Option Value} {fa : Addr} (T : Txt K mg) (hfa : mg "law" = some (.ref fa)) :
    ∃ fd : FuncData, (∀ (s : Shared) (v : Value), BindsTo s fd ⟨[v], []⟩ [("_law_script", v)]) ∧ ∀ base : Heap, K.In base → base.Ns mainGlobals mg → FnOk P w K mg base CX0 7 fa fd ["_law_script"] (sp_law K mg) := by
  obtain ⟨f, fd, F, hm, b⟩ := T.d_law.ex
  have e := hfa.symm.trans hm
  cases e
  refine ⟨fd, fun s v => ?_, fun base _ _ => c_law T F⟩
  obtain ⟨oc, od, kV, doc, pm, an, cdv, ct, osl, rfl, lk, hcd⟩ := F.ex
  exact .of_eq rfl
end My
open PySem PySem.W PyProof.Rows
set_option maxRecDepth 100000 in
set_option maxHeartbeats 0 in
theorem PySem.Challenge.cw_fewspeak_k61_numbers_in_turns_holds : PySem.Challenge.rw_fewspeak_k61_numbers_in_turns.Holds := by
  w_on; o_law; k_head; (case hw => w_witness2)
  k_fill
  refine L2.walk_ofB (l := PySem.Challenge.rw_fewspeak_k61_numbers_in_turns) (n := 63) (k := 7) (x := "_law_script") (CX := fun _ => L2.CX0) (sp := fun w => My.sp_law _ (fun _ => none)) rfl (by decide) rfl ⟨rfl, by decide, by decide⟩ (fun w h Y => PySem.W.kIn_of Y) ?F (fun _ _ a ns hl hb _ hS => ⟨ns, hS, hl, hb, fun _ => rfl⟩) (fun _ _ _ _ _ h => h)
  case F =>
    intro w mg fa h KX G hmg
    refine' My.law_mk (My.txt_mk KX G ?z_n_len ?z_n_enumerate ?z_n_range ?z_n_bool ?z_n_int ?z_n_isinstance ?z_g_CIRCLE ?y_g_CIRCLE ?aC_NoTurn ?xx_NoTurn ?xk_NoTurn ?xb_NoTurn ?xt_NoTurn ?aC_Turn ?pg_Turn ?hd_Turn ?po_Turn ?sa_Turn ?mk_Turn ?kc_Turn ?na_Turn_start ?na_Turn_many ?z_n_list ?z_g_MOST_TURNS ?y_g_MOST_TURNS ?yb_NoTurn ?yi_NoTurn ?yt_NoTurn ?es_NoTurn_NoTurn ?a__law_cell_at ?l__law_cell_at ?c__law_cell_at ?k__law_cell_at ?a__law_mix ?l__law_mix ?c__law_mix ?k__law_mix ?a__law_numbers ?l__law_numbers ?c__law_numbers ?k__law_numbers ?a__law_marks ?l__law_marks ?c__law_marks ?k__law_marks ?a__law_turn ?l__law_turn ?c__law_turn ?k__law_turn ?a_is_whole ?l_is_whole ?c_is_whole ?k_is_whole ?a_need_number ?l_need_number ?c_need_number ?k_need_number ?a_need_many ?l_need_many ?c_need_many ?k_need_many ?a_Turn___init__ ?i_Turn___init__ ?l_Turn___init__ ?c_Turn___init__ ?k_Turn___init__ ?a_need_numbers ?l_need_numbers ?c_need_numbers ?k_need_numbers ?a_Turn_has ?i_Turn_has ?l_Turn_has ?c_Turn_has ?k_Turn_has ?a_Turn_members ?i_Turn_members ?l_Turn_members ?c_Turn_members ?k_Turn_members ?a_Turn_moved ?i_Turn_moved ?l_Turn_moved ?c_Turn_moved ?k_Turn_moved ?a_picked ?l_picked ?c_picked ?k_picked ?a__law_bad ?l__law_bad ?c__law_bad ?k__law_bad ?a__law_refused ?l__law_refused ?c__law_refused ?k__law_refused ?a__law_told ?l__law_told ?c__law_told ?k__law_told ?a__law_picked ?l__law_picked ?c__law_picked ?k__law_picked ?a_law ?l_law ?c_law ?k_law) hmg
    (case z_n_len => k_is)
    (case z_n_enumerate => k_is)
    (case z_n_range => k_is)
    (case z_n_bool => k_is)
    (case z_n_int => k_is)
    (case z_n_isinstance => k_is)
    (case z_g_CIRCLE => k_is)
    (case y_g_CIRCLE => exact ⟨_, rfl⟩)
    (case aC_NoTurn => k_is)
    (case xx_NoTurn => k_exc)
    (case xk_NoTurn => k_is)
    (case xb_NoTurn => k_is)
    (case xt_NoTurn => k_is)
    (case aC_Turn => k_is)
    (case pg_Turn => k_is)
    (case hd_Turn => k_is)
    (case po_Turn => k_is)
    (case sa_Turn => k_is)
    (case mk_Turn => k_is)
    (case kc_Turn => k_is)
    (case na_Turn_start => k_is)
    (case na_Turn_many => k_is)
    (case z_n_list => k_is)
    (case z_g_MOST_TURNS => k_is)
    (case y_g_MOST_TURNS => exact ⟨_, rfl⟩)
    (case yb_NoTurn => k_is)
    (case yi_NoTurn => k_is)
    (case yt_NoTurn => k_is)
    (case es_NoTurn_NoTurn => first | rfl | k_is)
    (case a__law_cell_at => k_is)
    (case l__law_cell_at => k_is)
    (case c__law_cell_at => k_is)
    (case k__law_cell_at => k_is)
    (case a__law_mix => k_is)
    (case l__law_mix => k_is)
    (case c__law_mix => k_is)
    (case k__law_mix => k_is)
    (case a__law_numbers => k_is)
    (case l__law_numbers => k_is)
    (case c__law_numbers => k_is)
    (case k__law_numbers => k_is)
    (case a__law_marks => k_is)
    (case l__law_marks => k_is)
    (case c__law_marks => k_is)
    (case k__law_marks => k_is)
    (case a__law_turn => k_is)
    (case l__law_turn => k_is)
    (case c__law_turn => k_is)
    (case k__law_turn => k_is)
    (case a_is_whole => k_is)
    (case l_is_whole => k_is)
    (case c_is_whole => k_is)
    (case k_is_whole => k_is)
    (case a_need_number => k_is)
    (case l_need_number => k_is)
    (case c_need_number => k_is)
    (case k_need_number => k_is)
    (case a_need_many => k_is)
    (case l_need_many => k_is)
    (case c_need_many => k_is)
    (case k_need_many => k_is)
    (case a_Turn___init__ => k_is)
    (case i_Turn___init__ => k_is)
    (case l_Turn___init__ => k_is)
    (case c_Turn___init__ => k_is)
    (case k_Turn___init__ => k_is)
    (case a_need_numbers => k_is)
    (case l_need_numbers => k_is)
    (case c_need_numbers => k_is)
    (case k_need_numbers => k_is)
    (case a_Turn_has => k_is)
    (case i_Turn_has => k_is)
    (case l_Turn_has => k_is)
    (case c_Turn_has => k_is)
    (case k_Turn_has => k_is)
    (case a_Turn_members => k_is)
    (case i_Turn_members => k_is)
    (case l_Turn_members => k_is)
    (case c_Turn_members => k_is)
    (case k_Turn_members => k_is)
    (case a_Turn_moved => k_is)
    (case i_Turn_moved => k_is)
    (case l_Turn_moved => k_is)
    (case c_Turn_moved => k_is)
    (case k_Turn_moved => k_is)
    (case a_picked => k_is)
    (case l_picked => k_is)
    (case c_picked => k_is)
    (case k_picked => k_is)
    (case a__law_bad => k_is)
    (case l__law_bad => k_is)
    (case c__law_bad => k_is)
    (case k__law_bad => k_is)
    (case a__law_refused => k_is)
    (case l__law_refused => k_is)
    (case c__law_refused => k_is)
    (case k__law_refused => k_is)
    (case a__law_told => k_is)
    (case l__law_told => k_is)
    (case c__law_told => k_is)
    (case k__law_told => k_is)
    (case a__law_picked => k_is)
    (case l__law_picked => k_is)
    (case c__law_picked => k_is)
    (case k__law_picked => k_is)
    (case a_law => k_is)
    (case l_law => k_is)
    (case c_law => k_is)
    (case k_law => k_is)
#print axioms PySem.Challenge.cw_fewspeak_k61_numbers_in_turns_holds

