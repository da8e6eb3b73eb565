import PyProof.Rows.All
import Wide.All
import OpenK.AllK
import Wide.FinOn
import HandS.ForMost
import HandS.Exc
import HandS.TryOnly
import HandS.ExcOwn
import HandS.WordsExc
import HandS.Wide
import HandS.IsInst
import HandS.EndBits
import HandS.Conv
import HandS.Style
import HandS.TupAny
import HandS.Evl
import HandS.Walk
import HandS.Sort
import PySem.Challenge.RW_fewspeak_k01_names_and_numbers
set_option Elab.async false
set_option linter.all false
set_option maxRecDepth 100000
set_option maxHeartbeats 4000000
namespace Kt
open PySem PySem.Spec PyProof.Rows L2
/-- a def of the top, as it stands behind the top -/
structure DefAt (K : PySem.W.Frag) (mg : Str → Option Value) (x : Str) (st : Stmt) (ps : List Str) : Prop where
  ex : ∃ (f : Addr) (fd : FuncData), Fun K x x st f fd ∧ mg x = some (.ref f) ∧ Binds K fd ps []
/-- a method of the class at C -/
structure MethAt (K : PySem.W.Frag) (C : Addr) (m qual : Str) (st : Stmt) (ps : List Str) : Prop where
  ex : ∃ (f : Addr) (fd : FuncData), Fun K m qual st f fd ∧ Meth K C m f ∧ Binds K fd ps []
structure InitAt (K : PySem.W.Frag) (C : Addr) (qual : Str) (st : Stmt) (ps : List Str) : Prop where
  ex : ∃ (f : Addr) (fd : FuncData), Fun K "__init__" qual st f fd ∧ Mk K C f ∧ Binds K fd ps []
/-- the class that a name of the module holds -/
def cA (mg : Str → Option Value) (x : Str) : Addr := match mg x with | some (.ref a) => a | _ => 0
theorem cA_of {mg : Str → Option Value} {x : Str} {a : Addr} (h : mg x = some (.ref a)) : cA mg x = a := by unfold cA; rw [h]
/-- a def that may be called by its name; a method of the class at C; a class that may be made -/
structure Cal (P : Program) (w : World) (K : PySem.W.Frag) (mg : Str → Option Value) (base : Heap) (k : Nat) (x : Str) (sp : Sp) : Prop where
  ex : ∃ (f : Addr) (fd : FuncData) (ps : List Str), FnOk P w K mg base CX0 k f fd ps sp ∧ mg x = some (.ref f) ∧ PySem.W.keepIn K (.ref f) = true ∧ Binds K fd ps []
structure Met (P : Program) (w : World) (K : PySem.W.Frag) (mg : Str → Option Value) (base : Heap) (k : Nat) (C : Addr) (m : Str) (sp : Sp) : Prop where
  ex : ∃ (f : Addr) (fd : FuncData) (ps : List Str), Cls K C ∧ Meth K C m f ∧ FnOk P w K mg base CX0 k f fd ps sp ∧ Binds K fd ps []
structure Mak (P : Program) (w : World) (K : PySem.W.Frag) (mg : Str → Option Value) (base : Heap) (k : Nat) (x : Str) (C : Addr) (sp : Sp) : Prop where
  ex : ∃ (f : Addr) (fd : FuncData) (ps : List Str), Mk K C f ∧ FnOk P w K mg base CX0 k f fd ps sp ∧ mg x = some (.ref C) ∧ Binds K fd ps []
section
variable {P : Program} {w : World} {K : PySem.W.Frag} {mg : Str → Option Value} {base : Heap}
theorem DefAt.cal {x : Str} {st : Stmt} {N ps : List Str} {k : Nat} {sp : Sp} (d : DefAt K mg x st ps) (S : FnScope N ps (defScope st)) (len : ∀ vs H Q E, sp vs H Q E → vs.length = ps.length)
    (hbody : ∀ (f : Addr) (cdv : Value) (A : Around) (outer : List Env) (s : Shared) (H : Hp) (vs : List V) (Q : VK) (E : XK), Room k (A.deeper (envOfC x (defScope st) s.heap.objs.size f cdv)) → sp vs H Q E →
      ∃ t, PSs (cxOf CX0 P w K mg base N x (defScope st) f cdv A outer s H E).nox (defBody st) t ∧ t { nx := fun _ H' => Q .non H', rt := Q } (start N vs) H) : Cal P w K mg base (k + 1) x sp := by
  obtain ⟨f, fd, F, hm, b⟩ := d.ex
  exact ⟨f, fd, ps, F.ok S len (hbody f), hm, F.kp, b⟩
theorem MethAt.met {C : Addr} {m qual : Str} {st : Stmt} {N ps : List Str} {k : Nat} {sp : Sp} (c : Cls K C) (d : MethAt K C m qual st ps) (S : FnScope N ps (defScope st)) (len : ∀ vs H Q E, sp vs H Q E → vs.length = ps.length)
    (hbody : ∀ (f : Addr) (cdv : Value) (A : Around) (outer : List Env) (s : Shared) (H : Hp) (vs : List V) (Q : VK) (E : XK), Room k (A.deeper (envOfC qual (defScope st) s.heap.objs.size f cdv)) → sp vs H Q E →
      ∃ t, PSs (cxOf CX0 P w K mg base N qual (defScope st) f cdv A outer s H E).nox (defBody st) t ∧ t { nx := fun _ H' => Q .non H', rt := Q } (start N vs) H) : Met P w K mg base (k + 1) C m sp := by
  obtain ⟨f, fd, F, hm, b⟩ := d.ex
  exact ⟨f, fd, ps, c, hm, F.ok S len (hbody f), b⟩
theorem InitAt.mak {x : Str} {C : Addr} {qual : Str} {st : Stmt} {N ps : List Str} {k : Nat} {sp : Sp} (hx : mg x = some (.ref C)) (d : InitAt K C qual st ps) (S : FnScope N ps (defScope st)) (len : ∀ vs H Q E, sp vs H Q E → vs.length = ps.length)
    (hbody : ∀ (f : Addr) (cdv : Value) (A : Around) (outer : List Env) (s : Shared) (H : Hp) (vs : List V) (Q : VK) (E : XK), Room k (A.deeper (envOfC qual (defScope st) s.heap.objs.size f cdv)) → sp vs H Q E →
      ∃ t, PSs (cxOf CX0 P w K mg base N qual (defScope st) f cdv A outer s H E).nox (defBody st) t ∧ t { nx := fun _ H' => Q .non H', rt := Q } (start N vs) H) : Mak P w K mg base (k + 1) x C sp := by
  obtain ⟨f, fd, F, hm, b⟩ := d.ex
  exact ⟨f, fd, ps, hm, F.ok S len (hbody f), hx, b⟩
/-- a def that may raise -/
structure CalX (P : Program) (w : World) (K : PySem.W.Frag) (mg : Str → Option Value) (base : Heap) (k : Nat) (x : Str) (sp : Sp) : Prop where
  ex : ∃ (f : Addr) (fd : FuncData) (ps : List Str), FnOk P w K mg base (L2.CX P w) k f fd ps sp ∧ mg x = some (.ref f) ∧ PySem.W.keepIn K (.ref f) = true ∧ Binds K fd ps []
theorem DefAt.calX {x : Str} {st : Stmt} {N ps : List Str} {k : Nat} {sp : Sp} (d : DefAt K mg x st ps) (S : FnScope N ps (defScope st)) (len : ∀ vs H Q E, sp vs H Q E → vs.length = ps.length)
    (hbody : ∀ (f : Addr) (cdv : Value) (A : Around) (outer : List Env) (s : Shared) (H : Hp) (vs : List V) (Q : VK) (E : XK), Room k (A.deeper (envOfC x (defScope st) s.heap.objs.size f cdv)) → sp vs H Q E →
      ∃ t, PSs (cxOf (L2.CX P w) P w K mg base N x (defScope st) f cdv A outer s H E) (defBody st) t ∧ t { nx := fun _ H' => Q .non H', rt := Q } (start N vs) H) : CalX P w K mg base (k + 1) x sp := by
  obtain ⟨f, fd, F, hm, b⟩ := d.ex
  exact ⟨f, fd, ps, F.okX S len (hbody f), hm, F.kp, b⟩
end
section
variable {X : Cx} {k j : Nat} {C : Addr} {x m : Str} {sp : Sp} {p pos apos : Pos} {e o : Expr} {es : List Expr} {ta : TE} {t : TA}
theorem pe_c (c : Cal X.prog X.w X.K X.mg X.base k x sp) (hr : Room j X.A) (hk : k ≤ j) (hg : Gl X x) (ha : PA X (e :: es) t)
    (hdb : (x == ("__debug__" : Str)) = false := by decide) (he : starEach (e :: es) X.env = (false, eval e X.env) :: starEach es X.env := by rfl) (hpl : (backTo pos (starEach es X.env)).any (·.1) = false := by rfl) :
    PE X (.Call (.Name x p) (e :: es) [] pos) (tCall sp [] E0 t) := by
  obtain ⟨f, fd, ps, F, hm, kp, b⟩ := c.ex
  exact pe_call F (hr.mono hk) hg hm kp b .nil pass0 ha hdb he hpl
theorem pe_c0 (c : Cal X.prog X.w X.K X.mg X.base k x sp) (hr : Room j X.A) (hk : k ≤ j) (hg : Gl X x)
    (hdb : (x == ("__debug__" : Str)) = false := by decide) :
    PE X (.Call (.Name x p) [] [] pos) (tCall sp [] E0 tNil) := by
  obtain ⟨f, fd, ps, F, hm, kp, b⟩ := c.ex
  exact pe_call0 F (hr.mono hk) hg hm kp b .nil pass0 hdb
theorem pe_mk (c : Mak X.prog X.w X.K X.mg X.base k x C sp) (hr : Room j X.A) (hk : k + 1 ≤ j) (hg : Gl X x) (ha : PA X (e :: es) t)
    (hdb : (x == ("__debug__" : Str)) = false := by decide) (he : starEach (e :: es) X.env = (false, eval e X.env) :: starEach es X.env := by rfl) (hpl : (backTo pos (starEach es X.env)).any (·.1) = false := by rfl) :
    PE X (.Call (.Name x p) (e :: es) [] pos) (tMake C sp [] E0 t) := by
  obtain ⟨f, fd, ps, M, F, hm, b⟩ := c.ex
  exact pe_make M F (hr.mono hk) hg hm b .nil pass0 ha hdb he hpl
theorem pe_mt {pl : Sem Bool} (c : Met X.prog X.w X.K X.mg X.base k C m sp) (hr : Room j X.A) (hk : k ≤ j) (he : PE X o ta) (ha : PA X (e :: es) t)
    (hst : starEach (e :: es) X.env = (false, eval e X.env) :: starEach es X.env := by rfl) (hpl : (backTo pos (starEach es X.env)).any (·.1) = false := by rfl)
    (ht : eval (.Call (.Attribute o m apos) (e :: es) [] pos) X.env = (do
      let ov ← eval o X.env
      standAt apos.atName
      let (f, first) ← holding [ov] (getMethod ov m pl)
      callWith pos f first (backTo pos (starEach (e :: es) X.env)) (backToKw pos (keywordEach [] X.env))) := by rfl) :
    PE X (.Call (.Attribute o m apos) (e :: es) [] pos) (tMeth C m sp [] E0 ta t) := by
  obtain ⟨f, fd, ps, hc, hm, F, b⟩ := c.ex
  exact pe_meth (pl := pl) he hc hm F (hr.mono hk) b .nil pass0 ha hst hpl ht
theorem pe_mt0 {pl : Sem Bool} (c : Met X.prog X.w X.K X.mg X.base k C m sp) (hr : Room j X.A) (hk : k ≤ j) (he : PE X o ta)
    (ht : eval (.Call (.Attribute o m apos) [] [] pos) X.env = (do
      let ov ← eval o X.env
      standAt apos.atName
      let (f, first) ← holding [ov] (getMethod ov m pl)
      callWith pos f first (backTo pos (starEach [] X.env)) (backToKw pos (keywordEach [] X.env))) := by rfl) :
    PE X (.Call (.Attribute o m apos) [] [] pos) (tMeth C m sp [] E0 ta tNil) := by
  obtain ⟨f, fd, ps, hc, hm, F, b⟩ := c.ex
  exact pe_meth0 (pl := pl) he hc hm F (hr.mono hk) b .nil pass0 ht
/-- a call of a def that may raise, where nothing is raised -/
theorem pe_x0 (c : CalX X.prog X.w X.K X.mg X.base k x sp) (hr : Room j X.A) (hk : k ≤ j) (hg : Gl X x) (ha : PA X (e :: es) t)
    (hdb : (x == ("__debug__" : Str)) = false := by decide) (he : starEach (e :: es) X.env = (false, eval e X.env) :: starEach es X.env := by rfl) (hpl : (backTo pos (starEach es X.env)).any (·.1) = false := by rfl) :
    PE X (.Call (.Name x p) (e :: es) [] pos) (tCall sp [] E0 t) := by
  obtain ⟨f, fd, ps, F, hm, kp, b⟩ := c.ex
  exact pe_call F (hr.mono hk) hg hm kp b .nil passL ha hdb he hpl
end
/-- a built-in class as a value -/
theorem pe_ty {X : Cx} {x : Str} {pos : Pos} (n : String) (hg : Gl X x) (hm : X.mg x = none) (hv : bootBuiltins x = some (.type n)) (hn : x ≠ "__name__" := by decide) (hdb : (x == ("__debug__" : Str)) = false := by decide) : PE X (.Name x pos) (tC (.ty n)) :=
  pe_bltn hg hm hv rfl hn hdb
/-- a constant of the module -/
theorem pe_gc {X : Cx} {x : Str} {pos : Pos} {v : V} (hg : Gl X x) (h : ∃ u, X.mg x = some u ∧ RelV v u) (hdb : (x == ("__debug__" : Str)) = false := by decide) : PE X (.Name x pos) (tC v) := by
  obtain ⟨u, h1, h2⟩ := h
  exact pe_glob hg h1 h2 hdb
/-! ### heaps -/
theorem hp_new {H : Hp} {a b : Addr} {o o' : HO} (h : H a = none) (h' : H b = some o') : upd H a o b = some o' := by
  rw [upd_ne (ne_of_none h' h)]; exact h'
theorem hp_same {H H' : Hp} {b : Addr} {o : HO} (e : Same H H') (h : H b = some o) : H' b = some o := e b o h
theorem same_upd {H H' : Hp} {a : Addr} {o : HO} (e : Same H H') (h : H' a = none) : Same H (upd H' a o) := fun b o' q => hp_new h (e b o' q)
theorem same_new {H : Hp} {a : Addr} {o : HO} (h : H a = none) : Same H (upd H a o) := fun b o' q => hp_new h q
theorem cxOf_K {CX : CXT} {P : Program} {w : World} {K : PySem.W.Frag} {mg : Str → Option Value} {base : Heap} {N : List Str} {qual : Str} {scope : Scope} {f : Addr} {cd : Value} {A : Around} {outer : List Env} {s : Shared} {H : Hp} {E : XK} : (cxOf CX P w K mg base N qual scope f cd A outer s H E).nox.K = K := rfl
theorem cxOf_K' {CX : CXT} {P : Program} {w : World} {K : PySem.W.Frag} {mg : Str → Option Value} {base : Heap} {N : List Str} {qual : Str} {scope : Scope} {f : Addr} {cd : Value} {A : Around} {outer : List Env} {s : Shared} {H : Hp} {E : XK} : (cxOf CX P w K mg base N qual scope f cd A outer s H E).K = K := rfl
theorem cxOf_mg {CX : CXT} {P : Program} {w : World} {K : PySem.W.Frag} {mg : Str → Option Value} {base : Heap} {N : List Str} {qual : Str} {scope : Scope} {f : Addr} {cd : Value} {A : Around} {outer : List Env} {s : Shared} {H : Hp} {E : XK} : (cxOf CX P w K mg base N qual scope f cd A outer s H E).nox.mg = mg := rfl
theorem cxOf_mg' {CX : CXT} {P : Program} {w : World} {K : PySem.W.Frag} {mg : Str → Option Value} {base : Heap} {N : List Str} {qual : Str} {scope : Scope} {f : Addr} {cd : Value} {A : Around} {outer : List Env} {s : Shared} {H : Hp} {E : XK} : (cxOf CX P w K mg base N qual scope f cd A outer s H E).mg = mg := rfl
/-- a new tuple, a new list: all that stood stands -/
def NewT (H : Hp) (xs : List V) (Q : VK) : Prop := ∀ p H', H p = none → Same H H' → H' p = some (.tup xs) → Q (.ref p) H'
def NewL (H : Hp) (xs : List V) (Q : VK) : Prop := ∀ p H', H p = none → Same H H' → H' p = some (.lst xs) → Q (.ref p) H'
theorem NewT.at {H : Hp} {xs : List V} {Q : VK} (q : NewT H xs Q) (p : Addr) (h : H p = none) : Q (.ref p) (upd H p (.tup xs)) := q p _ h (same_new h) upd_same
theorem NewL.at {H : Hp} {xs : List V} {Q : VK} (q : NewL H xs Q) (p : Addr) (h : H p = none) : Q (.ref p) (upd H p (.lst xs)) := q p _ h (same_new h) upd_same
theorem NewT.of {H H' : Hp} {xs : List V} {Q : VK} (q : NewT H xs Q) (e : Same H H') : NewT H' xs Q := fun p H2 h s x => q p H2 (e.free h) (e.trans s) x
theorem NewL.of {H H' : Hp} {xs : List V} {Q : VK} (q : NewL H xs Q) (e : Same H H') : NewL H' xs Q := fun p H2 h s x => q p H2 (e.free h) (e.trans s) x
/-! ### readings by name -/
section
variable {X : Cx}
def aAdd (K : PySem.W.Frag) : R2 := fun x y H Q => rI0 (fun i j => .int (i + j)) x y H Q ∨ (∃ i j, x = .str i ∧ y = .str j ∧ i.length + j.length ≤ sizeLine ∧ Q (.str (i ++ j)) H) ∨ rCat x y H Q ∨ rCatA K x y H Q
theorem op_addA : OpR X (binaryOp .Add) (aAdd X.K) := op_add.or (op_add_str.or (op_cat.or op_catA))
def aMul : R2 := fun x y H Q => rI CMulW (fun i j => .int (i * j)) x y H Q ∨ rRep x y H Q
theorem op_mulA : OpR X (binaryOp .Mult) aMul := op_mulW.or op_rep
def aEq (K : PySem.W.Frag) : R2 := fun x y H Q => rEq x y H Q ∨ rEqD K x y H Q
theorem op_eqA {k : Nat} (hr : Room k X.A) : OpR X (compareOp .Eq) (aEq X.K) := op_eq.or (op_eqD hr.units)
def aNe (K : PySem.W.Frag) : R2 := fun x y H Q => rNe x y H Q ∨ rNeD K x y H Q
theorem op_neA {k : Nat} (hr : Room k X.A) : OpR X (compareOp .NotEq) (aNe X.K) := op_ne.or (op_neD hr.units)
def aLe : R2 := fun x y H Q => rI0 (fun i j => .bl (decide (i ≤ j))) x y H Q ∨ ∃ i j, x = .str i ∧ y = .str j ∧ Q (.bl (!decide (j.cps.toList < i.cps.toList))) H
theorem op_leA : OpR X (compareOp .LtE) aLe := op_le.or op_le_str
def aLt : R2 := fun x y H Q => rI0 (fun i j => .bl (decide (i < j))) x y H Q ∨ ∃ i j, x = .str i ∧ y = .str j ∧ Q (.bl (decide (i.cps.toList < j.cps.toList))) H
theorem op_ltA : OpR X (compareOp .Lt) aLt := op_lt.or op_lt_str
def aIn (K : PySem.W.Frag) : R2 := fun x y H Q => (∃ (c : Nat) (z : Str), x = .str ⟨#[c]⟩ ∧ y = .str z ∧ Q (.bl (decide (c ∈ z.cps.toList))) H) ∨ rIn K false x y H Q
theorem op_inA : OpR X (compareOp .In) (aIn X.K) := op_in_sign.or op_in_seq
def aNotIn (K : PySem.W.Frag) : R2 := fun x y H Q => (∃ (c : Nat) (z : Str), x = .str ⟨#[c]⟩ ∧ y = .str z ∧ Q (.bl (!decide (c ∈ z.cps.toList))) H) ∨ rIn K true x y H Q
theorem op_notInA : OpR X (compareOp .NotIn) (aNotIn X.K) := op_notIn_sign.or op_notIn_seq
def aLen (K : PySem.W.Frag) : List V → Hp → VK → Prop := fun xs H Q => (∃ p ys, xs = [.ref p] ∧ (SqL K H p ys ∨ SqT K H p ys) ∧ Q (.int ys.length) H) ∨ (∃ z, xs = [.str z] ∧ z.length ≤ sizeLine ∧ Q (.int z.length) H) ∨ (∃ a kvs, xs = [V.ref a] ∧ H a = some (.dK kvs) ∧ Q (.int kvs.length) H)
theorem call_lenA : CallR X (.builtin "len") (aLen X.K) := call_len_seq.or (call_len_str.or call_lenD)
def aAbs : List V → Hp → VK → Prop := fun xs H Q => ∃ i, xs = [.int i] ∧ Q (.int (if i < 0 then -i else i)) H
theorem call_absA : CallR X (.builtin "abs") aAbs := call_abs
def aMax2 : List V → Hp → VK → Prop := fun xs H Q => ∃ i j, xs = [.int i, .int j] ∧ Q (.int (if j > i then j else i)) H
theorem call_max2A (hc : X.calm = true) : CallR X (.builtin "max") aMax2 := call_max2 hc
def aMin2 : List V → Hp → VK → Prop := fun xs H Q => ∃ i j, xs = [.int i, .int j] ∧ Q (.int (if j < i then j else i)) H
theorem call_min2A (hc : X.calm = true) : CallR X (.builtin "min") aMin2 := call_min2 hc
def aInt1 : List V → Hp → VK → Prop := fun xs H Q => (∃ i, xs = [.int i] ∧ Q (.int i) H) ∨ ∃ k, xs = [.bl k] ∧ Q (.int (if k then 1 else 0)) H
theorem call_int1A : CallR X (.type "int") aInt1 := call_int1
def aStr1 : List V → Hp → VK → Prop := fun xs H Q => ∃ i, xs = [.int i] ∧ i.natAbs.log2 < 1920 ∧ Q (.str (toString i)) H
theorem call_str1A : CallR X (.type "str") aStr1 := call_str_int
def aList1 (K : PySem.W.Frag) : List V → Hp → VK → Prop := fun xs H Q => ∃ p ys, xs = [.ref p] ∧ (SqL K H p ys ∨ SqT K H p ys) ∧ ∀ l, H l = none → Q (.ref l) (upd H l (.lst ys))
theorem call_list1A : CallR X (.type "list") (aList1 X.K) := call_list_of
def aTuple1 (K : PySem.W.Frag) : List V → Hp → VK → Prop := fun xs H Q => ∃ p ys, xs = [.ref p] ∧ ((SqL K H p ys ∧ ∀ l, H l = none → Q (.ref l) (upd H l (.tup ys))) ∨ (SqT K H p ys ∧ Q (.ref p) H))
theorem call_tuple1A : CallR X (.type "tuple") (aTuple1 X.K) := call_tuple_of
def aTru (K : PySem.W.Frag) (ta : TE) : TT := fun σ H Q => ta σ H fun x H' => ∃ k, TruV K x H' k ∧ Q k H'
theorem pt_tru {a : Expr} {ta : TE} (ha : PE X a ta) (he : ∀ whole, isTrue a X.env whole = (do let v ← whole; standAt a.pos; holding [v] (truthy v))) : PT X a (aTru X.K ta) := pt_truth ha he
def aIsN : R2 := fun x y H Q => y = .non ∧ Q (.bl (decide (x = .non))) H
theorem op_isNA : OpR X (compareOp .Is) aIsN := op_isN
def aNotN : R2 := fun x y H Q => y = .non ∧ Q (.bl (!decide (x = .non))) H
theorem op_notNA : OpR X (compareOp .IsNot) aNotN := op_notN
end
/-! ### one step of a reading -/
section
variable {K : PySem.W.Frag} {σ : L2.St} {H : Hp} {N B C : L2.St → Hp → Prop} {R : VK} {t u : TS} {c d : TT} {ta tb te tc : TE} {tr : TA} {Q : VK} {g : TG} {i j : Nat} {v x y : V} {r r' : R2}
theorem L_seq (h : t ⟨u ⟨N, R, B, C⟩, R, B, C⟩ σ H) : tSeq t u ⟨N, R, B, C⟩ σ H := h
theorem L_next (h : N σ H) : tNext ⟨N, R, B, C⟩ σ H := h
theorem L_brk (h : B σ H) : tBreak ⟨N, R, B, C⟩ σ H := h
theorem L_cont (h : C σ H) : tCont ⟨N, R, B, C⟩ σ H := h
theorem L_ret (h : te σ H R) : tRet te ⟨N, R, B, C⟩ σ H := h
theorem L_retN (h : R .non H) : tRetN ⟨N, R, B, C⟩ σ H := h
theorem L_drop (h : te σ H fun _ H1 => N σ H1) : tDrop te ⟨N, R, B, C⟩ σ H := h
theorem L_asg (h : te σ H fun x H1 => g x σ H1 N) : tAsg te g ⟨N, R, B, C⟩ σ H := h
theorem L_gname {Q : L2.St → Hp → Prop} (h : Q (σ.set i (some v)) H) : gName i v σ H Q := h
theorem L_aug {ti : TIp} (hx : σ[i]? = some (some x)) (h : te σ H fun y H1 => ti x y H1 fun z H2 => N (σ.set i (some z)) H2) : tAug i te ti ⟨N, R, B, C⟩ σ H := ⟨x, hx, h⟩
theorem L_ipI {f : Int → Int → Int} {a b : Int} (h : Q (.int (f a b)) H) : ipI f (.int a) (.int b) H Q := ⟨a, b, rfl, rfl, h⟩
theorem L_ifS (h : c σ H fun b H1 => if b = true then t ⟨N, R, B, C⟩ σ H1 else u ⟨N, R, B, C⟩ σ H1) : tIfS c t u ⟨N, R, B, C⟩ σ H := h
theorem L_par (h : tr σ H fun vs H1 => ∃ v w, vs = [v, w] ∧ N ((σ.set i (some v)).set j (some w)) H1) : tPar i j tr ⟨N, R, B, C⟩ σ H := h
theorem L_par3 {l : Nat} (h : tr σ H fun vs H1 => ∃ u v w, vs = [u, v, w] ∧ N (((σ.set i (some u)).set j (some v)).set l (some w)) H1) : tPar3 i j l tr ⟨N, R, B, C⟩ σ H := h
theorem L_vs2 {Q : V → V → Prop} (h : Q x y) : ∃ v w, [x, y] = [v, w] ∧ Q v w := ⟨x, y, rfl, h⟩
theorem L_vs3 {z : V} {Q : V → V → V → Prop} (h : Q x y z) : ∃ u v w, [x, y, z] = [u, v, w] ∧ Q u v w := ⟨x, y, z, rfl, h⟩
theorem L_var (h : σ[i]? = some (some v)) (q : Q v H) : tVar i σ H Q := ⟨v, h, q⟩
theorem L_c (q : Q v H) : tC v σ H Q := q
theorem L_op (h : ta σ H fun x H1 => tb σ H1 fun y H2 => r x y H2 Q) : tOp r ta tb σ H Q := h
theorem L_un {r : V → Hp → VK → Prop} (h : ta σ H fun x H1 => r x H1 Q) : tUn r ta σ H Q := h
theorem L_rU {g : Int → V} {i : Int} (q : Q (g i) H) : rU g (.int i) H Q := ⟨i, rfl, q⟩
theorem L_I0 {g : Int → Int → V} {i j : Int} (q : Q (g i j) H) : rI0 g (.int i) (.int j) H Q := ⟨i, j, rfl, rfl, q⟩
theorem L_I {C : Int → Int → Prop} {g : Int → Int → V} {i j : Int} (hc : C i j) (q : Q (g i j) H) : rI C g (.int i) (.int j) H Q := ⟨i, j, rfl, rfl, hc, q⟩
theorem L_addI {i j : Int} (q : Q (.int (i + j)) H) : aAdd K (.int i) (.int j) H Q := .inl ⟨i, j, rfl, rfl, q⟩
theorem L_addS {a b : Str} (hl : a.length + b.length ≤ sizeLine) (q : Q (.str (a ++ b)) H) : aAdd K (.str a) (.str b) H Q := .inr (.inl ⟨a, b, rfl, rfl, hl, q⟩)
theorem L_addL {a b : Addr} {xs ys : List V} (ha : H a = some (.lst xs)) (hb : H b = some (.lst ys)) (hl : xs.length + ys.length ≤ sizeLine) (q : ∀ p, H p = none → Q (.ref p) (upd H p (.lst (xs ++ ys)))) : aAdd K (.ref a) (.ref b) H Q := .inr (.inr (.inl ⟨a, b, xs, ys, rfl, rfl, ha, hb, hl, q⟩))
theorem L_mulI {i j : Int} (hc : CMulW i j) (q : Q (.int (i * j)) H) : aMul (.int i) (.int j) H Q := .inl ⟨i, j, rfl, rfl, hc, q⟩
theorem L_eqI {i j : Int} (q : Q (.bl (decide (i = j))) H) : aEq K (.int i) (.int j) H Q := .inl ⟨rfl, by rw [show decide (V.int i = V.int j) = decide (i = j) by simp]; exact q⟩
theorem L_eqS {i j : Str} (q : Q (.bl (decide (i = j))) H) : aEq K (.str i) (.str j) H Q := .inl ⟨rfl, by rw [show decide (V.str i = V.str j) = decide (i = j) by simp]; exact q⟩
theorem L_eqB {i j : Bool} (q : Q (.bl (decide (i = j))) H) : aEq K (.bl i) (.bl j) H Q := .inl ⟨rfl, by rw [show decide (V.bl i = V.bl j) = decide (i = j) by simp]; exact q⟩
theorem L_neI {i j : Int} (q : Q (.bl (!decide (i = j))) H) : aNe K (.int i) (.int j) H Q := .inl ⟨rfl, by rw [show decide (V.int i = V.int j) = decide (i = j) by simp]; exact q⟩
theorem L_neS {i j : Str} (q : Q (.bl (!decide (i = j))) H) : aNe K (.str i) (.str j) H Q := .inl ⟨rfl, by rw [show decide (V.str i = V.str j) = decide (i = j) by simp]; exact q⟩
theorem L_eqD {d e : PyData} (hx : Dp K H x d) (hy : Dp K H y e) (sd : SeqAt.shaped d = true) (se : SeqAt.shaped e = true) (q : Q (.bl (PyData.eqv d e)) H) : aEq K x y H Q := .inr ⟨d, e, hx, hy, sd, se, q⟩
theorem L_neD {d e : PyData} (hx : Dp K H x d) (hy : Dp K H y e) (sd : SeqAt.shaped d = true) (se : SeqAt.shaped e = true) (q : Q (.bl (!PyData.eqv d e)) H) : aNe K x y H Q := .inr ⟨d, e, hx, hy, sd, se, q⟩
theorem L_leI {i j : Int} (q : Q (.bl (decide (i ≤ j))) H) : aLe (.int i) (.int j) H Q := .inl ⟨i, j, rfl, rfl, q⟩
theorem L_leS {i j : Str} (q : Q (.bl (!decide (j.cps.toList < i.cps.toList))) H) : aLe (.str i) (.str j) H Q := .inr ⟨i, j, rfl, rfl, q⟩
theorem L_ltI {i j : Int} (q : Q (.bl (decide (i < j))) H) : aLt (.int i) (.int j) H Q := .inl ⟨i, j, rfl, rfl, q⟩
theorem L_isN (q : Q (.bl (decide (x = .non))) H) : aIsN x .non H Q := ⟨rfl, q⟩
theorem L_notN (q : Q (.bl (!decide (x = .non))) H) : aNotN x .non H Q := ⟨rfl, q⟩
theorem L_inC {a : Nat} {z : Str} (q : Q (.bl (decide (a ∈ z.cps.toList))) H) : aIn K (.str ⟨#[a]⟩) (.str z) H Q := .inl ⟨a, z, rfl, rfl, q⟩
theorem L_notInC {a : Nat} {z : Str} (q : Q (.bl (!decide (a ∈ z.cps.toList))) H) : aNotIn K (.str ⟨#[a]⟩) (.str z) H Q := .inl ⟨a, z, rfl, rfl, q⟩
theorem L_fld {f : Str} (h : ta σ H fun x H1 => ∃ a C dx fs v, x = .ref a ∧ H1 a = some (.ins C dx fs) ∧ Cls K C ∧ NoAttr K C f ∧ fs.lookup f = some v ∧ Q v H1) : tFld K ta f σ H Q := h
theorem L_fldv {a C dx : Addr} {fs : List (Str × V)} {f : Str} {Q : V → Prop} (h : H a = some (.ins C dx fs)) (cl : Cls K C) (n : NoAttr K C f) (l : fs.lookup f = some v) (q : Q v) :
    ∃ a' C dx fs v, V.ref a = V.ref a' ∧ H a' = some (.ins C dx fs) ∧ Cls K C ∧ NoAttr K C f ∧ fs.lookup f = some v ∧ Q v := ⟨a, C, dx, fs, v, rfl, h, cl, n, l, q⟩
theorem L_tTest {Q : Bool → Hp → Prop} (h : te σ H fun x H' => ∃ k, x = .bl k ∧ Q k H') : tTest te σ H Q := h
theorem L_tB {Q : Bool → Hp → Prop} (h : te σ H fun x H' => ∃ k, x = .bl k ∧ Q k H') : tB te σ H Q := h
theorem L_k {b : Bool} {Q : Bool → Prop} (q : Q b) : ∃ k, V.bl b = V.bl k ∧ Q k := ⟨b, rfl, q⟩
theorem L_tru {Q : Bool → Hp → Prop} (h : te σ H fun x H' => ∃ k, TruV K x H' k ∧ Q k H') : aTru K te σ H Q := h
theorem L_truB {b : Bool} {Q : Bool → Prop} (q : Q b) : ∃ k, TruV K (.bl b) H k ∧ Q k := ⟨b, rfl, q⟩
theorem L_truI {i : Int} {Q : Bool → Prop} (q : Q (i != 0)) : ∃ k, TruV K (.int i) H k ∧ Q k := ⟨_, rfl, q⟩
theorem L_and {Q : Bool → Hp → Prop} (h : c σ H fun b H1 => if b = true then d σ H1 Q else Q false H1) : tAnd c d σ H Q := h
theorem L_or {Q : Bool → Hp → Prop} (h : c σ H fun b H1 => if b = true then Q true H1 else d σ H1 Q) : tOr c d σ H Q := h
theorem L_not {Q : Bool → Hp → Prop} (h : c σ H fun b H1 => Q (!b) H1) : tNot c σ H Q := h
theorem L_andV (h : ta σ H fun x H1 => ∃ c, x = .bl c ∧ if c = true then tb σ H1 Q else Q (.bl false) H1) : tAndV ta tb σ H Q := h
theorem L_orV (h : ta σ H fun x H1 => ∃ c, x = .bl c ∧ if c = true then Q (.bl true) H1 else tb σ H1 Q) : tOrV ta tb σ H Q := h
theorem L_notV (h : ta σ H fun x H1 => ∃ c, x = .bl c ∧ Q (.bl (!c)) H1) : tNotV ta σ H Q := h
theorem L_ifE (h : c σ H fun b H1 => if b = true then ta σ H1 Q else tb σ H1 Q) : tIf c ta tb σ H Q := h
theorem L_chain (h : ta σ H fun x H1 => tb σ H1 fun y H2 => r x y H2 fun z H3 => ∃ k, z = .bl k ∧ (if k = true then tc σ H3 fun w' H4 => r' y w' H4 Q else Q (.bl false) H3)) : tChain r r' ta tb tc σ H Q := h
theorem L_T {A B : Prop} (a : A) : if true = true then A else B := by rw [if_pos rfl]; exact a
theorem L_F {A B : Prop} (b : B) : if false = true then A else B := by rw [if_neg Bool.false_ne_true]; exact b
theorem L_dT {p : Prop} [Decidable p] {A B : Prop} (h : p) (a : A) : if decide p = true then A else B := by rw [decide_eq_true h]; exact L_T a
theorem L_dF {p : Prop} [Decidable p] {A B : Prop} (h : ¬ p) (b : B) : if decide p = true then A else B := by rw [decide_eq_false h]; exact L_F b
theorem L_d {p : Prop} [Decidable p] {A B : Prop} (a : p → A) (b : ¬ p → B) : if decide p = true then A else B := by
  by_cases h : p
  · exact L_dT h (a h)
  · exact L_dF h (b h)
theorem L_nd {p : Prop} [Decidable p] {A B : Prop} (a : ¬ p → A) (b : p → B) : if (!decide p) = true then A else B := by
  by_cases h : p
  · rw [decide_eq_true h]; exact L_F (b h)
  · rw [decide_eq_false h]; exact L_T (a h)
theorem L_ndT {p : Prop} [Decidable p] {A B : Prop} (h : ¬ p) (a : A) : if (!decide p) = true then A else B := by rw [decide_eq_false h]; exact L_T a
theorem L_ndF {p : Prop} [Decidable p] {A B : Prop} (h : p) (b : B) : if (!decide p) = true then A else B := by rw [decide_eq_true h]; exact L_F b
theorem L_b {k : Bool} {A B : Prop} (a : k = true → A) (b : k = false → B) : if k = true then A else B := by
  cases k with
  | true => exact L_T (a rfl)
  | false => exact L_F (b rfl)
theorem L_nT {A B : Prop} (b : B) : if (!true) = true then A else B := L_F b
theorem L_nF {A B : Prop} (a : A) : if (!false) = true then A else B := L_T a
theorem L_nil {Q : List V → Hp → Prop} (q : Q [] H) : tNil σ H Q := q
theorem L_cons {Q : List V → Hp → Prop} (h : ta σ H fun x H1 => tr σ H1 fun xs H2 => Q (x :: xs) H2) : tCons ta tr σ H Q := h
theorem L_tup (h : tr σ H fun xs H1 => xs.length ≤ sizeLine ∧ ∀ p, H1 p = none → Q (.ref p) (upd H1 p (.tup xs))) : tTup tr σ H Q := h
theorem L_lst (h : tr σ H fun xs H1 => xs.length ≤ sizeLine ∧ ∀ p, H1 p = none → Q (.ref p) (upd H1 p (.lst xs))) : tLst tr σ H Q := h
theorem L_new {n : Nat} {R : Prop} (hl : n ≤ sizeLine) (q : R) : n ≤ sizeLine ∧ R := ⟨hl, q⟩
theorem L_call {sp : Sp} {E : XK} (h : tr σ H fun vs H1 => sp vs H1 Q E) : tCall sp [] E tr σ H Q := by
  unfold tCall
  simp only [List.append_nil]
  exact h
theorem L_cb {r : List V → Hp → VK → Prop} (h : tr σ H fun vs H1 => r vs H1 Q) : tCB r tr σ H Q := h
theorem L_lenL {a : Addr} {xs : List V} (h : SqL K H a xs) (q : Q (.int xs.length) H) : aLen K [.ref a] H Q := .inl ⟨a, xs, rfl, .inl h, q⟩
theorem L_lenT {a : Addr} {xs : List V} (h : SqT K H a xs) (q : Q (.int xs.length) H) : aLen K [.ref a] H Q := .inl ⟨a, xs, rfl, .inr h, q⟩
theorem L_lenS {z : Str} (h : z.length ≤ sizeLine) (q : Q (.int z.length) H) : aLen K [.str z] H Q := .inr (.inl ⟨z, rfl, h, q⟩)
theorem L_abs {i : Int} (q : Q (.int (if i < 0 then -i else i)) H) : aAbs [.int i] H Q := ⟨i, rfl, q⟩
theorem L_max2 {i j : Int} (q : Q (.int (max i j)) H) : aMax2 [.int i, .int j] H Q := ⟨i, j, rfl, by rw [show (if j > i then j else i) = max i j by omega]; exact q⟩
theorem L_min2 {i j : Int} (q : Q (.int (min i j)) H) : aMin2 [.int i, .int j] H Q := ⟨i, j, rfl, by rw [show (if j < i then j else i) = min i j by omega]; exact q⟩
theorem L_int1 {i : Int} (q : Q (.int i) H) : aInt1 [.int i] H Q := .inl ⟨i, rfl, q⟩
theorem L_int1B {k : Bool} (q : Q (.int (if k then 1 else 0)) H) : aInt1 [.bl k] H Q := .inr ⟨k, rfl, q⟩
theorem L_isi {a n : String} {b : Bool} (hx : TyX K H x (.type a)) (hk : kitB a n = some b) (q : Q (.bl b) H) : rIsi K [x, .ty n] H Q := ⟨x, .ty n, .type a, .type n, b, rfl, .ty n, hx, kit_ty hk, q⟩
theorem L_ixL {p : Addr} {xs : List V} {i : Int} (h : SqL K H p xs) (ha : atI xs i = some v) (q : Q v H) : rIx K (.ref p) (.int i) H Q := .inl ⟨p, xs, i, v, rfl, rfl, h, ha, q⟩
theorem L_ixT {p : Addr} {xs : List V} {i : Int} (h : SqT K H p xs) (ha : atI xs i = some v) (q : Q v H) : rIx K (.ref p) (.int i) H Q := .inr (.inl ⟨p, xs, i, v, rfl, rfl, h, ha, q⟩)
theorem L_ixS {z : Str} {i : Int} {a : Nat} (h : z.length ≤ sizeLine) (ha : atI z.cps.toList i = some a) (q : Q (.str ⟨#[a]⟩) H) : rIx K (.str z) (.int i) H Q := .inr (.inr ⟨z, i, a, rfl, rfl, h, ha, q⟩)
theorem L_bm {T : String} {r : V → List V → Hp → VK → Prop} (h : te σ H fun x H1 => tyV K T x H1 ∧ tr σ H1 fun xs H2 => r x xs H2 Q) : tBM K T r te tr σ H Q := h
theorem L_tyL {a : Addr} {xs : List V} {R : Prop} (h : SqL K H a xs) (q : R) : tyV K "list" (.ref a) H ∧ R := ⟨.inl ⟨rfl, xs, h⟩, q⟩
theorem L_app {a : Addr} {xs : List V} (h : H a = some (.lst xs)) (hl : xs.length < sizeLine) (q : Q .non (upd H a (.lst (xs ++ [v])))) : rAppend (.ref a) [v] H Q := ⟨a, xs, v, rfl, rfl, h, hl, q⟩
theorem L_sum {a : Addr} {ns : List Int} (h : SqL K H a (ns.map V.int)) (q : Q (.int ns.sum) H) : rSum K [.ref a] H Q := ⟨a, ns, rfl, h, q⟩
theorem L_while (W : Nat → L2.St → Hp → Prop) (h0 : ∃ m, W m σ H) (hs : ∀ m σ H, W m σ H → c σ H fun b H1 => if b = true then ∃ M : L2.St → Hp → Prop, (∀ σ' H', M σ' H' → ∃ m', m' < m ∧ W m' σ' H') ∧ t ⟨M, R, N, M⟩ σ H1 else N σ H1) : tWhile c t ⟨N, R, B, C⟩ σ H := ⟨W, h0, hs⟩
theorem L_N {W : Nat → L2.St → Hp → Prop} {m : Nat} (h : t ⟨fun σ' H' => ∃ m', m' < m ∧ W m' σ' H', R, N, fun σ' H' => ∃ m', m' < m ∧ W m' σ' H'⟩ σ H) :
    ∃ M : L2.St → Hp → Prop, (∀ σ' H', M σ' H' → ∃ m', m' < m ∧ W m' σ' H') ∧ t ⟨M, R, N, M⟩ σ H := ⟨_, fun _ _ h => h, h⟩
theorem L_cut {Mid : L2.St → Hp → Prop} (h : t ⟨Mid, R, B, C⟩ σ H) (k : ∀ σ' H', Mid σ' H' → u ⟨N, R, B, C⟩ σ' H') : Evl.tCut t u ⟨N, R, B, C⟩ σ H := ⟨Mid, h, k⟩
theorem L_for {wi : TI} (h : wi σ H fun J H1 => ∃ W : Nat → Nat → L2.St → Hp → Prop, (∃ m, W 0 m σ H1) ∧ ∀ i m σ H, W i m σ H →
      (J.stop i H ∧ N σ H) ∨ (J.go i H ∧ ∃ M : L2.St → Hp → Prop, (∀ σ' H', M σ' H' → ∃ m', m' < m ∧ W (i + 1) m' σ' H') ∧ ∀ x H', J.yld i H x H' → g x σ H' fun σ2 H2 => t ⟨M, R, N, M⟩ σ2 H2)) : tFor wi g t ⟨N, R, B, C⟩ σ H := h
theorem L_iRng1 {R : It → Hp → Prop} (h : tr σ H fun vs H1 => ∃ j : Int, vs = [.int j] ∧ -(2 ^ 62) ≤ j ∧ j < 2 ^ 62 ∧ R (Itr 0 j.toNat) H1) : iRng1 tr σ H R := h
theorem L_iRng2 {R : It → Hp → Prop} (h : tr σ H fun vs H1 => ∃ i j : Int, vs = [.int i, .int j] ∧ (-(2 ^ 62) ≤ i ∧ i < 2 ^ 62 ∧ -(2 ^ 62) ≤ j ∧ j < 2 ^ 62) ∧ R (Itr i (j - i).toNat) H1) : iRng2 tr σ H R := h
theorem L_iList {R : It → Hp → Prop} (h : te σ H fun x H1 => ∃ a, x = .ref a ∧ (∃ xs, SqL K H1 a xs) ∧ R (Itl K a) H1) : iList K te σ H R := h
theorem L_iTup {R : It → Hp → Prop} (h : te σ H fun x H1 => ∃ a, x = .ref a ∧ (∃ xs, SqT K H1 a xs) ∧ R (Itt K a) H1) : iTup K te σ H R := h
theorem L_r1 {n : Int} {R : Int → Prop} (h1 : -(2 ^ 62) ≤ n) (h2 : n < 2 ^ 62) (q : R n) : ∃ j : Int, [V.int n] = [V.int j] ∧ -(2 ^ 62) ≤ j ∧ j < 2 ^ 62 ∧ R j := ⟨n, rfl, h1, h2, q⟩
theorem L_r2 {a n : Int} {R : Int → Int → Prop} (h : -(2 ^ 62) ≤ a ∧ a < 2 ^ 62 ∧ -(2 ^ 62) ≤ n ∧ n < 2 ^ 62) (q : R a n) : ∃ i j : Int, [V.int a, V.int n] = [V.int i, V.int j] ∧ (-(2 ^ 62) ≤ i ∧ i < 2 ^ 62 ∧ -(2 ^ 62) ≤ j ∧ j < 2 ^ 62) ∧ R i j := ⟨a, n, rfl, h, q⟩
theorem L_rl {a : Addr} {xs : List V} {R : Addr → Prop} (h : SqL K H a xs) (q : R a) : ∃ b, V.ref a = V.ref b ∧ (∃ xs, SqL K H b xs) ∧ R b := ⟨a, rfl, ⟨xs, h⟩, q⟩
theorem L_rt {a : Addr} {xs : List V} {R : Addr → Prop} (h : SqT K H a xs) (q : R a) : ∃ b, V.ref a = V.ref b ∧ (∃ xs, SqT K H b xs) ∧ R b := ⟨a, rfl, ⟨xs, h⟩, q⟩
end
theorem sz_dec {n : Nat} (h : n ≤ 1000000) : n ≤ sizeLine := Nat.le_trans h (by decide)
theorem sz_lt {n : Nat} (h : n < 1000000) : n < sizeLine := Nat.lt_of_lt_of_le h (by decide)
/-! ### sizes of ints -/
/-- less than n bits -/
def Bd (n : Nat) (i : Int) : Prop := i.natAbs < 2 ^ n
theorem Bd.mono {n m : Nat} {i : Int} (h : Bd n i) (hm : n ≤ m) : Bd m i := Nat.lt_of_lt_of_le h (Nat.pow_le_pow_right (by decide) hm)
theorem Bd.mul {n m : Nat} {i j : Int} (h : Bd n i) (k : Bd m j) : Bd (n + m) (i * j) := wide_lt h k
theorem Bd.add {n m : Nat} {i j : Int} (h : Bd n i) (k : Bd m j) : Bd (max n m + 1) (i + j) := by
  have a := h.mono (Nat.le_max_left n m)
  have b := k.mono (Nat.le_max_right n m)
  unfold Bd at *
  rw [Nat.pow_succ]
  have := Int.natAbs_add_le i j
  omega
theorem Bd.neg {n : Nat} {i : Int} (h : Bd n i) : Bd n (-i) := by unfold Bd at *; rw [Int.natAbs_neg]; exact h
theorem Bd.sub {n m : Nat} {i j : Int} (h : Bd n i) (k : Bd m j) : Bd (max n m + 1) (i - j) := by
  rw [Int.sub_eq_add_neg]; exact h.add k.neg
theorem Bd.cmul {n m : Nat} {i j : Int} (h : Bd n i) (k : Bd m j) (hz : n + m + 2 ≤ 1000000 := by decide) : CMulW i j :=
  wide_mul (h.mono (Nat.le_succ n)) (k.mono (Nat.le_succ m)) (Nat.succ_pos _) (Nat.succ_pos _) (by omega)
theorem Bd.cdiv {n : Nat} {i j : Int} (k : Bd n j) (h : 0 < j) (hz : n + 1 ≤ 9000 := by decide) : CDivW i j := wide_div h (k.mono (Nat.le_succ n)) (Nat.succ_pos _) hz
theorem bd_lit {i : Int} (h : -4294967296 < i ∧ i < 4294967296) : Bd 32 i := by
  unfold Bd
  have : (2 : Nat) ^ 32 = 4294967296 := by decide
  omega
theorem bd_64 {i : Int} (h : -18446744073709551616 < i ∧ i < 18446744073709551616) : Bd 64 i := by
  unfold Bd
  have : (2 : Nat) ^ 64 = 18446744073709551616 := by decide
  omega
/-- an item of the script, or what stands in its place -/
def cellAt (ns : List Int) (k d : Int) : Int := if k < (ns.length : Int) then ns.getD k.toNat 0 else d
theorem cellAt_in {ns : List Int} {k d : Int} (h0 : 0 ≤ k) (h : k < (ns.length : Int)) : atI (ns.map V.int) k = some (V.int (cellAt ns k d)) := by
  obtain ⟨j, rfl⟩ : ∃ j : Nat, k = (j : Int) := ⟨k.toNat, by omega⟩
  have hl : j < ns.length := by omega
  unfold cellAt
  rw [if_pos h]
  refine atI_nat ?_
  rw [List.getElem?_map, List.getElem?_eq_getElem hl]
  simp [List.getD, List.getElem?_eq_getElem hl]
theorem cellAt_out {ns : List Int} {k d : Int} (h : ¬ k < (ns.length : Int)) : cellAt ns k d = d := if_neg h
theorem cellAt_mem {ns : List Int} {k d : Int} (h0 : 0 ≤ k) : cellAt ns k d ∈ ns ∨ cellAt ns k d = d := by
  unfold cellAt
  split
  · rename_i h
    have hl : k.toNat < ns.length := by omega
    left
    simp [List.getD, List.getElem?_eq_getElem hl]
  · exact .inr rfl
theorem _root_.L2.Same.seqT {K : PySem.W.Frag} {H H' : Hp} {a : Addr} {xs : List V} (e : Same H H') (h : SqT K H a xs) : SqT K H' a xs := by
  rcases h with (h | ⟨o, h⟩) | h
  · exact .inl (.inl (e _ _ h))
  · exact .inl (.inr ⟨o, e _ _ h⟩)
  · exact .inr h
/-! ### what is walked: more -/
section
variable {K : PySem.W.Frag} {σ : L2.St} {H : Hp} {te : TE} {tr : TA} {Q : VK} {g : TG} {tt : TT}
theorem L_yes {Q : Bool → Hp → Prop} (q : Q true H) : tYes σ H Q := q
theorem L_iZip {R : It → Hp → Prop} (h : tr σ H fun vs H1 => ∃ a b xs ys, vs = [.ref a, .ref b] ∧ SqL K H1 a xs ∧ SqL K H1 b ys ∧ R (Itz K a b) H1) : iZip K tr σ H R := h
theorem L_iEnum {R : It → Hp → Prop} (h : tr σ H fun vs H1 => ∃ a xs, vs = [.ref a] ∧ SqL K H1 a xs ∧ R (Ite K a) H1) : iEnum K tr σ H R := h
theorem L_iStr {R : It → Hp → Prop} (h : te σ H fun v H1 => ∃ x, v = .str x ∧ R (Its x) H1) : iStr te σ H R := h
theorem L_iRng3 {R : It → Hp → Prop} (h : tr σ H fun vs H1 => ∃ (i j c : Int) (n : Nat), vs = [.int i, .int j, .int c] ∧ RgC i j c n ∧ R (Itc i c n) H1) : iRng3 tr σ H R := h
theorem L_rz {a b : Addr} {xs ys : List V} {R : Addr → Addr → Prop} (h1 : SqL K H a xs) (h2 : SqL K H b ys) (q : R a b) : ∃ a' b' xs ys, [V.ref a, V.ref b] = [.ref a', .ref b'] ∧ SqL K H a' xs ∧ SqL K H b' ys ∧ R a' b' := ⟨a, b, xs, ys, rfl, h1, h2, q⟩
theorem L_re {a : Addr} {xs : List V} {R : Addr → Prop} (h1 : SqL K H a xs) (q : R a) : ∃ a' xs, [V.ref a] = [.ref a'] ∧ SqL K H a' xs ∧ R a' := ⟨a, xs, rfl, h1, q⟩
theorem L_rs {z : Str} {R : Str → Prop} (q : R z) : ∃ x, V.str z = .str x ∧ R x := ⟨z, rfl, q⟩
theorem L_r3 {i j c : Int} {n : Nat} {R : Int → Int → Nat → Prop} (h : RgC i j c n) (q : R i c n) : ∃ (i' j' c' : Int) (n : Nat), [V.int i, V.int j, V.int c] = [.int i', .int j', .int c'] ∧ RgC i' j' c' n ∧ R i' c' n := ⟨i, j, c, n, rfl, h, q⟩
theorem L_lc {wi : TI} {vs : List Nat} (h : wi σ H fun J H1 => ∀ D, H1 D = none → ∃ W : Nat → Nat → Hp → Prop, (∃ m, W 0 m (upd H1 D (.lst []))) ∧ ∀ i m H, W i m H →
  (J.stop i H ∧ Q (.ref D) H) ∨ (J.go i H ∧ ∃ Nx : Hp → Prop, (∀ H', Nx H' → ∃ m', m' < m ∧ W (i + 1) m' H') ∧ ∀ x H', J.yld i H x H' → g x (wipe σ vs) H' fun σ2 H2 => wipe σ2 vs = wipe σ vs ∧ tt σ2 H2 fun b H3 =>
    if b = true then te σ2 H3 fun y H4 => ∃ acc, H4 D = some (.lst acc) ∧ acc.length < sizeLine ∧ Nx (upd H4 D (.lst (acc ++ [y]))) else Nx H3)) : tLc wi g tt te vs σ H Q := h
theorem fm_succ (f : Nat → Option V) (i : Nat) : (List.range (i + 1)).filterMap f = (List.range i).filterMap f ++ (match f i with | some y => [y] | none => []) := by
  rw [List.range_succ, List.filterMap_append]
  cases h : f i <;> simp [h]
theorem fm_len (f : Nat → Option V) (i : Nat) : ((List.range i).filterMap f).length ≤ i := by
  have := List.length_filterMap_le f (List.range i)
  simpa using this
/-- a comprehension whose things are told one by one: f i is what turn i gives, none where its test is false -/
theorem lc_fm {J : It} {n : Nat} {G : Hp → Prop} {Y : Nat → Hp → V → Hp → Prop} (w : L2.Walk J n G Y) {vs : List Nat} {Qd : Addr → Hp → Prop} (f : Nat → Option V) (hn : n ≤ 1000000) (hG : ∀ H', Same H H' → G H')
    (hs : ∀ i x H2 H' (R : V → Hp → Prop) (R' : Hp → Prop), i < n → Same H H2 → Y i H2 x H' → (∀ y H4, f i = some y → Same H2 H4 → R y H4) → (∀ H3, f i = none → Same H2 H3 → R' H3) →
      g x (wipe σ vs) H' fun σ2 H2 => wipe σ2 vs = wipe σ vs ∧ tt σ2 H2 fun b H3 => if b = true then te σ2 H3 R else R' H3)
    (q : ∀ p H', H p = none → Same H H' → H' p = some (.lst ((List.range n).filterMap f)) → Qd p H') :
    ∀ D, H D = none → ∃ W : Nat → Nat → Hp → Prop, (∃ m, W 0 m (upd H D (.lst []))) ∧ ∀ i m H, W i m H →
      (J.stop i H ∧ Qd D H) ∨ (J.go i H ∧ ∃ Nx : Hp → Prop, (∀ H', Nx H' → ∃ m', m' < m ∧ W (i + 1) m' H') ∧ ∀ x H', J.yld i H x H' → g x (wipe σ vs) H' fun σ2 H2 => wipe σ2 vs = wipe σ vs ∧ tt σ2 H2 fun b H3 =>
        if b = true then te σ2 H3 fun y H4 => ∃ acc, H4 D = some (.lst acc) ∧ acc.length < sizeLine ∧ Nx (upd H4 D (.lst (acc ++ [y]))) else Nx H3) := by
  intro D hD
  refine lc_it w (fun i H2 => Same H H2 ∧ H2 D = some (.lst ((List.range i).filterMap f))) ⟨same_new hD, upd_same⟩ (fun i H2 _ p => hG H2 p.1) ?_ (fun H2 p => q D H2 hD p.1 p.2)
  intro i x H2 H' hi ⟨p1, p2⟩ y
  refine hs i x H2 H' _ _ hi p1 y (fun y H4 e s => ?_) (fun H3 e s => ?_)
  · refine ⟨_, s _ _ p2, sz_lt (by have := fm_len f i; omega), ?_, ?_⟩
    · intro b o hb
      rw [upd_ne (ne_of_none hb hD)]
      exact s _ _ (p1 _ _ hb)
    · rw [fm_succ, e]; exact upd_same
  · refine ⟨p1.trans s, ?_⟩
    rw [fm_succ, e, List.append_nil]
    exact s _ _ p2
theorem fm_map {α : Type} (f : Nat → α) (h : α → V) (n : Nat) : (List.range n).filterMap (fun i => some (h (f i))) = ((List.range n).map f).map h := by
  rw [List.map_map]
  induction n with
  | zero => rfl
  | succ n ih => rw [fm_succ (fun i => some (h (f i))), ih, List.range_succ, List.map_append]; rfl
theorem rgC_up {i j c : Int} (hc : 0 < c) (hc2 : c < 1000000) (hi : -1000000000 ≤ i ∧ i ≤ 1000000000) (hj : -1000000000 ≤ j ∧ j ≤ 1000000000) : RgC i j c (if i < j then ((j - i - 1) / c + 1).toNat else 0) := by
  have e : Builtin.Range.rangeSize i j c = ((if i < j then ((j - i - 1) / c + 1).toNat else 0 : Nat) : Int) := by
    unfold Builtin.Range.rangeSize
    rw [if_pos (by omega)]
    split
    · have : 0 ≤ (j - i - 1) / c := Int.ediv_nonneg (by omega) (by omega)
      omega
    · rfl
  refine ⟨by omega, by omega, ?_, e⟩
  unfold Builtin.Range.small
  rw [e]
  have hz : ((if i < j then ((j - i - 1) / c + 1).toNat else 0 : Nat) : Int) * c ≤ 4000000000 ∧ ((if i < j then ((j - i - 1) / c + 1).toNat else 0 : Nat) : Int) ≤ 4000000000 ∧ 0 ≤ ((if i < j then ((j - i - 1) / c + 1).toNat else 0 : Nat) : Int) := by
    split
    · have h0 : 0 ≤ (j - i - 1) / c := Int.ediv_nonneg (by omega) (by omega)
      have h1 : (j - i - 1) / c * c ≤ j - i - 1 := Int.ediv_mul_le _ (by omega)
      have h2 : (j - i - 1) / c ≤ j - i - 1 := Int.ediv_le_self _ (by omega)
      have h3 : (((j - i - 1) / c + 1).toNat : Int) = (j - i - 1) / c + 1 := by omega
      rw [h3, Int.add_mul]
      omega
    · simp
  generalize ((if i < j then ((j - i - 1) / c + 1).toNat else 0 : Nat) : Int) = n at *
  simp only [Builtin.Range.rangeFitsLong, Bool.and_eq_true, Bool.or_eq_true, decide_eq_true_eq, beq_iff_eq]
  refine ⟨by omega, .inr ?_⟩
  rw [if_pos (by omega), Bool.and_eq_true, decide_eq_true_eq, decide_eq_true_eq]
  omega
/-- what making an instance asks -/
def MakeP (C : Addr) (sp : Sp) (E : XK) (vs : List V) (H : Hp) (Q : VK) : Prop := ∀ x dx, H x = none → H dx = none → dx ≠ x → sp (.ref x :: vs) (upd (upd H dx (.own x)) x (.ins C dx [])) (fun v H2 => v = .non ∧ Q (.ref x) H2) E
theorem L_make {C : Addr} {sp : Sp} {E : XK} (h : tr σ H fun vs H1 => MakeP C sp E vs H1 Q) : tMake C sp [] E tr σ H Q := by
  unfold tMake
  simp only [List.append_nil]
  exact h
/-- a new instance: all that stood stands -/
def NewI (H : Hp) (C : Addr) (fs : List (Str × V)) (Q : VK) : Prop := ∀ p H' dx, H p = none → Same H H' → H' p = some (.ins C dx fs) → Q (.ref p) H'
theorem L_gTup {n : Nat} {t : TGs} {a : Addr} {xs : List V} {Q : L2.St → Hp → Prop} (h : SqT K H a xs) (hn : xs.length = n) (q : t xs σ H Q) : gTup K n t (.ref a) σ H Q := ⟨a, xs, rfl, h, hn, q⟩
theorem L_gLst {n : Nat} {t : TGs} {a : Addr} {xs : List V} {Q : L2.St → Hp → Prop} (h : SqL K H a xs) (hn : xs.length = n) (q : t xs σ H Q) : gLst K n t (.ref a) σ H Q := ⟨a, xs, rfl, h, hn, q⟩
theorem L_gCons {v : V} {r : List V} {t : TG} {u : TGs} {Q : L2.St → Hp → Prop} (q : t v σ H fun σ' H' => u r σ' H' Q) : gCons t u (v :: r) σ H Q := ⟨v, r, rfl, q⟩
theorem L_gNil {Q : L2.St → Hp → Prop} (q : Q σ H) : gNil [] σ H Q := ⟨rfl, q⟩
theorem L_sub {to ti : TE} {t : TSet} {v : V} {Q : L2.St → Hp → Prop} (h : to σ H fun o H1 => ti σ H1 fun i H2 => t o i v H2 fun H3 => Q σ H3) : gSub to ti t v σ H Q := h
theorem L_setL {p : Addr} {xs : List V} {k : Int} {j : Nat} {v : V} {Q : Hp → Prop} (h : H p = some (.lst xs)) (hj : ixN xs.length k = some j) (q : Q (upd H p (.lst (xs.set j v)))) : rSetL (.ref p) (.int k) v H Q := ⟨p, xs, k, j, rfl, rfl, h, hj, q⟩
theorem ixN_of {n : Nat} {k : Int} (h0 : 0 ≤ k) (h : k < n) : ixN n k = some k.toNat := by
  unfold ixN
  rw [if_pos h0, if_pos h]
theorem L_sFld {f : Str} {ta tv : TE} {N B C' : L2.St → Hp → Prop} {R : VK} (h : tv σ H fun y H1 => ta σ H1 fun x H2 => ∃ a C dx fs, x = .ref a ∧ H2 a = some (.ins C dx fs) ∧ Cls K C ∧ NoAttr K C f ∧ fs.length < 1000 ∧ N σ (upd H2 a (.ins C dx (putF f y fs)))) : sFld K ta tv f ⟨N, R, B, C'⟩ σ H := h
theorem L_sFldv {a C dx : Addr} {fs : List (Str × V)} {f : Str} {Q : Addr → Addr → Addr → List (Str × V) → Prop} (h : H a = some (.ins C dx fs)) (cl : Cls K C) (n : NoAttr K C f) (l : fs.length < 1000) (q : Q a C dx fs) :
    ∃ a' C dx fs, V.ref a = V.ref a' ∧ H a' = some (.ins C dx fs) ∧ Cls K C ∧ NoAttr K C f ∧ fs.length < 1000 ∧ Q a' C dx fs := ⟨a, C, dx, fs, rfl, h, cl, n, l, q⟩
theorem L_repL {a : Addr} {xs : List V} {k : Int} (h : H a = some (.lst xs)) (h1 : -(2 ^ 63) ≤ k) (h2 : k < 2 ^ 63) (h3 : xs.length * k.toNat ≤ sizeLine) (q : ∀ p, H p = none → Q (.ref p) (upd H p (.lst (List.replicate k.toNat xs).flatten))) : aMul (.ref a) (.int k) H Q := .inr ⟨a, k, xs, rfl, rfl, h, h1, h2, h3, q⟩
theorem atI_int {xs : List V} {k : Int} {v : V} (h0 : 0 ≤ k) (h : xs[k.toNat]? = some v) : atI xs k = some v := by
  obtain ⟨j, rfl⟩ : ∃ j : Nat, k = (j : Int) := ⟨k.toNat, by omega⟩
  exact atI_nat h
theorem atI_ints {xs : List Int} {k : Int} (h0 : 0 ≤ k) (h : k < xs.length) : atI (xs.map V.int) k = some (.int (xs.getD k.toNat 0)) := by
  refine atI_int h0 ?_
  have hl : k.toNat < xs.length := by omega
  rw [List.getElem?_map, List.getElem?_eq_getElem hl]
  simp [List.getD, List.getElem?_eq_getElem hl]
theorem L_nw {xs : List V} {R : Prop} (q : R) (hl : xs.length ≤ 1000000 := by simp) : xs.length ≤ sizeLine ∧ R := ⟨sz_dec hl, q⟩
end
theorem fm_succ' {α : Type} (f : Nat → Option α) (i : Nat) : (List.range (i + 1)).filterMap f = (List.range i).filterMap f ++ (match f i with | some y => [y] | none => []) := by
  rw [List.range_succ, List.filterMap_append]
  cases h : f i <;> simp [h]
theorem fm_len' {α : Type} (f : Nat → Option α) (i : Nat) : ((List.range i).filterMap f).length ≤ i := by
  have := List.length_filterMap_le f (List.range i)
  simpa using this
/-! ### data as trees -/
mutual
theorem Dp_same {K : PySem.W.Frag} {H H' : Hp} (e : Same H H') : ∀ (d : PyData) {v : V}, Dp K H v d → Dp K H' v d
  | .none, _, h => by cases h; exact .non
  | .bool b, _, h => by cases h; exact .bl b
  | .int i, _, h => by cases h; exact .int i
  | .str x, _, h => by cases h; exact .str x
  | .list ds, _, h => by cases h with | lst hs ha => exact .lst (e.seq hs) (DpAll_same e ds ha)
  | .tuple ds, _, h => by cases h with | tup hs ha => exact .tup (e.seqT hs) (DpAll_same e ds ha)
  | .dict _, _, h => by cases h
theorem DpAll_same {K : PySem.W.Frag} {H H' : Hp} (e : Same H H') : ∀ (ds : List PyData) {vs : List V}, DpAll K H vs ds → DpAll K H' vs ds
  | [], _, h => by cases h; exact .nil
  | d :: ds, _, h => by cases h with | cons h1 h2 => exact .cons (Dp_same e d h1) (DpAll_same e ds h2)
end
section
variable {K : PySem.W.Frag} {H H' : Hp} {v : V} {vs : List V} {d : PyData} {ds : List PyData}
theorem _root_.L2.Dp.same (h : Dp K H v d) (e : Same H H') : Dp K H' v d := Dp_same e d h
theorem _root_.L2.DpAll.same (h : DpAll K H vs ds) (e : Same H H') : DpAll K H' vs ds := DpAll_same e ds h
theorem _root_.L2.DpAll.len : ∀ {ds : List PyData} {vs : List V}, DpAll K H vs ds → vs.length = ds.length
  | [], _, h => by cases h; rfl
  | d :: ds, _, h => by cases h with | cons h1 h2 => rw [List.length_cons, List.length_cons, h2.len]
theorem _root_.L2.DpAll.at : ∀ {ds : List PyData} {vs : List V} {i : Nat}, DpAll K H vs ds → ds[i]? = some d → ∃ v, vs[i]? = some v ∧ Dp K H v d
  | [], _, i, h, e => by simp at e
  | c :: ds, _, 0, h, e => by
    cases h with
    | cons h1 h2 =>
      rename_i v vs
      have : c = d := by simpa using e
      subst this
      exact ⟨v, by simp, h1⟩
  | c :: ds, _, i + 1, h, e => by
    cases h with
    | cons h1 h2 =>
      obtain ⟨v, q1, q2⟩ := h2.at (i := i) (by simpa using e)
      exact ⟨v, by simpa using q1, q2⟩
theorem _root_.L2.DpAll.of : ∀ {ds : List PyData} {vs : List V} {i : Nat}, DpAll K H vs ds → vs[i]? = some v → ∃ d, ds[i]? = some d ∧ Dp K H v d
  | [], _, i, h, e => by cases h; simp at e
  | c :: ds, _, 0, h, e => by
    cases h with
    | cons h1 h2 =>
      rename_i w vs
      have : w = v := by simpa using e
      subst this
      exact ⟨c, by simp, h1⟩
  | c :: ds, _, i + 1, h, e => by
    cases h with
    | cons h1 h2 =>
      obtain ⟨d, q1, q2⟩ := h2.of (i := i) (by simpa using e)
      exact ⟨d, by simpa using q1, q2⟩
theorem _root_.L2.DpAll.app : ∀ {ds es : List PyData} {vs us : List V}, DpAll K H vs ds → DpAll K H us es → DpAll K H (vs ++ us) (ds ++ es)
  | [], _, _, _, h, g => by cases h; exact g
  | d :: ds, _, _, _, h, g => by cases h with | cons h1 h2 => exact .cons h1 (h2.app g)
theorem _root_.L2.DpAll.snoc (h : DpAll K H vs ds) (g : Dp K H v d) : DpAll K H (vs ++ [v]) (ds ++ [d]) := h.app (.cons g .nil)
theorem dp_ints : ∀ (ns : List Int), DpAll K H (ns.map V.int) (ns.map PyData.int)
  | [] => .nil
  | n :: ns => .cons (.int n) (dp_ints ns)
theorem dp_strs : ∀ (ns : List Str), DpAll K H (ns.map V.str) (ns.map PyData.str)
  | [] => .nil
  | n :: ns => .cons (.str n) (dp_strs ns)
theorem of_ints : ∀ {ns : List Int} {vs : List V}, DpAll K H vs (ns.map PyData.int) → vs = ns.map V.int
  | [], _, h => by cases h; rfl
  | n :: ns, _, h => by
    cases h with
    | cons h1 h2 => cases h1; rw [of_ints h2]; rfl
theorem of_strs : ∀ {ns : List Str} {vs : List V}, DpAll K H vs (ns.map PyData.str) → vs = ns.map V.str
  | [], _, h => by cases h; rfl
  | n :: ns, _, h => by
    cases h with
    | cons h1 h2 => cases h1; rw [of_strs h2]; rfl
theorem of_tup (h : Dp K H v (.tuple ds)) : ∃ a xs, v = .ref a ∧ SqT K H a xs ∧ DpAll K H xs ds := by
  cases h with | tup h1 h2 => exact ⟨_, _, rfl, h1, h2⟩
theorem of_lst (h : Dp K H v (.list ds)) : ∃ a xs, v = .ref a ∧ SqL K H a xs ∧ DpAll K H xs ds := by
  cases h with | lst h1 h2 => exact ⟨_, _, rfl, h1, h2⟩
theorem of_int {i : Int} (h : Dp K H v (.int i)) : v = .int i := by cases h; rfl
theorem of_str {i : Str} (h : Dp K H v (.str i)) : v = .str i := by cases h; rfl
theorem of_bl {i : Bool} (h : Dp K H v (.bool i)) : v = .bl i := by cases h; rfl
theorem of_non (h : Dp K H v .none) : v = .non := by cases h; rfl
theorem of_t2 {d e : PyData} (h : Dp K H v (.tuple [d, e])) : ∃ a x y, v = .ref a ∧ SqT K H a [x, y] ∧ Dp K H x d ∧ Dp K H y e := by
  obtain ⟨a, xs, rfl, h1, h2⟩ := of_tup h
  cases h2 with
  | cons p1 p2 => cases p2 with | cons p3 p4 => cases p4; exact ⟨a, _, _, rfl, h1, p1, p3⟩
theorem of_t3 {d e f : PyData} (h : Dp K H v (.tuple [d, e, f])) : ∃ a x y z, v = .ref a ∧ SqT K H a [x, y, z] ∧ Dp K H x d ∧ Dp K H y e ∧ Dp K H z f := by
  obtain ⟨a, xs, rfl, h1, h2⟩ := of_tup h
  cases h2 with
  | cons p1 p2 => cases p2 with | cons p3 p4 => cases p4 with | cons p5 p6 => cases p6; exact ⟨a, _, _, _, rfl, h1, p1, p3, p5⟩
theorem of_t4 {d e f g : PyData} (h : Dp K H v (.tuple [d, e, f, g])) : ∃ a x y z w, v = .ref a ∧ SqT K H a [x, y, z, w] ∧ Dp K H x d ∧ Dp K H y e ∧ Dp K H z f ∧ Dp K H w g := by
  obtain ⟨a, xs, rfl, h1, h2⟩ := of_tup h
  cases h2 with
  | cons p1 p2 => cases p2 with | cons p3 p4 => cases p4 with | cons p5 p6 => cases p6 with | cons p7 p8 => cases p8; exact ⟨a, _, _, _, _, rfl, h1, p1, p3, p5, p7⟩
end
/-- the part of a heap at which P holds -/
noncomputable def rs (P : Addr → Prop) (H : Hp) : Hp := fun a => @ite _ (P a) (Classical.propDecidable _) (H a) none
theorem rs_at {P : Addr → Prop} {H : Hp} {a : Addr} {o : HO} (p : P a) (h : H a = some o) : rs P H a = some o := by unfold rs; rw [if_pos p]; exact h
theorem rs_of {P : Addr → Prop} {H : Hp} {a : Addr} {o : HO} (h : rs P H a = some o) : P a ∧ H a = some o := by
  unfold rs at h
  split at h
  · rename_i p; exact ⟨p, h⟩
  · cases h
theorem rs_same {P P' : Addr → Prop} {H H' : Hp} (h : ∀ a o, P a → H a = some o → P' a ∧ H' a = some o) : Same (rs P H) (rs P' H') := fun a o e => by
  obtain ⟨p, q⟩ := rs_of e
  obtain ⟨p', q'⟩ := h a o p q
  exact rs_at p' q'
theorem rs_sub {P : Addr → Prop} {H : Hp} : Same (rs P H) H := fun a o e => (rs_of e).2
theorem rs_in {P : Addr → Prop} {H H' : Hp} (h : ∀ a o, P a → H a = some o → H' a = some o) : Same (rs P H) H' := fun a o e => h a o (rs_of e).1 (rs_of e).2
theorem rs_all {P : Addr → Prop} {H H' : Hp} (h : ∀ a o, H a = some o → P a ∧ H' a = some o) : Same H (rs P H') := fun a o e => rs_at (h a o e).1 (h a o e).2
/-- a list that changes: what stood ahead of it stands -/
theorem same_mut {H H' : Hp} {a : Addr} {o : HO} (e : Same H H') (h : H a = none) : Same H (upd H' a o) := fun b o' q => by
  rw [upd_ne (fun z => by rw [z, h] at q; cases q)]; exact e b o' q
section
variable {K : PySem.W.Frag} {σ : L2.St} {H : Hp} {g : TG} {tt : TT} {te : TE} {tb : TS} {D : Ends} {x y : V} {Q : VK}
theorem L_rlD {v : V} {ds : List PyData} {R : Addr → Prop} (h : Dp K H v (.list ds)) (q : ∀ a, v = .ref a → R a) : ∃ b, v = V.ref b ∧ (∃ xs, SqL K H b xs) ∧ R b := by
  obtain ⟨a, xs, rfl, h1, h2⟩ := of_lst h
  exact ⟨a, rfl, ⟨xs, h1⟩, q a rfl⟩
/-- for x in a list of data -/
theorem for_dp {a : Addr} {ds : List PyData} (h : Dp K H (.ref a) (.list ds)) (Pv : Nat → L2.St → Hp → Prop) (h0 : Pv 0 σ H) (hG : ∀ i σ' H', i ≤ ds.length → Pv i σ' H' → Same H H')
    (hs : ∀ i d x σ' H', i < ds.length → ds[i]? = some d → Pv i σ' H' → Dp K H' x d → g x σ' H' fun σ2 H2 => tb { D with nx := Pv (i + 1), ct := Pv (i + 1), bk := D.nx } σ2 H2) (hd : ∀ σ' H', Pv ds.length σ' H' → D.nx σ' H') :
    ∃ W : Nat → Nat → L2.St → Hp → Prop, (∃ m, W 0 m σ H) ∧ ∀ i m σ H, W i m σ H →
      ((Itl K a).stop i H ∧ D.nx σ H) ∨ ((Itl K a).go i H ∧ ∃ N : L2.St → Hp → Prop, (∀ σ' H', N σ' H' → ∃ m', m' < m ∧ W (i + 1) m' σ' H') ∧ ∀ x H', (Itl K a).yld i H x H' → g x σ H' fun σ2 H2 => tb { D with nx := N, ct := N, bk := D.nx } σ2 H2) := by
  obtain ⟨a', xs, ea, h1, h2⟩ := of_lst h
  cases ea
  have hl := h2.len
  refine for_it walk_list Pv h0 (fun i σ' H' hi p => (hG i σ' H' (by omega) p).seq h1) (fun i x σ' H' H'' hi p ⟨e1, e2⟩ => ?_) (fun σ' H' p => hd σ' H' (by rw [← hl]; exact p))
  subst e1
  obtain ⟨d, e3, e4⟩ := h2.of e2
  exact hs i d x σ' _ (by omega) e3 p (e4.same (hG i σ' _ (by omega) p))
/-- a comprehension: what turn i gives is told as data, or none; the new list's things stand apart from it -/
theorem lc_dp {J : It} {n : Nat} {G : Hp → Prop} {Y : Nat → Hp → V → Hp → Prop} (w : L2.Walk J n G Y) {vs : List Nat} {Qd : Addr → Hp → Prop} (f : Nat → Option PyData) (hn : n ≤ 1000000) (hG : ∀ H', Same H H' → G H')
    (hs : ∀ i x p H2 H' (R : V → Hp → Prop) (R' : Hp → Prop), i < n → H p = none → Same H H2 → (∃ o, H2 p = some o) → Y i H2 x H' → (∀ y d H4, f i = some d → Same H2 H4 → Dp K (rs (· ≠ p) H4) y d → R y H4) → (∀ H3, f i = none → Same H2 H3 → R' H3) →
      g x (wipe σ vs) H' fun σ2 H2 => wipe σ2 vs = wipe σ vs ∧ tt σ2 H2 fun b H3 => if b = true then te σ2 H3 R else R' H3)
    (q : ∀ p H' vs, H p = none → Same H H' → H' p = some (.lst vs) → DpAll K (rs (· ≠ p) H') vs ((List.range n).filterMap f) → Qd p H') :
    ∀ D, H D = none → ∃ W : Nat → Nat → Hp → Prop, (∃ m, W 0 m (upd H D (.lst []))) ∧ ∀ i m H, W i m H →
      (J.stop i H ∧ Qd D H) ∨ (J.go i H ∧ ∃ Nx : Hp → Prop, (∀ H', Nx H' → ∃ m', m' < m ∧ W (i + 1) m' H') ∧ ∀ x H', J.yld i H x H' → g x (wipe σ vs) H' fun σ2 H2 => wipe σ2 vs = wipe σ vs ∧ tt σ2 H2 fun b H3 =>
        if b = true then te σ2 H3 fun y H4 => ∃ acc, H4 D = some (.lst acc) ∧ acc.length < sizeLine ∧ Nx (upd H4 D (.lst (acc ++ [y]))) else Nx H3) := by
  intro D hD
  refine lc_it w (fun i H2 => Same H H2 ∧ ∃ us, H2 D = some (.lst us) ∧ DpAll K (rs (· ≠ D) H2) us ((List.range i).filterMap f)) ⟨same_new hD, [], upd_same, .nil⟩ (fun i H2 _ p => hG H2 p.1) ?_ (fun H2 ⟨p1, us, p2, p3⟩ => q D H2 us hD p1 p2 p3)
  rintro i x H2 H' hi ⟨p1, us, p2, p3⟩ y
  refine hs i x D H2 H' _ _ hi hD p1 ⟨_, p2⟩ y (fun y d H4 e s dy => ?_) (fun H3 e s => ?_)
  · have e4 : Same (rs (· ≠ D) H2) (rs (· ≠ D) H4) := rs_same fun a o h1 h2 => ⟨h1, s _ _ h2⟩
    have e5 : Same (rs (· ≠ D) H4) (rs (· ≠ D) (upd H4 D (.lst (us ++ [y])))) := rs_same fun a o h1 h2 => ⟨h1, by rw [upd_ne h1]; exact h2⟩
    refine ⟨us, s _ _ p2, sz_lt (by have := p3.len; have := fm_len' f i; omega), same_mut (p1.trans s) hD, _, upd_same, ?_⟩
    rw [fm_succ', e]
    exact ((p3.same e4).same e5).snoc (dy.same e5)
  · refine ⟨p1.trans s, us, s _ _ p2, ?_⟩
    rw [fm_succ', e, List.append_nil]
    exact p3.same (rs_same fun a o h1 h2 => ⟨h1, s _ _ h2⟩)
end
/-! ### defs that may raise -/
structure MetX (P : Program) (w : World) (K : PySem.W.Frag) (mg : Str → Option Value) (base : Heap) (k : Nat) (C : Addr) (m : Str) (sp : Sp) : Prop where
  ex : ∃ (f : Addr) (fd : FuncData) (ps : List Str), Cls K C ∧ Meth K C m f ∧ FnOk P w K mg base (L2.CX P w) k f fd ps sp ∧ Binds K fd ps []
structure MakX (P : Program) (w : World) (K : PySem.W.Frag) (mg : Str → Option Value) (base : Heap) (k : Nat) (x : Str) (C : Addr) (sp : Sp) : Prop where
  ex : ∃ (f : Addr) (fd : FuncData) (ps : List Str), Mk K C f ∧ FnOk P w K mg base (L2.CX P w) k f fd ps sp ∧ mg x = some (.ref C) ∧ Binds K fd ps []
section
variable {P : Program} {w : World} {K : PySem.W.Frag} {mg : Str → Option Value} {base : Heap}
theorem MethAt.metX {C : Addr} {m qual : Str} {st : Stmt} {N ps : List Str} {k : Nat} {sp : Sp} (c : Cls K C) (d : MethAt K C m qual st ps) (S : FnScope N ps (defScope st)) (len : ∀ vs H Q E, sp vs H Q E → vs.length = ps.length)
    (hbody : ∀ (f : Addr) (cdv : Value) (A : Around) (outer : List Env) (s : Shared) (H : Hp) (vs : List V) (Q : VK) (E : XK), Room k (A.deeper (envOfC qual (defScope st) s.heap.objs.size f cdv)) → sp vs H Q E →
      ∃ t, PSs (cxOf (L2.CX P w) P w K mg base N qual (defScope st) f cdv A outer s H E) (defBody st) t ∧ t { nx := fun _ H' => Q .non H', rt := Q } (start N vs) H) : MetX P w K mg base (k + 1) C m sp := by
  obtain ⟨f, fd, F, hm, b⟩ := d.ex
  exact ⟨f, fd, ps, c, hm, F.okX S len (hbody f), b⟩
theorem InitAt.makX {x : Str} {C : Addr} {qual : Str} {st : Stmt} {N ps : List Str} {k : Nat} {sp : Sp} (hx : mg x = some (.ref C)) (d : InitAt K C qual st ps) (S : FnScope N ps (defScope st)) (len : ∀ vs H Q E, sp vs H Q E → vs.length = ps.length)
    (hbody : ∀ (f : Addr) (cdv : Value) (A : Around) (outer : List Env) (s : Shared) (H : Hp) (vs : List V) (Q : VK) (E : XK), Room k (A.deeper (envOfC qual (defScope st) s.heap.objs.size f cdv)) → sp vs H Q E →
      ∃ t, PSs (cxOf (L2.CX P w) P w K mg base N qual (defScope st) f cdv A outer s H E) (defBody st) t ∧ t { nx := fun _ H' => Q .non H', rt := Q } (start N vs) H) : MakX P w K mg base (k + 1) x C sp := by
  obtain ⟨f, fd, F, hm, b⟩ := d.ex
  exact ⟨f, fd, ps, hm, F.okX S len (hbody f), hx, b⟩
end
/-- where no exception is wanted -/
theorem passN {X : Cx} (σ : L2.St) : PassesAt (L2.CX X.prog X.w) X σ ((fun _ => E0) σ) := fun pins H s e s' I c => passL pins σ H s e s' I c
/-- x.m(..), C(..), where what is raised is wished for at the caller's slots -/
def tMethE (C : Addr) (m : Str) (sp : Sp) (E : L2.St → XK) (ta : TE) (t : TA) : TE := fun σ H Q => ta σ H fun x H1 => ∃ a dx fs, x = .ref a ∧ H1 a = some (.ins C dx fs) ∧ fs.lookup m = none ∧ t σ H1 fun vs H2 => sp (x :: vs) H2 Q (E σ)
def tMakeE (C : Addr) (sp : Sp) (E : L2.St → XK) (t : TA) : TE := fun σ H Q => t σ H fun vs H1 => ∀ x dx, H1 x = none → H1 dx = none → dx ≠ x →
  sp (.ref x :: vs) (upd (upd H1 dx (.own x)) x (.ins C dx [])) (fun v H2 => v = .non ∧ Q (.ref x) H2) (E σ)
section
variable {X : Cx} {CX : CXT} {k j : Nat} {f C : Addr} {fd : FuncData} {ps : List Str} {x m : Str} {sp : Sp} {p pos apos : Pos} {e o : Expr} {es : List Expr} {ta : TE} {t : TA} {E : L2.St → XK}
theorem run_makeS {pins : List (Addr × Obj)} {σ : L2.St} {H : Hp} {s : Shared} {Q : VK} {us : List Value} {vs : List V} (M : Mk X.K C f) (F : FnOk X.prog X.w X.K X.mg X.base CX k f fd ps sp) (hr : Room (k + 1) X.A) (hb : Binds X.K fd ps [])
    (hx : PassesAt CX X σ (E σ)) (I : Inv X pins σ H s) (r : Vals vs us)
    (h : ∀ x dx, H x = none → H dx = none → dx ≠ x → sp (.ref x :: vs) (upd (upd H dx (.own x)) x (.ins C dx [])) (fun v H2 => v = .non ∧ Q (.ref x) H2) (E σ)) :
    wpAny (model X.prog X.w) X.A (call (.ref C) us) (EP X pins σ Q) X.xe s := by
  have hq := h (s.heap.objs.size + 1) s.heap.objs.size (I.hok.fresh (Nat.le_succ _)) (I.hok.fresh (Nat.le_refl _)) (Nat.ne_of_lt (Nat.lt_succ_self _))
  have I2 := Inv.made (C := C) I
  have r2 : Vals (V.ref (s.heap.objs.size + 1) :: vs) (Value.ref (s.heap.objs.size + 1) :: us) := .cons rfl r
  have hl : (Value.ref (s.heap.objs.size + 1) :: us).length = ps.length := by
    have e := r2.length
    rw [F.len _ _ _ _ hq] at e
    exact e.symm
  have hl2 : ((Value.ref (s.heap.objs.size + 1) :: us) ++ ([] : List Value)).length = ps.length := by rw [List.append_nil]; exact hl
  have b := hb _ (Value.ref (s.heap.objs.size + 1) :: us) I2.kIn hl2
  rw [List.append_nil] at b
  refine wpAny_call (make_map (f := f) I.kIn M.makes M.init (beq_iff_eq.mp M.fn) (codeAny_mono (F.run _ X.stack _ _ ⟨Value.ref (s.heap.objs.size + 1) :: us, []⟩ (Value.ref (s.heap.objs.size + 1) :: us) _ _ (E σ) (hr.make C us [])
    (I2.env0.make C us []) b r2 hq) fun r s' hq' => ?_))
  cases r with
  | error e => exact hx pins _ _ e s' I2 hq'
  | ok fl =>
    cases fl with
    | ret u =>
      obtain ⟨v, H', I3, rv, ev, q3⟩ := I2.after hq'
      subst ev
      exact ⟨rv, ⟨V.ref (s.heap.objs.size + 1), H', I3, rfl, q3⟩⟩
    | next => exact False.elim hq'
    | brk => exact False.elim hq'
    | cont => exact False.elim hq'
theorem pe_xS (c : CalX X.prog X.w X.K X.mg X.base k x sp) (hr : Room j X.A) (hk : k ≤ j) (hg : Gl X x) (hx : ∀ σ, PassesAt (L2.CX X.prog X.w) X σ (E σ)) (ha : PA X (e :: es) t)
    (hdb : (x == ("__debug__" : Str)) = false := by decide) (he : starEach (e :: es) X.env = (false, eval e X.env) :: starEach es X.env := by rfl) (hpl : (backTo pos (starEach es X.env)).any (·.1) = false := by rfl) :
    PE X (.Call (.Name x p) (e :: es) [] pos) (tCallS sp E t) := by
  obtain ⟨f, fd, ps, F, hm, kp, b⟩ := c.ex
  exact pe_callS F (hr.mono hk) hg hm kp b hx ha hdb he hpl
theorem pe_xMk (c : MakX X.prog X.w X.K X.mg X.base k x C sp) (hr : Room j X.A) (hk : k + 1 ≤ j) (hg : Gl X x) (hx : ∀ σ, PassesAt (L2.CX X.prog X.w) X σ (E σ)) (ha : PA X (e :: es) t)
    (hdb : (x == ("__debug__" : Str)) = false := by decide) (he : starEach (e :: es) X.env = (false, eval e X.env) :: starEach es X.env := by rfl) (hpl : (backTo pos (starEach es X.env)).any (·.1) = false := by rfl) :
    PE X (.Call (.Name x p) (e :: es) [] pos) (tMakeE C sp E t) := by
  obtain ⟨f, fd, ps, M, F, hm, hb⟩ := c.ex
  refine ⟨fun pins s σ H Q I h => ?_⟩
  refine wpAny_Call_Name_kw (ld_glob I hg hm ?_ hdb)
  refine PySem.W.callWith_K (h₀ := X.base) I.ok.mod.kin M.kp (thn (ha.run pos pins s σ H _ I h) fun us s1 ⟨vs, H1, I1, r, q⟩ => ⟨I1.kIn, ?_⟩) he hpl
  exact run_makeS M F (hr.mono hk) hb (hx σ) I1 r q
theorem pe_xMt {pl : Sem Bool} (c : MetX X.prog X.w X.K X.mg X.base k C m sp) (hr : Room j X.A) (hk : k ≤ j) (hx : ∀ σ, PassesAt (L2.CX X.prog X.w) X σ (E σ)) (he : PE X o ta) (ha : PA X (e :: es) t)
    (hst : starEach (e :: es) X.env = (false, eval e X.env) :: starEach es X.env := by rfl) (hpl : (backTo pos (starEach es X.env)).any (·.1) = false := by rfl)
    (ht : eval (.Call (.Attribute o m apos) (e :: es) [] pos) X.env = (do
      let ov ← eval o X.env
      standAt apos.atName
      let (f, first) ← holding [ov] (getMethod ov m pl)
      callWith pos f first (backTo pos (starEach (e :: es) X.env)) (backToKw pos (keywordEach [] X.env))) := by rfl) :
    PE X (.Call (.Attribute o m apos) (e :: es) [] pos) (tMethE C m sp E ta t) := by
  obtain ⟨f, fd, ps, hc, hm, F, hb⟩ := c.ex
  refine ⟨fun pins s σ H Q I h => ?_⟩
  refine PySem.W.methodCall_KW (pl := pl) (thn (he.run pins s σ H _ I h) fun u s1 ⟨x, H1, I1, rx, a, dx, fs, ex, ea, l, q⟩ => ?_) ht
  subst ex
  obtain rfl : u = Value.ref a := rx
  refine getmeth_ok I1 ea hc hm l ?_
  refine PySem.W.callWith_K (first := [.ref a]) (h₀ := X.base) I.ok.mod.kin hm.kp (thn (ha.run pos pins s1 σ H1 _ I1 q) fun us s2 ⟨vs, H2, I2, r, q2⟩ => ⟨I2.kIn, ?_⟩) hst hpl
  exact run_fnS (us := .ref a :: us) (vs := .ref a :: vs) F (hr.mono hk) hb (hx σ) I2 (.cons rfl r) q2
theorem pe_xMt0 {pl : Sem Bool} (c : MetX X.prog X.w X.K X.mg X.base k C m sp) (hr : Room j X.A) (hk : k ≤ j) (hx : ∀ σ, PassesAt (L2.CX X.prog X.w) X σ (E σ)) (he : PE X o ta)
    (ht : eval (.Call (.Attribute o m apos) [] [] pos) X.env = (do
      let ov ← eval o X.env
      standAt apos.atName
      let (f, first) ← holding [ov] (getMethod ov m pl)
      callWith pos f first (backTo pos (starEach [] X.env)) (backToKw pos (keywordEach [] X.env))) := by rfl) :
    PE X (.Call (.Attribute o m apos) [] [] pos) (tMethE C m sp E ta tNil) := by
  obtain ⟨f, fd, ps, hc, hm, F, hb⟩ := c.ex
  refine ⟨fun pins s σ H Q I h => ?_⟩
  refine PySem.W.methodCall_KW (pl := pl) (thn (he.run pins s σ H _ I h) fun u s1 ⟨x, H1, I1, rx, a, dx, fs, ex, ea, l, q⟩ => ?_) ht
  subst ex
  obtain rfl : u = Value.ref a := rx
  refine getmeth_ok I1 ea hc hm l ?_
  exact PySem.W.callWith_K0 (first := [.ref a]) I1.kIn hm.kp (run_fnS (us := [.ref a]) (vs := [.ref a]) F (hr.mono hk) hb (hx σ) I1 (.cons rfl .nil) q)
end
/-- an own exception class that is raised; one that is caught -/
structure ExcAt (K : PySem.W.Frag) (C : Addr) : Prop where
  x : PySem.W.excIn K C [.type "ValueError", .type "Exception", .type "BaseException", .type "object"] "ValueError.__new__" = true
  k : PySem.W.keepIn K (.ref C) = true
  b : PySem.W.subIn K (.ref C) (.type "BaseException") = some true
  t : PySem.W.typeIn K (.ref C) = some (.type "type")
structure ExcC (K : PySem.W.Frag) (C : Addr) : Prop where
  b : PySem.W.subIn K (.ref C) (.type "BaseException") = some true
  i : PySem.W.isClsIn K C = true
  t : PySem.W.typeIn K (.ref C) = some (.type "type")
theorem ExcC.exm {K : PySem.W.Frag} {C D : Addr} {r : Bool} (c : ExcC K C) (h : PySem.W.subIn K (.ref D) (.ref C) = some r) : PySem.W.exmOne K (.ref D) (.ref C) = some r := by
  have e1 : (PySem.W.subIn K (.ref C) (.type "BaseException") == some true) = true := by rw [c.b] <;> rfl
  have e2 : ((PySem.W.clsIn K C).isSome && PySem.W.typeIn K (.ref C) == some (.type "type")) = true := by
    have h2' : (PySem.W.clsIn K C).isSome = true := c.i
    rw [h2', c.t] <;> rfl
  show (if (PySem.W.subIn K (.ref C) (.type "BaseException") == some true) = true then (if ((PySem.W.clsIn K C).isSome && PySem.W.typeIn K (.ref C) == some (.type "type")) = true then PySem.W.subIn K (.ref D) (.ref C) else none) else none) = some r
  rw [if_pos e1, if_pos e2]
  exact h
/-- C() -/
theorem pmk_own0 {X : Cx} {C : Addr} {x : Str} {p pos : Pos} (c : ExcAt X.K C) (gC : X.mg x = some (.ref C)) (hg : Gl X x) (hdb : (x == ("__debug__" : Str)) = false := by decide) :
    PMk X (.Call (.Name x p) [] [] pos) (fun _ H Q => Q (.ref C) none H) := by
  intro pins s σ H Q I h
  refine wpAny_Call_Name_kw (ld_glob I hg gC ?_ hdb)
  refine PySem.W.callWith_K0 I.kIn c.k ?_
  obtain ⟨bm, N, nm, qn, bs, hdct, sn, sub, ab, col, dd, k0, k1, k2, k3, k5, mN, hC, hN, hni, T⟩ := exc_obj I.kIn c.x
  refine wpAny_call_exc_subT PySem.F.excBase_ValueError T hC hN hni (fun h' e hm => ?_) (Nat.zero_le _)
  exact mk_of I hm (raises_own c.b c.t) h (I.hok.gone hm.new)
section
variable {K : PySem.W.Frag} {σ : L2.St} {H : Hp} {ta : TE} {tr : TA} {Q : VK} {E : L2.St → XK} {C : Addr} {m : Str} {sp : Sp}
theorem L_callS (h : tr σ H fun vs H1 => sp vs H1 Q (E σ)) : tCallS sp E tr σ H Q := h
theorem L_methE (h : ta σ H fun x H1 => ∃ a dx fs, x = .ref a ∧ H1 a = some (.ins C dx fs) ∧ fs.lookup m = none ∧ tr σ H1 fun vs H2 => sp (x :: vs) H2 Q (E σ)) : tMethE C m sp E ta tr σ H Q := h
theorem L_makeE (h : tr σ H fun vs H1 => MakeP C sp (E σ) vs H1 Q) : tMakeE C sp E tr σ H Q := h
theorem L_meth {E : XK} (h : ta σ H fun x H1 => ∃ a dx fs, x = .ref a ∧ H1 a = some (.ins C dx fs) ∧ fs.lookup m = none ∧ tr σ H1 fun vs H2 => sp (x :: vs) H2 Q E) : tMeth C m sp [] E ta tr σ H Q := by
  unfold tMeth
  simp only [List.append_nil]
  exact h
theorem L_methv {a dx : Addr} {fs : List (Str × V)} {R : Prop} (h : H a = some (.ins C dx fs)) (l : fs.lookup m = none) (q : R) : ∃ a' dx fs, V.ref a = V.ref a' ∧ H a' = some (.ins C dx fs) ∧ fs.lookup m = none ∧ R := ⟨a, dx, fs, rfl, h, l, q⟩
theorem L_only {c : Value} {ts : Addr → Value → Option Addr → TS} {Wout : WX} {D : Ends} {cls : Value} {d : Option Addr} (h : PySem.W.exmOne K cls c = some true) (q : ∀ a, H a = none → ts a cls d D σ H) : wOnly K c ts Wout D cls d σ H := ⟨true, h, fun _ => q, fun z => nomatch z⟩
end
/-- no whole number: another kind of thing, or a truth -/
def NotW (K : PySem.W.Frag) (H : Hp) (v : V) : Prop := (∃ b, v = .bl b) ∨ ∃ a, TyX K H v (.type a) ∧ kitB a "int" = some false
/-- what is_whole denies -/
def BadW (K : PySem.W.Frag) (H : Hp) (v : V) (lo hi : Int) : Prop := NotW K H v ∨ ∃ t, v = .int t ∧ ¬ (lo ≤ t ∧ t ≤ hi)
section
variable {K : PySem.W.Frag} {H : Hp}
theorem notw_non : NotW K H .non := .inr ⟨_, .base .non, by decide +kernel⟩
theorem notw_bl {b : Bool} : NotW K H (.bl b) := .inl ⟨b, rfl⟩
theorem notw_str {z : Str} : NotW K H (.str z) := .inr ⟨_, .base (.str z), by decide +kernel⟩
theorem notw_lst {a : Addr} {xs : List V} (h : H a = some (.lst xs)) : NotW K H (.ref a) := .inr ⟨_, .base (.lst h), by decide +kernel⟩
theorem notw_tup {a : Addr} {xs : List V} (h : H a = some (.tup xs)) : NotW K H (.ref a) := .inr ⟨_, .base (.tup h), by decide +kernel⟩
theorem notw_dK {a : Addr} {xs : List (Key × V)} (h : H a = some (.dK xs)) : NotW K H (.ref a) := .inr ⟨_, .base (.dK h), by decide +kernel⟩
theorem badw_int {t lo hi : Int} (h : ¬ (lo ≤ t ∧ t ≤ hi)) : BadW K H (.int t) lo hi := .inr ⟨t, rfl, h⟩
theorem NotW.bad {v : V} {lo hi : Int} (h : NotW K H v) : BadW K H v lo hi := .inl h
end
section
variable {K : PySem.W.Frag} {H H' : Hp}
theorem tyx_T {a : Addr} {xs : List V} (h : SqT K H a xs) : TyX K H (.ref a) (.type "tuple") := by
  rcases h with (h | ⟨o, h⟩) | ⟨o, _, _, h, c, _⟩
  · exact .base (.tup h)
  · exact .fTuple h
  · exact .kTuple h c
theorem tyx_L {a : Addr} {xs : List V} (h : SqL K H a xs) : TyX K H (.ref a) (.type "list") := by
  rcases h with (h | ⟨o, h⟩) | ⟨o, _, _, h, c, _⟩
  · exact .base (.lst h)
  · exact .base (.frz h)
  · exact .kList h c
variable {σ : L2.St} {Q : VK}
theorem L_sort2 {a : Addr} {x y : Int} (h : SqL K H a [V.int x, V.int y]) (q : ∀ p, H p = none → Q (.ref p) (upd H p (.lst [V.int (min x y), V.int (max x y)]))) : rSorted K [.ref a] H Q := by
  refine ⟨a, [x, y], rfl, h, by simp, fun ns p hp hs hn => ?_⟩
  have hl := hp.length_eq
  match ns, hl with
  | [u, v], _ =>
    have hle : u ≤ v := by simpa using hs
    have hm : (u = x ∧ v = y) ∨ (u = y ∧ v = x) := by
      have h1 : u ∈ [x, y] := hp.mem_iff.mp (by simp)
      have h2 : v ∈ [x, y] := hp.mem_iff.mp (by simp)
      have h3 : x ∈ [u, v] := hp.mem_iff.mpr (by simp)
      have h4 : y ∈ [u, v] := hp.mem_iff.mpr (by simp)
      simp only [List.mem_cons, List.not_mem_nil, or_false] at h1 h2 h3 h4
      rcases h1 with h1 | h1 <;> rcases h2 with h2 | h2 <;> rcases h3 with h3 | h3 <;> rcases h4 with h4 | h4 <;> omega
    have e : [u, v] = [min x y, max x y] := by
      rcases hm with ⟨rfl, rfl⟩ | ⟨rfl, rfl⟩
      · rw [Int.min_eq_left hle, Int.max_eq_right hle]
      · rw [Int.min_eq_right hle, Int.max_eq_left hle]
    rw [e]
    exact q p hn
theorem L_list1 {a : Addr} {xs : List V} (h : SqL K H a xs) (q : ∀ l, H l = none → Q (.ref l) (upd H l (.lst xs))) : aList1 K [.ref a] H Q := ⟨a, xs, rfl, .inl h, q⟩
theorem L_tuple1 {a : Addr} {xs : List V} (h : SqL K H a xs) (q : ∀ l, H l = none → Q (.ref l) (upd H l (.tup xs))) : aTuple1 K [.ref a] H Q := ⟨a, xs, rfl, .inl ⟨h, q⟩⟩
theorem eqv_same {d : PyData} (h : SeqAt.shaped d = true) : PyData.eqv d d = true := SeqAt.eqv_refl d (SeqAt.canLay_of_shaped h)
theorem L_eqR {x y : V} {d : PyData} (hx : Dp K H x d) (hy : Dp K H y d) (s : SeqAt.shaped d = true) (q : Q (.bl true) H) : aEq K x y H Q := L_eqD hx hy s s (by rw [eqv_same s]; exact q)
theorem L_neR {x y : V} {d : PyData} (hx : Dp K H x d) (hy : Dp K H y d) (s : SeqAt.shaped d = true) (q : Q (.bl false) H) : aNe K x y H Q := L_neD hx hy s s (by rw [eqv_same s]; exact q)
theorem L_zipA {a b : Addr} {xs ys : List V} {R : Addr → Addr → Prop} (h1 : SqL K H a xs) (h2 : SqL K H b ys) (q : R a b) : ∃ a' b' xs ys, [V.ref a, V.ref b] = [.ref a', .ref b'] ∧ SqL K H a' xs ∧ SqL K H b' ys ∧ R a' b' := ⟨a, b, xs, ys, rfl, h1, h2, q⟩
end
/-- data that == may be asked of, at most n deep -/
structure Shp (n : Nat) (d : PyData) : Prop where
  c : d.canLay0 = true
  d : d.depth ≤ n
theorem Shp.ok {n : Nat} {d : PyData} (h : Shp n d) (hn : n ≤ 64 := by decide) : SeqAt.shaped d = true := by
  unfold SeqAt.shaped
  rw [h.c, decide_eq_true (Nat.le_trans h.d hn)]; rfl
theorem shp_int {n : Nat} {i : Int} : Shp n (.int i) := ⟨by simp [PyData.canLay0], by simp [PyData.depth]⟩
theorem shp_bl {n : Nat} {i : Bool} : Shp n (.bool i) := ⟨by simp [PyData.canLay0], by simp [PyData.depth]⟩
theorem shp_non {n : Nat} : Shp n .none := ⟨by simp [PyData.canLay0], by simp [PyData.depth]⟩
theorem shp_str {n : Nat} {z : Str} (h : PyData.strOk z = true) : Shp n (.str z) := ⟨by simpa [PyData.canLay0] using h, by simp [PyData.depth]⟩
theorem shp_all {n : Nat} : ∀ {ds : List PyData}, (∀ d ∈ ds, Shp n d) → PyData.canLayAll0 ds = true ∧ PyData.depthAll ds ≤ n
  | [], _ => ⟨by simp [PyData.canLayAll0], by simp [PyData.depthAll]⟩
  | d :: ds, h => by
    have h1 := h d (List.mem_cons_self ..)
    have h2 := shp_all fun x hx => h x (List.mem_cons_of_mem _ hx)
    exact ⟨by simp [PyData.canLayAll0, h1.c, h2.1], by simp only [PyData.depthAll]; exact Nat.max_le.mpr ⟨h1.d, h2.2⟩⟩
theorem shp_lst {n : Nat} {ds : List PyData} (h : ∀ d ∈ ds, Shp n d) : Shp (n + 1) (.list ds) := ⟨by simp only [PyData.canLay0]; exact (shp_all h).1, by simp only [PyData.depth]; have := (shp_all h).2; omega⟩
theorem shp_tup {n : Nat} {ds : List PyData} (h : ∀ d ∈ ds, Shp n d) : Shp (n + 1) (.tuple ds) := ⟨by simp only [PyData.canLay0]; exact (shp_all h).1, by simp only [PyData.depth]; have := (shp_all h).2; omega⟩
theorem shp_nil {n : Nat} : ∀ d ∈ ([] : List PyData), Shp n d := fun _ h => nomatch h
theorem shp_cons {n : Nat} {d : PyData} {ds : List PyData} (h : Shp n d) (t : ∀ d ∈ ds, Shp n d) : ∀ x ∈ d :: ds, Shp n x := fun x hx => by
  rcases List.mem_cons.mp hx with rfl | hx
  · exact h
  · exact t x hx
theorem shp_map {n : Nat} {α : Type} {f : α → PyData} {l : List α} (h : ∀ a ∈ l, Shp n (f a)) : ∀ d ∈ l.map f, Shp n d := fun d hd => by
  obtain ⟨a, ha, rfl⟩ := List.mem_map.mp hd
  exact h a ha
theorem shp_ints {n : Nat} {l : List Int} : Shp (n + 1) (.list (l.map .int)) := shp_lst (shp_map fun _ _ => shp_int)
theorem _root_.L2.Dp.ints {K : PySem.W.Frag} {H : Hp} {a : Addr} {ns : List Int} (h : SqL K H a (ns.map V.int)) : Dp K H (.ref a) (.list (ns.map .int)) := .lst h (dp_ints ns)
section
variable {K : PySem.W.Frag} {H : Hp} {Q : VK}
theorem L_powE {i j n : Int} (h : CPow i j) (e : i ^ j.toNat = n) (q : Q (.int n) H) : rI CPow (fun i j => .int (i ^ j.toNat)) (.int i) (.int j) H Q := ⟨i, j, rfl, rfl, h, by subst e; exact q⟩
/-- one of some ints -/
theorem L_menu {ns : List Int} {p : Addr} {i : Int} (h : SqL K H p (ns.map V.int)) (h0 : 0 ≤ i) (h1 : i < ns.length) (q : ∀ v ∈ ns, Q (.int v) H) : rIx K (.ref p) (.int i) H Q := by
  have hl : i.toNat < ns.length := by omega
  refine L_ixL h (atI_ints h0 h1) (q _ ?_)
  rw [List.getD_eq_getElem?_getD, List.getElem?_eq_getElem hl]
  exact List.getElem_mem hl
/-- an item of a list of ints, some property of all its items kept -/
theorem L_ixP {ns : List Int} {p : Addr} {i : Int} {P : Int → Prop} (h : SqL K H p (ns.map V.int)) (hP : ∀ v ∈ ns, P v) (h0 : 0 ≤ i) (h1 : i < ns.length) (q : ∀ v, P v → Q (.int v) H) : rIx K (.ref p) (.int i) H Q :=
  L_menu h h0 h1 fun v hv => q v (hP v hv)
end
theorem cdiv_lit {i j : Int} (h : 0 < j ∧ j < 1000000000000) : CDivW i j := (bd_64 (by omega)).cdiv h.1
theorem cpow_lit {i j : Int} (h : 0 ≤ j ∧ j ≤ 1000 ∧ -1000000 < i ∧ i < 1000000) : CPow i j := by
  have e : (2 : Nat) ^ 64 = 18446744073709551616 := by decide
  exact ⟨h.1, by omega, by omega⟩
theorem same_newE {H Hn : Hp} {p : Addr} {o : HO} (e : upd H p o = Hn) (h : H p = none) : Same H Hn := e ▸ same_new h
theorem upd_at {H Hn : Hp} {p : Addr} {o : HO} (e : upd H p o = Hn) : Hn p = some o := e ▸ upd_same
section
variable {K : PySem.W.Frag} {H H' : Hp} {p q : Addr} {us xs : List V} {ds : List PyData} {d : PyData} {y : V} {o : HO}
/-- a list grows: its things stand apart from it -/
theorem dp_grow (hdp : DpAll K (rs (· ≠ p) H) us ds) (s : Same H H') (hy : Dp K (rs (· ≠ p) H') y d) : DpAll K (rs (· ≠ p) (upd H' p o)) (us ++ [y]) (ds ++ [d]) :=
  (hdp.same (rs_same fun a u na ha => ⟨na, by rw [upd_ne na]; exact s _ _ ha⟩)).snoc (hy.same (rs_same fun a u na ha => ⟨na, by rw [upd_ne na]; exact ha⟩))
theorem dp_tupN (h : H q = some (.tup xs)) (n : q ≠ p) (ha : DpAll K (rs (· ≠ p) H) xs ds) : Dp K (rs (· ≠ p) H) (.ref q) (.tuple ds) := .tup (.of (rs_at n h)) ha
theorem dp_lstN (h : H q = some (.lst xs)) (n : q ≠ p) (ha : DpAll K (rs (· ≠ p) H) xs ds) : Dp K (rs (· ≠ p) H) (.ref q) (.list ds) := .lst (.of (rs_at n h)) ha
/-- data that stood ahead of p -/
theorem dp_old {H0 : Hp} (h : Dp K H0 y d) (n : H0 p = none) (s : Same H0 H) : Dp K (rs (· ≠ p) H) y d := h.same (rs_all fun a u ha => ⟨fun z => (by rw [z, n] at ha; cases ha), s _ _ ha⟩)
theorem dpA_old {H0 : Hp} (h : DpAll K H0 us ds) (n : H0 p = none) (s : Same H0 H) : DpAll K (rs (· ≠ p) H) us ds := h.same (rs_all fun a u ha => ⟨fun z => (by rw [z, n] at ha; cases ha), s _ _ ha⟩)
theorem dp_whole (h : DpAll K (rs (· ≠ p) H) us ds) (e : H p = some (.lst us)) : Dp K H (.ref p) (.list ds) := .lst (.of e) (h.same rs_sub)
theorem ne_new (h : H p = none) (h' : ∃ o, H q = some o) : p ≠ q := fun z => by
  obtain ⟨o, e⟩ := h'
  rw [z, e] at h; cases h
end
theorem fm_get {α β : Type} (g : α → β) : ∀ (l : List α), (List.range l.length).filterMap (fun i => l[i]?.map g) = l.map g
  | [] => rfl
  | a :: l => by
    have ih := fm_get g l
    rw [List.length_cons, List.range_succ_eq_map]
    simp only [List.filterMap_cons, List.getElem?_cons_zero, Option.map_some, List.filterMap_map, Function.comp_def, List.getElem?_cons_succ, List.map_cons]
    rw [ih]
theorem sum_take {α : Type} {l : List α} {f : α → Int} {i : Nat} {x : α} (h : l[i]? = some x) : ((l.take (i + 1)).map f).sum = ((l.take i).map f).sum + f x := by
  rw [List.take_succ, h]
  simp
theorem sum_takeAll {α : Type} {l : List α} {f : α → Int} {n : Nat} (h : l.length ≤ n) : ((l.take n).map f).sum = (l.map f).sum := by rw [List.take_of_length_le h]
/-! ### loops, the ends told one by one -/
section
variable {K : PySem.W.Frag} {σ : L2.St} {H : Hp} {g : TG} {tb : TS} {N : L2.St → Hp → Prop} {R : VK}
/-- what a for asks behind its iterable -/
abbrev ForT (J : It) (σ : L2.St) (H : Hp) (g : TG) (tb : TS) (N : L2.St → Hp → Prop) (R : VK) : Prop :=
  ∃ W : Nat → Nat → L2.St → Hp → Prop, (∃ m, W 0 m σ H) ∧ ∀ i m σ H, W i m σ H →
      (J.stop i H ∧ N σ H) ∨ (J.go i H ∧ ∃ M : L2.St → Hp → Prop, (∀ σ' H', M σ' H' → ∃ m', m' < m ∧ W (i + 1) m' σ' H') ∧ ∀ x H', J.yld i H x H' → g x σ H' fun σ2 H2 => tb ⟨M, R, N, M⟩ σ2 H2)
theorem f_it {J : It} {n : Nat} {G : Hp → Prop} {Y : Nat → Hp → V → Hp → Prop} (w : L2.Walk J n G Y) (Pv : Nat → L2.St → Hp → Prop) (h0 : Pv 0 σ H) (hG : ∀ i σ H, i ≤ n → Pv i σ H → G H)
    (hs : ∀ i x σ H H', i < n → Pv i σ H → Y i H x H' → g x σ H' fun σ2 H2 => tb ⟨Pv (i + 1), R, N, Pv (i + 1)⟩ σ2 H2) (hd : ∀ σ H, Pv n σ H → N σ H) : ForT J σ H g tb N R :=
  for_it (D := ⟨N, R, N, N⟩) w Pv h0 hG hs hd
theorem f_range {lo : Int} {n : Nat} (Pv : Nat → L2.St → Hp → Prop) (h0 : Pv 0 σ H)
    (hs : ∀ i σ H, i < n → Pv i σ H → g (.int (lo + i)) σ H fun σ2 H2 => tb ⟨Pv (i + 1), R, N, Pv (i + 1)⟩ σ2 H2) (hd : ∀ σ H, Pv n σ H → N σ H) : ForT (Itr lo n) σ H g tb N R :=
  for_range (D := ⟨N, R, N, N⟩) Pv h0 hs hd
theorem f_rangeC {lo c : Int} {n : Nat} (Pv : Nat → L2.St → Hp → Prop) (h0 : Pv 0 σ H)
    (hs : ∀ i σ H, i < n → Pv i σ H → g (.int (lo + (i : Nat) * c)) σ H fun σ2 H2 => tb ⟨Pv (i + 1), R, N, Pv (i + 1)⟩ σ2 H2) (hd : ∀ σ H, Pv n σ H → N σ H) : ForT (Itc lo c n) σ H g tb N R :=
  for_rangeC (D := ⟨N, R, N, N⟩) Pv h0 hs hd
theorem f_dp {a : Addr} {ds : List PyData} (h : Dp K H (.ref a) (.list ds)) (Pv : Nat → L2.St → Hp → Prop) (h0 : Pv 0 σ H) (hG : ∀ i σ' H', i ≤ ds.length → Pv i σ' H' → Same H H')
    (hs : ∀ i d x σ' H', i < ds.length → ds[i]? = some d → Pv i σ' H' → Dp K H' x d → g x σ' H' fun σ2 H2 => tb ⟨Pv (i + 1), R, N, Pv (i + 1)⟩ σ2 H2) (hd : ∀ σ' H', Pv ds.length σ' H' → N σ' H') : ForT (Itl K a) σ H g tb N R :=
  for_dp (D := ⟨N, R, N, N⟩) h Pv h0 hG hs hd
end
section
variable {σ σ' : L2.St} {H : Hp} {i : Nat} {v x : V} {B C : L2.St → Hp → Prop} {N : L2.St → Hp → Prop} {R : VK} {te : TE}
theorem L_gnameE {Q : L2.St → Hp → Prop} (e : σ.set i (some v) = σ') (h : Q σ' H) : gName i v σ H Q := by subst e; exact h
end
section
variable {K : PySem.W.Frag} {H H' : Hp} {σ : L2.St} {Q : VK} {te : TE} {tl th : TO}
theorem TyX_same {v : V} {t : Value} (e : Same H H') (h : TyX K H v t) : TyX K H' v t := by
  cases h with
  | base h =>
    refine .base ?_
    cases h with
    | non => exact .non
    | bl x => exact .bl x
    | int x => exact .int x
    | str x => exact .str x
    | flt x => exact .flt x
    | lst h => exact .lst (e _ _ h)
    | frz h => exact .frz (e _ _ h)
    | tup h => exact .tup (e _ _ h)
    | dK h => exact .dK (e _ _ h)
    | dT h => exact .dT (e _ _ h)
    | ins h cl ha hn htk hm => exact .ins (e _ _ h) cl ha hn htk hm
  | byt b => exact .byt b
  | set h => exact .set (e _ _ h)
  | kList h c => exact .kList h c
  | kTuple h c => exact .kTuple h c
  | kDict h c => exact .kDict h c
  | fTuple h => exact .fTuple (e _ _ h)
  | fDict h => exact .fDict (e _ _ h)
theorem NotW.same {v : V} (h : NotW K H v) (e : Same H H') : NotW K H' v := by
  rcases h with h | ⟨a, h1, h2⟩
  · exact .inl h
  · exact .inr ⟨a, TyX_same e h1, h2⟩
theorem BadW.same {v : V} {lo hi : Int} (h : BadW K H v lo hi) (e : Same H H') : BadW K H' v lo hi := by
  rcases h with h | h
  · exact .inl (h.same e)
  · exact .inr h
theorem L_sl {r : V → Option Int → Option Int → Hp → VK → Prop} (h : te σ H fun x H1 => tl σ H1 fun l H2 => th σ H2 fun u H3 => r x l u H3 Q) : L2.tSl r te tl th σ H Q := h
theorem L_noPart {R : Option Int → Hp → Prop} (h : R none H) : tNoPart σ H R := h
theorem L_part {t : TE} {R : Option Int → Hp → Prop} (h : t σ H fun x H1 => ∃ i, x = .int i ∧ R (some i) H1) : tPart t σ H R := h
theorem L_ki {i : Int} {R : Int → Prop} (h : R i) : ∃ j, V.int i = V.int j ∧ R j := ⟨i, rfl, h⟩
theorem L_slL {a : Addr} {xs : List V} {lo hi : Option Int} (h : SqL K H a xs) (q : ∀ p, H p = none → Q (.ref p) (upd H p (.lst (cutV xs lo hi)))) : rSlL K (.ref a) lo hi H Q := ⟨a, xs, rfl, h, q⟩
end
def cutG {α : Type} (xs : List α) (lo hi : Option Int) : List α := (xs.drop (HT.sIx xs.length 0 lo)).take (HT.sIx xs.length xs.length hi - HT.sIx xs.length 0 lo)
theorem cutV_map {α : Type} (f : α → V) (xs : List α) (lo hi : Option Int) : cutV (xs.map f) lo hi = (cutG xs lo hi).map f := by
  unfold cutV cutG
  rw [List.length_map, List.map_take, List.map_drop]
theorem cutG_mem {α : Type} {xs : List α} {lo hi : Option Int} {x : α} (h : x ∈ cutG xs lo hi) : x ∈ xs := List.mem_of_mem_drop (List.mem_of_mem_take h)
theorem cutG_len {α : Type} (xs : List α) (lo hi : Option Int) : (cutG xs lo hi).length ≤ xs.length := by
  unfold cutG
  rw [List.length_take, List.length_drop]
  omega
section
variable {K : PySem.W.Frag} {H : Hp} {Q : VK}
/-- one of some things -/
theorem L_menuV {xs : List V} {p : Addr} {i : Int} (h : SqL K H p xs) (h0 : 0 ≤ i) (h1 : i < xs.length) (q : ∀ v ∈ xs, Q v H) : rIx K (.ref p) (.int i) H Q := by
  have hl : i.toNat < xs.length := by omega
  exact L_ixL h (atI_int h0 (List.getElem?_eq_getElem hl)) (q _ (List.getElem_mem hl))
end
theorem hpL {K : PySem.W.Frag} {H : Hp} {a : Addr} {xs : List V} (h : H a = some (.lst xs)) : SqL K H a xs := .of h
theorem hpT {K : PySem.W.Frag} {H : Hp} {a : Addr} {xs : List V} (h : H a = some (.tup xs)) : SqT K H a xs := .of h
theorem bd_mod {x n : Int} (h : 0 < n ∧ n < 18446744073709551616) : Bd 64 (x % n) := bd_64 (by
  have h1 := Int.emod_nonneg x (show n ≠ 0 by omega)
  have h2 := Int.emod_lt_of_pos x h.1
  omega)
theorem hp_from {H0 H : Hp} {p : Addr} {o : HO} (h : H0 p = some o) (e : Same H0 H) : H p = some o := e _ _ h
theorem same_via {H H1 H2 : Hp} (b : Same H1 H2) (a : Same H H1) : Same H H2 := a.trans b
theorem same_upd' {H H' : Hp} {a : Addr} {o : HO} (h : H' a = none) (e : Same H H') : Same H (upd H' a o) := same_upd e h
theorem same_mut' {H H' : Hp} {a : Addr} {o : HO} (h : H a = none) (e : Same H H') : Same H (upd H' a o) := same_mut e h
section
variable {K : PySem.W.Frag} {H : Hp} {σ : L2.St} {Q : VK}
theorem L_clear {a : Addr} {xs : List V} (h : H a = some (.lst xs)) (q : Q .non (upd H a (.lst []))) : rClear (.ref a) [] H Q := ⟨a, xs, rfl, rfl, h, q⟩
theorem L_dnew (h : ∀ p, H p = none → Q (.ref p) (upd H p (.dK []))) : tDNewK σ H Q := h
/-- no list -/
def NotL (K : PySem.W.Frag) (H : Hp) (v : V) : Prop := ∃ a, TyX K H v (.type a) ∧ kitB a "list" = some false
theorem notl_tup {a : Addr} {xs : List V} (h : SqT K H a xs) : NotL K H (.ref a) := ⟨_, tyx_T h, by decide +kernel⟩
theorem notl_non : NotL K H .non := ⟨_, .base .non, by decide +kernel⟩
theorem notl_int {i : Int} : NotL K H (.int i) := ⟨_, .base (.int i), by decide +kernel⟩
theorem notl_bl {i : Bool} : NotL K H (.bl i) := ⟨_, .base (.bl i), by decide +kernel⟩
theorem notl_str {i : Str} : NotL K H (.str i) := ⟨_, .base (.str i), by decide +kernel⟩
theorem notl_dK {a : Addr} {xs : List (Key × V)} (h : H a = some (.dK xs)) : NotL K H (.ref a) := ⟨_, .base (.dK h), by decide +kernel⟩
theorem NotL.same {H' : Hp} {v : V} (h : NotL K H v) (e : Same H H') : NotL K H' v := by
  obtain ⟨a, h1, h2⟩ := h
  exact ⟨a, TyX_same e h1, h2⟩
end
theorem rep1 (x : Int) : ∀ n : Nat, (List.replicate n [V.int x]).flatten = (List.replicate n x).map V.int
  | 0 => rfl
  | n + 1 => by rw [List.replicate_succ, List.flatten_cons, rep1 x n]; rfl
section
variable {K : PySem.W.Frag} {H : Hp} {Q : VK}
theorem L_neB {i j : Bool} (q : Q (.bl (!decide (i = j))) H) : aNe K (.bl i) (.bl j) H Q := .inl ⟨rfl, by rw [show decide (V.bl i = V.bl j) = decide (i = j) by simp]; exact q⟩
end
/-! ### for x in xs: check(x) -/
section
variable {K : PySem.W.Frag} {σ : L2.St} {H : Hp} {N : L2.St → Hp → Prop} {R : VK} {a : Addr} {xs : List V} {sp : Sp} {ES : L2.St → XK} {i : Nat} {c : Value}
theorem set_self (σ : L2.St) (i : Nat) (hi : i < σ.length) : ∃ v, σ = σ.set i v := ⟨σ[i], by simp⟩
theorem L_forChk (hL : SqL K H a xs) (hi : i < σ.length) (hok : ∀ x ∈ xs, ∀ Q E, Q .non H → sp [x] H Q E) (q : ∀ v, N (σ.set i v) H) : ForT (Itl K a) σ H (gName i) (tDrop (tCallS sp ES (tCons (tVar i) tNil))) N R := by
  refine f_it walk_list (fun _ σ' H' => H' = H ∧ ∃ v, σ' = σ.set i v) ⟨rfl, set_self σ i hi⟩ (fun _ _ _ _ p => p.1 ▸ hL) ?_ ?_
  · rintro j x σ' H' H'' hj ⟨rfl, v, rfl⟩ ⟨rfl, e⟩
    refine L_gname (L_drop (L_callS (L_cons (L_var (v := x) ?_ (L_nil (hok x (List.mem_of_getElem? e) _ _ ?_))))))
    · simp [hi]
    · exact ⟨rfl, some x, by rw [List.set_set]⟩
  · rintro σ' H' ⟨rfl, v, rfl⟩
    exact q v
theorem L_forChkX (hL : SqL K H a xs) (hi : i < σ.length) (hx : ∀ x ∈ xs, (∀ Q E, Q .non H → sp [x] H Q E) ∨ ∀ Q E, E c none H → sp [x] H Q E) (hb : ∃ x ∈ xs, ∀ Q E, E c none H → sp [x] H Q E) (q : ∀ v, ES (σ.set i v) c none H) :
    ForT (Itl K a) σ H (gName i) (tDrop (tCallS sp ES (tCons (tVar i) tNil))) N R := by
  obtain ⟨x0, hx0, hb0⟩ := hb
  obtain ⟨j0, hj0⟩ := List.mem_iff_getElem?.mp hx0
  refine f_it walk_list (fun j σ' H' => H' = H ∧ (∃ v, σ' = σ.set i v) ∧ ∃ k x, j ≤ k ∧ xs[k]? = some x ∧ ∀ Q E, E c none H → sp [x] H Q E) ⟨rfl, set_self σ i hi, j0, x0, Nat.zero_le _, hj0, hb0⟩ (fun _ _ _ _ p => p.1 ▸ hL) ?_ ?_
  · rintro j x σ' H' H'' hj ⟨rfl, ⟨v, rfl⟩, k, y, hk, hy, hby⟩ ⟨rfl, e⟩
    refine L_gname (L_drop (L_callS (L_cons (L_var (v := x) ?_ (L_nil ?_)))))
    · simp [hi]
    · by_cases hc : ∀ Q E, E c none H'' → sp [x] H'' Q E
      · exact hc _ _ (by rw [List.set_set]; exact q _)
      · refine (hx x (List.mem_of_getElem? e)).resolve_right hc _ _ ⟨rfl, ⟨some x, by rw [List.set_set]⟩, k, y, ?_, hy, hby⟩
        rcases Nat.lt_or_eq_of_le hk with hlt | rfl
        · exact hlt
        · rw [e] at hy
          cases hy
          exact absurd hby hc
  · rintro σ' H' ⟨rfl, ⟨v, rfl⟩, k, y, hk, hy, hby⟩
    have := (List.getElem?_eq_some_iff.mp hy).1
    omega
end
theorem L_bm0 {K : PySem.W.Frag} {σ : L2.St} {H : Hp} {Q : VK} {te : TE} {T : String} {r : V → List V → Hp → VK → Prop} (h : te σ H fun x H1 => tyV K T x H1 ∧ r x [] H1 Q) : tBM0 K T r te σ H Q := h
/-- what an expression's ways have in common -/
theorem L_via {P : VK → Prop} {Q : VK} (R : V → Hp → Prop) (key : ∀ Q : VK, (∀ v H', R v H' → Q v H') → P Q) (q : ∀ v H', R v H' → Q v H') : P Q := key Q q
section
variable {K : PySem.W.Frag} {H : Hp} {σ : L2.St} {Q : VK} {ta tb : TE}
theorem L_disp1 (h : ∀ p, H p = none → ta σ (upd H p (.dK [])) fun k H1 => tb σ H1 fun v H2 => H2 p = some (.dK []) ∧ ∃ kvs : List (Key × V), [(k, v)] = kvs.map (fun kv => (kV kv.1, kv.2)) ∧ kvs.length ≤ 15 ∧ Q (.ref p) (upd H2 p (.dK (mergeK [] kvs)))) : tDisp [(ta, tb)] σ H Q := h
theorem L_dispE1 {p : Addr} {k v : V} (kk : Key) (e : k = kV kk) (h : H p = some (.dK [])) (q : Q (.ref p) (upd H p (.dK [(kk, v)]))) : H p = some (.dK []) ∧ ∃ kvs : List (Key × V), [(k, v)] = kvs.map (fun kv => (kV kv.1, kv.2)) ∧ kvs.length ≤ 15 ∧ Q (.ref p) (upd H p (.dK (mergeK [] kvs))) :=
  ⟨h, [(kk, v)], by rw [e]; rfl, by simp, q⟩
/-- a sign of a text -/
theorem L_ixSany {z : Str} {i : Int} (hz : z.length ≤ 1000000) (h0 : 0 ≤ i) (h1 : i < z.length) (q : ∀ a ∈ z.cps.toList, Q (.str ⟨#[a]⟩) H) : rIx K (.str z) (.int i) H Q := by
  have hl : i.toNat < z.cps.toList.length := by
    have e : z.cps.toList.length = z.length := by rw [Array.length_toList]; rfl
    omega
  have h3 : z.cps.toList[i.toNat]? = some z.cps.toList[i.toNat] := List.getElem?_eq_getElem hl
  refine L_ixS (sz_dec hz) (a := z.cps.toList[i.toNat]) ?_ (q _ (List.getElem_mem hl))
  obtain ⟨j, rfl⟩ : ∃ j : Nat, i = (j : Int) := ⟨i.toNat, by omega⟩
  exact atI_nat h3
theorem L_inR {i lo hi : Int} {a : Addr} (h : H a = some (.rng lo hi)) (q : Q (.bl (decide (lo ≤ i ∧ i < hi))) H) : (∃ i' a' lo hi, V.int i = V.int i' ∧ V.ref a = V.ref a' ∧ H a' = some (.rng lo hi) ∧ Q (.bl (decide (lo ≤ i' ∧ i' < hi))) H) := ⟨i, a, lo, hi, rfl, rfl, h, q⟩
theorem L_rng2 {i j : Int} (q : ∀ p, H p = none → Q (.ref p) (upd H p (.rng i j))) : (∃ i' j', [V.int i, V.int j] = [V.int i', V.int j'] ∧ ∀ p, H p = none → Q (.ref p) (upd H p (.rng i' j'))) := ⟨i, j, rfl, q⟩
/-- no text -/
def NotS (K : PySem.W.Frag) (H : Hp) (v : V) : Prop := ∃ a, TyX K H v (.type a) ∧ kitB a "str" = some false
theorem nots_tup {a : Addr} {xs : List V} (h : SqT K H a xs) : NotS K H (.ref a) := ⟨_, tyx_T h, by decide +kernel⟩
theorem nots_lst {a : Addr} {xs : List V} (h : SqL K H a xs) : NotS K H (.ref a) := ⟨_, tyx_L h, by decide +kernel⟩
theorem nots_non : NotS K H .non := ⟨_, .base .non, by decide +kernel⟩
theorem nots_int {i : Int} : NotS K H (.int i) := ⟨_, .base (.int i), by decide +kernel⟩
theorem nots_bl {i : Bool} : NotS K H (.bl i) := ⟨_, .base (.bl i), by decide +kernel⟩
theorem nots_dK {a : Addr} {xs : List (Key × V)} (h : H a = some (.dK xs)) : NotS K H (.ref a) := ⟨_, .base (.dK h), by decide +kernel⟩
theorem NotS.same {H' : Hp} {v : V} (h : NotS K H v) (e : Same H H') : NotS K H' v := by
  obtain ⟨a, h1, h2⟩ := h
  exact ⟨a, TyX_same e h1, h2⟩
end
theorem len1 (a : Nat) : (⟨#[a]⟩ : Str).length = 1 := rfl
theorem str_len_append (a b : Str) : (a ++ b).length = a.length + b.length := Array.size_append
theorem str_len {z : Str} : z.cps.toList.length = z.length := by rw [Array.length_toList]; rfl
theorem one_lt {c d : Nat} : ([c] : List Nat) < [d] ↔ c < d := by
  rw [List.cons_lt_cons_iff]
  constructor
  · rintro (h | ⟨_, h⟩)
    · exact h
    · exact absurd h (List.not_lt_nil _)
  · exact .inl
theorem str_app_list (a b : Str) : (a ++ b).cps.toList = a.cps.toList ++ b.cps.toList := Array.toList_append
theorem eqv_nil {ds : List PyData} : PyData.eqv (.list ds) (.list []) = ds.isEmpty := by
  cases ds <;> simp [PyData.eqv, PyData.eqvAll]
theorem strOk_of {z : Str} (h : ∀ c ∈ z.cps.toList, c < 1114112) : PyData.strOk z = true := by
  show (z.cps.all (· < 0x110000)) = true
  rw [← Array.all_toList, List.all_eq_true]
  intro c hc
  exact decide_eq_true (h c hc)
theorem L_nnT {A B : Prop} (a : A) : if (!!true) = true then A else B := L_T a
theorem L_nnF {A B : Prop} (b : B) : if (!!false) = true then A else B := L_F b
theorem bd_128 {i : Int} (h : -340282366920938463463374607431768211456 < i ∧ i < 340282366920938463463374607431768211456) : Bd 128 i := by
  unfold Bd
  have : (2 : Nat) ^ 128 = 340282366920938463463374607431768211456 := by decide
  omega
end Kt
set_option Elab.async false
set_option linter.all false
set_option maxRecDepth 100000
set_option maxHeartbeats 4000000
namespace My
open PySem PySem.Spec PyProof.Rows L2 Kt
/-! one step of a reading; a look at the heap -/
local macro_rules | `(tactic| walk_at "hp") => `(tactic| first
  | assumption
  | exact upd_same
  | (with_reducible apply hp_from; assumption; walk_at "sm"))
local macro_rules | `(tactic| walk_at "hpL") => `(tactic| first | assumption | (with_reducible apply hpL; walk_at "hp"))
local macro_rules | `(tactic| walk_at "hpT") => `(tactic| first | assumption | (with_reducible apply hpT; walk_at "hp"))
local macro_rules | `(tactic| walk_at "st1") => `(tactic| with_reducible first
  | refine L_var rfl ?_
  | refine L_cons ?_
  | refine L_nil ?_
  | refine L_c ?_
  | refine L_op ?_
  | refine L_seq ?_
  | refine L_asg ?_
  | refine L_gnameE (by dsimp only [L2.wipe, List.foldl, List.set] <;> rfl) ?_
  | refine L_k ?_
  | refine L_I0 ?_
  | refine L_addI ?_
  | refine L_tTest ?_
  | refine L_ifS ?_
  | refine L_next ?_
  | refine L_call ?_
  | refine L_callS ?_
  | refine L_T ?_
  | refine L_F ?_
  | refine L_nT ?_
  | refine L_nF ?_
  | refine L_cb ?_
  | refine L_ret ?_
  | refine L_eqI ?_
  | refine L_neI ?_
  | refine L_leI ?_
  | refine L_ltI ?_
  | refine L_or ?_
  | refine L_and ?_
  | refine L_not ?_
  | refine L_tB ?_
  | refine L_drop ?_
  | refine L_bm ?_
  | refine L_tup ?_
  | refine L_lst ?_
  | refine L_fld ?_
  | refine L_chain ?_
  | refine L_gname ?_
  | refine L_eqS ?_
  | refine L_neS ?_
  | refine L_eqB ?_
  | refine L_leS ?_
  | refine L_isN ?_
  | refine L_notN ?_
  | refine L_inC ?_
  | refine L_notInC ?_
  | refine L_un ?_
  | refine L_rU ?_
  | refine L_andV ?_
  | refine L_orV ?_
  | refine L_notV ?_
  | refine L_par ?_
  | refine L_par3 ?_
  | refine L_vs2 ?_
  | refine L_vs3 ?_
  | refine L_aug rfl ?_
  | refine L_ipI ?_
  | refine L_retN ?_
  | refine L_brk ?_
  | refine L_cont ?_
  | refine L_tru ?_
  | refine L_truB ?_
  | refine L_truI ?_
  | refine L_abs ?_
  | refine L_max2 ?_
  | refine L_min2 ?_
  | refine L_int1 ?_
  | refine L_int1B ?_
  | refine L_for ?_
  | refine L_iRng1 ?_
  | refine L_iRng2 ?_
  | refine L_iList ?_
  | refine L_iTup ?_
  | refine L_yes ?_
  | refine L_iZip ?_
  | refine L_iEnum ?_
  | refine L_iStr ?_
  | refine L_iRng3 ?_
  | refine L_lc ?_
  | refine L_make ?_
  | refine L_nnT ?_
  | refine L_nnF ?_
  | refine L_disp1 ?_
  | refine L_rng2 ?_
  | refine L_bm0 ?_
  | refine L_neB ?_
  | refine L_dnew ?_
  | refine L_sl ?_
  | refine L_noPart ?_
  | refine L_part ?_
  | refine L_ki ?_
  | refine L_methE ?_
  | refine L_meth ?_
  | refine L_makeE ?_
  | refine L_gCons ?_
  | refine L_gNil ?_
  | refine L_sub ?_
  | refine L_sFld ?_)
local macro_rules | `(tactic| walk_at "st") => `(tactic| first | walk_at "st1" | walk_at "op" | with_reducible refine L_ifE ?_)
local macro_rules | `(tactic| walk_at "stn") => `(tactic| repeat first | walk_at "st1" | walk_at "op")
local macro_rules | `(tactic| walk_at "sts") => `(tactic| repeat walk_at "st")
/-! the same, and what is shown by itself: sizes, bounds, what stands in the heap -/
local macro_rules | `(tactic| walk_at "bd") => `(tactic| first | exact bd_mod (by decide) | exact bd_64 (by decide) | exact bd_64 (by omega))
local macro_rules | `(tactic| walk_at "sa1") => `(tactic| first
  | walk_at "st"
  | (with_reducible refine L_mulI (Bd.cmul (n := 64) (m := 64) (by walk_at "bd") (by walk_at "bd")) ?_)
  | (with_reducible refine L_I (cdiv_lit (by first | decide | omega)) ?_)
  | (with_reducible refine L_powE (i := 10) (j := 9) (n := 1000000000) (cpow_lit (by decide)) (by decide) ?_)
  | (with_reducible refine L_powE (i := 10) (j := 6) (n := 1000000) (cpow_lit (by decide)) (by decide) ?_)
  | (with_reducible refine L_powE (i := 10) (j := 10) (n := 10000000000) (cpow_lit (by decide)) (by decide) ?_)
  | (with_reducible refine L_powE (i := 10) (j := 12) (n := 1000000000000) (cpow_lit (by decide)) (by decide) ?_)
  | (with_reducible refine L_powE (i := 10) (j := 13) (n := 10000000000000) (cpow_lit (by decide)) (by decide) ?_)
  | (with_reducible refine L_powE (i := 10) (j := 20) (n := 100000000000000000000) (cpow_lit (by decide)) (by decide) ?_)
  | (with_reducible refine L_powE (i := 10) (j := 29) (n := 100000000000000000000000000000) (cpow_lit (by decide)) (by decide) ?_)
  | (with_reducible refine L_powE (i := 10) (j := 30) (n := 1000000000000000000000000000000) (cpow_lit (by decide)) (by decide) ?_)
  | (with_reducible refine L_powE (i := 10) (j := 39) (n := 1000000000000000000000000000000000000000) (cpow_lit (by decide)) (by decide) ?_)
  | (with_reducible refine L_powE (i := 10) (j := 40) (n := 10000000000000000000000000000000000000000) (cpow_lit (by decide)) (by decide) ?_)
  | (with_reducible refine L_powE (i := 10) (j := 60) (n := 1000000000000000000000000000000000000000000000000000000000000) (cpow_lit (by decide)) (by decide) ?_)
  | (with_reducible refine L_powE (i := 2) (j := 40) (n := 1099511627776) (cpow_lit (by decide)) (by decide) ?_)
  | (with_reducible refine L_I (show _ < _ by first | decide | omega) ?_)
  | (with_reducible refine L_ixT (by walk_at "hpT") (by with_unfolding_all rfl) ?_)
  | (with_reducible refine L_ixL (by walk_at "hpL") (by with_unfolding_all rfl) ?_)
  | (with_reducible refine L_lenL (by walk_at "hpL") ?_)
  | (with_reducible refine L_lenT (by walk_at "hpT") ?_)
  | walk_at "fd"
  | (with_reducible refine L_methv (by walk_at "hp") (by with_unfolding_all rfl) ?_)
  | (with_reducible refine L_isi (.base (.int _)) (b := true) (by decide +kernel) ?_)
  | (with_reducible refine L_isi (.base (.int _)) (b := false) (by decide +kernel) ?_)
  | (with_reducible refine L_dT (by first | assumption | omega) ?_)
  | (with_reducible refine L_dF (by first | assumption | omega) ?_)
  | (with_reducible refine L_ndT (by first | assumption | omega) ?_)
  | (with_reducible refine L_ndF (by first | assumption | omega) ?_))
local macro_rules | `(tactic| walk_at "sa") => `(tactic| repeat walk_at "sa1")
/-! what stood stands -/
local macro_rules | `(tactic| walk_at "sm") => `(tactic| first
  | assumption
  | exact Same.refl _
  | (with_reducible apply same_upd'; assumption; walk_at "sm")
  | (with_reducible apply same_mut'; assumption; walk_at "sm")
  | (with_reducible apply same_via; assumption; walk_at "sm"))
/-! a new list or tuple: its place p, hp : H p = none, the heap behind it Hn, that all stands, what stands at p -/
local macro_rules | `(tactic| walk_at "nw") => `(tactic| (
  (refine L_new (by first | decide | exact sz_dec (by simp)) ?_)
  (intro p hp)
  (generalize hg : upd _ p _ = Hn)
  (have sn := same_newE hg hp)
  (have en := upd_at hg)
  (clear hg)))
/-! plain things as data -/
local macro_rules | `(tactic| walk_at "dpa") => `(tactic| first
  | exact .nil
  | (refine .cons (by first | exact .int _ | exact .str _ | exact .bl _ | exact .non | assumption) ?_; walk_at "dpa"))
local macro_rules | `(tactic| walk_at "nwp") => `(tactic| (
  (intro p hp)
  (generalize hg : upd _ p _ = Hn)
  (have sn := same_newE hg hp)
  (have en := upd_at hg)
  (clear hg)))

def top (i : Nat) : Stmt := PySem.Challenge.pw_fewspeak_k01_names_and_numbers.main.body.getD i (.Pass ⟨0, 0, 0, 0⟩)
abbrev s__law_cell : Stmt := top 5
abbrev s__law_mixed : Stmt := top 6
abbrev s_is_name : Stmt := top 3
abbrev s_is_whole : Stmt := top 2
abbrev s__law_text : Stmt := top 7
abbrev s__law_is_name : Stmt := top 8
abbrev s__law_number : Stmt := top 9
abbrev s__law_same : Stmt := top 10
abbrev s_law : Stmt := top 11
theorem sc__law_cell : FnScope ["_law_script", "_law_k"] ["_law_script", "_law_k"] (defScope s__law_cell) := ⟨rfl, rfl, rfl, by decide +kernel, rfl, by decide +kernel, by decide +kernel⟩
theorem sc__law_mixed : FnScope ["_law_cell_here", "_law_k", "_law_number_here"] ["_law_cell_here", "_law_k"] (defScope s__law_mixed) := ⟨rfl, rfl, rfl, by decide +kernel, rfl, by decide +kernel, by decide +kernel⟩
theorem sc_is_name : FnScope ["thing", "sign"] ["thing"] (defScope s_is_name) := ⟨rfl, rfl, rfl, by decide +kernel, rfl, by decide +kernel, by decide +kernel⟩
theorem sc_is_whole : FnScope ["thing", "low", "high"] ["thing", "low", "high"] (defScope s_is_whole) := ⟨rfl, rfl, rfl, by decide +kernel, rfl, by decide +kernel, by decide +kernel⟩
theorem sc__law_text : FnScope ["_law_cell_here", "_law_small", "_law_some", "_law_text_here", "_law_odd", "_law_j", "_law_number_here"] ["_law_cell_here"] (defScope s__law_text) := ⟨rfl, rfl, rfl, by decide +kernel, rfl, by decide +kernel, by decide +kernel⟩
theorem sc__law_is_name : FnScope ["_law_text_here", "_law_sign"] ["_law_text_here"] (defScope s__law_is_name) := ⟨rfl, rfl, rfl, by decide +kernel, rfl, by decide +kernel, by decide +kernel⟩
theorem sc__law_number : FnScope ["_law_cell_here", "_law_number_here", "_law_low", "_law_high"] ["_law_cell_here"] (defScope s__law_number) := ⟨rfl, rfl, rfl, by decide +kernel, rfl, by decide +kernel, by decide +kernel⟩
theorem sc__law_same : FnScope ["_law_found", "_law_due"] ["_law_found", "_law_due"] (defScope s__law_same) := ⟨rfl, rfl, rfl, by decide +kernel, rfl, by decide +kernel, by decide +kernel⟩
theorem sc_law : FnScope ["_law_script", "_law_k", "_law_cell_here", "_law_text_here", "_law_number_here", "_law_low", "_law_high", "_law_thing"] ["_law_script"] (defScope s_law) := ⟨rfl, rfl, rfl, by decide +kernel, rfl, by decide +kernel, by decide +kernel⟩
/-- what the top has written -/
structure Txt (K : PySem.W.Frag) (mg : Str → Option Value) : Prop where
  n_len : mg "len" = none
  n_isinstance : mg "isinstance" = none
  n_str : mg "str" = none
  g_LETTERS : ∃ u, mg "LETTERS" = some u ∧ RelV (.str "abcdefghijklmnopqrstuvwxyz") u
  n_bool : mg "bool" = none
  n_int : mg "int" = none
  n_range : mg "range" = none
  n_min : mg "min" = none
  d__law_cell : DefAt K mg "_law_cell" s__law_cell ["_law_script", "_law_k"]
  d__law_mixed : DefAt K mg "_law_mixed" s__law_mixed ["_law_cell_here", "_law_k"]
  d_is_name : DefAt K mg "is_name" s_is_name ["thing"]
  d_is_whole : DefAt K mg "is_whole" s_is_whole ["thing", "low", "high"]
  d__law_text : DefAt K mg "_law_text" s__law_text ["_law_cell_here"]
  d__law_is_name : DefAt K mg "_law_is_name" s__law_is_name ["_law_text_here"]
  d__law_number : DefAt K mg "_law_number" s__law_number ["_law_cell_here"]
  d__law_same : DefAt K mg "_law_same" s__law_same ["_law_found", "_law_due"]
  d_law : DefAt K mg "law" s_law ["_law_script"]
section
variable {P : Program} {w : World} {K : PySem.W.Frag} {mg : Str → Option Value} {base : Heap}
def sp__law_cell (K : PySem.W.Frag) (mg : Str → Option Value) : Sp := fun vs H Q _ => match vs with | [.ref a, .int k] => ∃ ns : List Int, SqL K H a (ns.map V.int) ∧ 0 ≤ k ∧ k < 1000000 ∧ ∀ c, Q (.int c) H | _ => False
theorem q__law_cell {H : Hp} {Q : VK} {E : XK} {a : Addr} {k : Int} (q : ∃ ns : List Int, SqL K H a (ns.map V.int) ∧ 0 ≤ k ∧ k < 1000000 ∧ ∀ c, Q (.int c) H) : sp__law_cell K mg [.ref a, .int k] H Q E := q
local macro_rules | `(tactic| walk_at "op") => `(tactic| with_reducible refine q__law_cell ?_)
theorem c__law_cell (T : Txt K mg) : Cal P w K mg base 1 "_law_cell" (sp__law_cell K mg) := by
  refine T.d__law_cell.cal (k := 0) sc__law_cell (by intro vs H Q E h; unfold sp__law_cell at h; split at h <;> first | rfl | exact h.elim) fun f cdv A outer s H vs Q E hr h => ?_
  refine ⟨_, (pss_cons (ps_if (pt_cmpR op_ltA (pv 1) (pe_callB call_lenA (by rfl) T.n_len (by decide +kernel) (pa_cons (pv 0) pa_nil)) (nomark _))
    (pss_one (ps_ret (pe_ix ix_seq (pv 0) (pv 1) (fun _ _ => rfl))))
    pss_nil)
    (pss_one (ps_ret (pe_op op_addA (pe_op op_mulA pe_int (pv 1)) pe_int)))), ?_⟩
  try simp only [cxOf_K, cxOf_K', cxOf_mg, cxOf_mg']
  unfold sp__law_cell at h
  split at h
  case h_2 => exact h.elim
  rename_i a k
  rw [show L2.start ["_law_script", "_law_k"] [V.ref a, V.int k] = [some (V.ref a), some (V.int k)] from rfl]
  obtain ⟨ns, hS, hk, hk2, q⟩ := h
  walk_at "sts"
  refine L_lenL hS ?_
  walk_at "sts"
  refine L_d (fun c => ?_) (fun c => ?_)
  · walk_at "sts"
    exact L_ixL hS (atI_ints hk (by rw [List.length_map] at c; exact c)) (q _)
  · walk_at "sa"
    exact q _
def sp__law_mixed (K : PySem.W.Frag) (mg : Str → Option Value) : Sp := fun vs H Q _ => match vs with | [.int c, .int k] => 0 ≤ k ∧ k < 1000000 ∧ ∀ r, 0 ≤ r → r < 1099511627776 → Q (.int r) H | _ => False
theorem q__law_mixed {H : Hp} {Q : VK} {E : XK} {c : Int} {k : Int} (q : 0 ≤ k ∧ k < 1000000 ∧ ∀ r, 0 ≤ r → r < 1099511627776 → Q (.int r) H) : sp__law_mixed K mg [.int c, .int k] H Q E := q
local macro_rules | `(tactic| walk_at "op") => `(tactic| with_reducible refine q__law_mixed ?_)
theorem c__law_mixed (T : Txt K mg) : Cal P w K mg base 1 "_law_mixed" (sp__law_mixed K mg) := by
  refine T.d__law_mixed.cal (k := 0) sc__law_mixed (by intro vs H Q E h; unfold sp__law_mixed at h; split at h <;> first | rfl | exact h.elim) fun f cdv A outer s H vs Q E hr h => ?_
  refine ⟨_, (pss_cons (ps_if (pt_cmpR (op_eqA hr) (pe_op op_mod (pv 0) pe_int) pe_int (nomark _))
    (pss_one (ps_ret (pe_op op_mod (pe_op op_shr (pv 0) (pe_op op_addA pe_int (pe_op op_mulA pe_int (pv 1)))) (pe_op op_pow pe_int pe_int))))
    pss_nil)
    (pss_cons (ps_set (i := 2) sc__law_mixed.nd rfl (.inl rfl) (pe_op op_mod (pe_op op_addA (pv 0) (pe_op op_mulA pe_int (pv 1))) pe_int))
    (pss_cons (ps_set (i := 2) sc__law_mixed.nd rfl (.inl rfl) (pe_op op_mod (pe_op op_addA (pe_op op_mulA (pv 2) pe_int) (pv 1)) pe_int))
    (pss_cons (ps_set (i := 2) sc__law_mixed.nd rfl (.inl rfl) (pe_op op_mod (pe_op op_mulA (pv 2) (pe_op op_addA (pv 2) pe_int)) pe_int))
    (pss_one (ps_ret (pe_op op_mod (pe_op op_mulA (pv 2) (pe_op op_addA (pv 2) pe_int)) pe_int))))))), ?_⟩
  try simp only [cxOf_K, cxOf_K', cxOf_mg, cxOf_mg']
  unfold sp__law_mixed at h
  split at h
  case h_2 => exact h.elim
  rename_i c k
  rw [show L2.start ["_law_cell_here", "_law_k", "_law_number_here"] [V.int c, V.int k] = [some (V.int c), some (V.int k), none] from rfl]
  obtain ⟨hk, hk2, q⟩ := h
  walk_at "sts"
  refine L_I (by decide) ?_
  walk_at "sts"
  refine L_d (fun c => ?_) (fun c => ?_)
  · walk_at "sts"
    refine L_mulI ((bd_64 (by decide)).cmul (bd_64 (by omega))) ?_
    walk_at "sts"
    refine L_I (show 0 ≤ _ by omega) ?_
    walk_at "sa"
    exact q _ (Int.emod_nonneg _ (by decide)) (Int.emod_lt_of_pos _ (by decide))
  · walk_at "sa"
    exact q _ (Int.emod_nonneg _ (by decide)) (Int.lt_of_lt_of_le (Int.emod_lt_of_pos _ (by decide)) (by decide))
/-- a name: one to eight small letters -/
def isName (z : Str) : Bool := decide (1 ≤ z.length ∧ z.length ≤ 8) && z.cps.toList.all fun c => decide (97 ≤ c ∧ c ≤ 122)
theorem letters_is : (Str.ofString "abcdefghijklmnopqrstuvwxyz").cps.toList = List.range' 97 26 := by decide +kernel
theorem mem_letters {c : Nat} : c ∈ (Str.ofString "abcdefghijklmnopqrstuvwxyz").cps.toList ↔ 97 ≤ c ∧ c ≤ 122 := by
  rw [letters_is, List.mem_range'_1]
  omega
def sp_is_name (K : PySem.W.Frag) (mg : Str → Option Value) : Sp := fun vs H Q _ => match vs with | [v] => (∃ z : Str, v = .str z ∧ z.length ≤ 1000000 ∧ Q (.bl (isName z)) H) ∨ (NotS K H v ∧ Q (.bl false) H) | _ => False
theorem c_is_name (T : Txt K mg) : Cal P w K mg base 1 "is_name" (sp_is_name K mg) := by
  refine T.d_is_name.cal (k := 0) sc_is_name (by intro vs H Q E h; unfold sp_is_name at h; split at h <;> first | rfl | exact h.elim) fun f cdv A outer s H vs Q E hr h => ?_
  refine ⟨_, (pss_cons (ps_if (PW.pt (pw_or (pt_not (pt_val (pe_callB call_isi (by rfl) T.n_isinstance (by decide +kernel) (pa_cons (pv 0) (pa_cons (pe_ty "str" (by rfl) T.n_str (by decide +kernel)) pa_nil))))) (pw_or1 (pt_not (pt_chain op_leA op_leA pe_int (pe_callB call_lenA (by rfl) T.n_len (by decide +kernel) (pa_cons (pv 0) pa_nil)) pe_int)))))
    (pss_one (ps_ret pe_bl))
    pss_nil)
    (pss_cons (ps_for PassesOwn.never rfl (pi_str (pv 0)) (pg_name (i := 1) sc_is_name.nd rfl (.inl rfl))
    (pss_one (ps_if (pt_cmpR op_notInA (pv 1) (pe_gc (by rfl) T.g_LETTERS) (by rfl))
    (pss_one (ps_ret pe_bl))
    pss_nil)))
    (pss_one (ps_ret pe_bl)))), ?_⟩
  try simp only [cxOf_K, cxOf_K', cxOf_mg, cxOf_mg']
  unfold sp_is_name at h
  split at h
  case h_2 => exact h.elim
  rename_i v
  rw [show L2.start ["thing", "sign"] [v] = [some (v), none] from rfl]
  rcases h with ⟨z, rfl, hz, q⟩ | ⟨⟨ty, h1, h2⟩, q⟩
  · unfold isName at q
    walk_at "sts"
    refine L_isi (.base (.str z)) (b := true) (by decide +kernel) ?_
    walk_at "sts"
    refine L_lenS (sz_dec hz) ?_
    walk_at "sts"
    refine L_d (fun c1 => ?_) (fun c1 => ?_)
    · walk_at "sts"
      refine L_nd (fun c2 => ?_) (fun c2 => ?_)
      · rw [decide_eq_false (show ¬ (1 ≤ z.length ∧ z.length ≤ 8) by omega), Bool.false_and] at q
        walk_at "sts"
        exact q
      · rw [decide_eq_true (show (1 ≤ z.length ∧ z.length ≤ 8) by omega), Bool.true_and] at q
        walk_at "sts"
        refine L_rs ?_
        refine f_it walk_str (fun i σ' H' => (∃ v, σ' = [some (.str z), v]) ∧ H' = H ∧ (z.cps.toList.take i).all (fun c => decide (97 ≤ c ∧ c ≤ 122)) = true) ⟨⟨_, rfl⟩, rfl, rfl⟩ (fun _ _ _ _ _ => True.intro) ?_ ?_
        · rintro i x σ' H' H'' hi ⟨⟨v, rfl⟩, rfl, hall⟩ ⟨rfl, c, hc, rfl⟩
          have hc' : z.cps.toList[i]? = some c := by rw [Array.getElem?_toList]; exact hc
          walk_at "sts"
          refine L_nd (fun c3 => ?_) (fun c3 => ?_)
          · walk_at "sts"
            rw [show (z.cps.toList.all fun c => decide (97 ≤ c ∧ c ≤ 122)) = false from ?_] at q
            · exact q
            · rw [List.all_eq_false]
              exact ⟨c, List.mem_of_getElem? hc', by simpa using fun h => Nat.lt_of_not_le fun h' => c3 (mem_letters.mpr ⟨h, h'⟩)⟩
          · walk_at "sts"
            refine ⟨⟨_, rfl⟩, rfl, ?_⟩
            rw [List.take_succ, hc', List.all_append, hall]
            simpa using mem_letters.mp c3
        · rintro σ' H' ⟨⟨v, rfl⟩, rfl, hall⟩
          rw [List.take_of_length_le (by rw [Array.length_toList]; exact Nat.le_refl _)] at hall
          rw [hall] at q
          walk_at "sts"
          exact q
    · rw [decide_eq_false (show ¬ (1 ≤ z.length ∧ z.length ≤ 8) by omega), Bool.false_and] at q
      walk_at "sts"
      exact q
  · walk_at "sts"
    refine L_isi h1 h2 ?_
    walk_at "sts"
    exact q
theorem q_nameS {H : Hp} {Q : VK} {E : XK} {z : Str} (h : z.length ≤ 1000000) (q : Q (.bl (isName z)) H) : sp_is_name K mg [.str z] H Q E := .inl ⟨z, rfl, h, q⟩
theorem q_nameN {H : Hp} {Q : VK} {E : XK} {v : V} (h : NotS K H v) (q : Q (.bl false) H) : sp_is_name K mg [v] H Q E := .inr ⟨h, q⟩
def sp_is_whole (K : PySem.W.Frag) (mg : Str → Option Value) : Sp := fun vs H Q _ => match vs with | [v, .int lo, .int hi] => (∃ t, v = .int t ∧ Q (.bl (decide (lo ≤ t) && decide (t ≤ hi))) H) ∨ (NotW K H v ∧ Q (.bl false) H) | _ => False
theorem c_is_whole (T : Txt K mg) : Cal P w K mg base 1 "is_whole" (sp_is_whole K mg) := by
  refine T.d_is_whole.cal (k := 0) sc_is_whole (by intro vs H Q E h; unfold sp_is_whole at h; split at h <;> first | rfl | exact h.elim) fun f cdv A outer s H vs Q E hr h => ?_
  refine ⟨_, (pss_cons (ps_if (PW.pt (pw_or (pt_not (pt_val (pe_callB call_isi (by rfl) T.n_isinstance (by decide +kernel) (pa_cons (pv 0) (pa_cons (pe_ty "int" (by rfl) T.n_int (by decide +kernel)) pa_nil))))) (pw_or1 (pt_val (pe_callB call_isi (by rfl) T.n_isinstance (by decide +kernel) (pa_cons (pv 0) (pa_cons (pe_ty "bool" (by rfl) T.n_bool (by decide +kernel)) pa_nil)))))))
    (pss_one (ps_ret pe_bl))
    pss_nil)
    (pss_one (ps_ret (pe_chain op_leA op_leA (pv 1) (pv 0) (pv 2))))), ?_⟩
  try simp only [cxOf_K, cxOf_K', cxOf_mg, cxOf_mg']
  unfold sp_is_whole at h
  split at h
  case h_2 => exact h.elim
  rename_i v lo hi
  rw [show L2.start ["thing", "low", "high"] [v, V.int lo, V.int hi] = [some (v), some (V.int lo), some (V.int hi)] from rfl]
  rcases h with ⟨t, rfl, q⟩ | ⟨⟨b, rfl⟩ | ⟨ty, h1, h2⟩, q⟩
  · walk_at "sa"
    refine L_d (fun c1 => ?_) (fun c1 => ?_)
    · rw [decide_eq_true c1, Bool.true_and] at q
      walk_at "sts"
      exact q
    · rw [decide_eq_false c1, Bool.false_and] at q
      exact q
  · walk_at "sts"
    refine L_isi (.base (.bl b)) (b := true) (by decide +kernel) ?_
    walk_at "sts"
    refine L_isi (.base (.bl b)) (b := true) (by decide +kernel) ?_
    walk_at "sts"
    exact q
  · walk_at "sts"
    refine L_isi h1 h2 ?_
    walk_at "sts"
    exact q
theorem q_whole {H : Hp} {Q : VK} {E : XK} {t lo hi : Int} (q : Q (.bl (decide (lo ≤ t) && decide (t ≤ hi))) H) : sp_is_whole K mg [.int t, .int lo, .int hi] H Q E := .inl ⟨t, rfl, q⟩
theorem q_wholeT {H : Hp} {Q : VK} {E : XK} {t lo hi : Int} (h : lo ≤ t ∧ t ≤ hi) (q : Q (.bl true) H) : sp_is_whole K mg [.int t, .int lo, .int hi] H Q E := q_whole (by rw [decide_eq_true h.1, decide_eq_true h.2]; exact q)
theorem q_wholeF {H : Hp} {Q : VK} {E : XK} {t lo hi : Int} (h : ¬ (lo ≤ t ∧ t ≤ hi)) (q : Q (.bl false) H) : sp_is_whole K mg [.int t, .int lo, .int hi] H Q E := q_whole (by
  rw [show (decide (lo ≤ t) && decide (t ≤ hi)) = false by simp only [Bool.and_eq_false_iff, decide_eq_false_iff_not]; omega]; exact q)
theorem q_wholeN {H : Hp} {Q : VK} {E : XK} {v : V} {lo hi : Int} (h : NotW K H v) (q : Q (.bl false) H) : sp_is_whole K mg [v, .int lo, .int hi] H Q E := .inr ⟨h, q⟩
theorem q_wholeB {H : Hp} {Q : VK} {E : XK} {v : V} {lo hi : Int} (h : BadW K H v lo hi) (q : Q (.bl false) H) : sp_is_whole K mg [v, .int lo, .int hi] H Q E := by
  rcases h with h | ⟨t, rfl, h⟩
  · exact q_wholeN h q
  · exact q_wholeF h q
local macro_rules | `(tactic| walk_at "op") => `(tactic| with_reducible first | refine q_wholeT (by omega) ?_ | refine q_wholeF (by omega) ?_ | refine q_whole ?_)
theorem lt_small : ∀ a ∈ (Str.ofString "abcdefghijklmnopqrstuvwxyz").cps.toList, a < 1114112 := by decide +kernel
theorem lt_some : ∀ a ∈ (Str.ofString " !\"#$&'()*+,-./0123456789:;<=>?@ABCDEFGHIJKLMNOPQRSTUVWXYZ[\\]^_`{|}~").cps.toList, a < 1114112 := by decide +kernel
def sp__law_text (K : PySem.W.Frag) (mg : Str → Option Value) : Sp := fun vs H Q _ => match vs with | [.int c] => ∀ z : Str, z.length ≤ 9 → (∀ c ∈ z.cps.toList, c < 1114112) → Q (.str z) H | _ => False
theorem q__law_text {H : Hp} {Q : VK} {E : XK} {c : Int} (q : ∀ z : Str, z.length ≤ 9 → (∀ c ∈ z.cps.toList, c < 1114112) → Q (.str z) H) : sp__law_text K mg [.int c] H Q E := q
local macro_rules | `(tactic| walk_at "op") => `(tactic| with_reducible refine q__law_text ?_)
theorem c__law_text (T : Txt K mg) : Cal P w K mg base 2 "_law_text" (sp__law_text K mg) := by
  refine T.d__law_text.cal (k := 1) sc__law_text (by intro vs H Q E h; unfold sp__law_text at h; split at h <;> first | rfl | exact h.elim) fun f cdv A outer s H vs Q E hr h => ?_
  refine ⟨_, (pss_cons (ps_set (i := 1) sc__law_text.nd rfl (.inl rfl) pe_str)
    (pss_cons (ps_set (i := 2) sc__law_text.nd rfl (.inl rfl) pe_str)
    (pss_cons (ps_set (i := 3) sc__law_text.nd rfl (.inl rfl) pe_str)
    (pss_cons (ps_set (i := 4) sc__law_text.nd rfl (.inl rfl) (pe_op op_mod (pe_c (c__law_mixed T) hr (by decide) (by rfl) (pa_cons (pv 0) (pa_cons pe_int pa_nil))) pe_int))
    (pss_cons (ps_for PassesOwn.never rfl (pi_range1 (by rfl) T.n_range (pa_cons (pe_op op_mod (pe_c (c__law_mixed T) hr (by decide) (by rfl) (pa_cons (pv 0) (pa_cons pe_int pa_nil))) pe_int) pa_nil)) (pg_name (i := 5) sc__law_text.nd rfl (.inl rfl))
    (pss_cons (ps_set (i := 6) sc__law_text.nd rfl (.inl rfl) (pe_c (c__law_mixed T) hr (by decide) (by rfl) (pa_cons (pv 0) (pa_cons (pe_op op_addA pe_int (pv 5)) pa_nil))))
    (pss_one (ps_if (PW.pt (pw_and (pt_cmpR (op_eqA hr) (pv 4) pe_int (nomark _)) (pw_and1 (pt_cmpR (op_eqA hr) (pe_op op_mod (pv 6) pe_int) pe_int (nomark _)))))
    (pss_one (ps_set (i := 3) sc__law_text.nd rfl (.inl rfl) (pe_op op_addA (pv 3) (pe_ix ix_seq (pv 2) (pe_op op_mod (pe_op op_fdivW (pv 6) pe_int) (pe_callB call_lenA (by rfl) T.n_len (by decide +kernel) (pa_cons (pv 2) pa_nil))) (fun _ _ => rfl)))))
    (pss_one (ps_set (i := 3) sc__law_text.nd rfl (.inl rfl) (pe_op op_addA (pv 3) (pe_ix ix_seq (pv 1) (pe_op op_mod (pe_op op_fdivW (pv 6) pe_int) pe_int) (fun _ _ => rfl)))))))))
    (pss_one (ps_ret (pv 3)))))))), ?_⟩
  try simp only [cxOf_K, cxOf_K', cxOf_mg, cxOf_mg']
  unfold sp__law_text at h
  split at h
  case h_2 => exact h.elim
  rename_i c
  rw [show L2.start ["_law_cell_here", "_law_small", "_law_some", "_law_text_here", "_law_odd", "_law_j", "_law_number_here"] [V.int c] = [some (V.int c), none, none, none, none, none, none] from rfl]
  walk_at "sts"
  refine ⟨by decide, by decide, fun odd o0 o1 => ?_⟩
  walk_at "sa"
  refine ⟨by decide, by decide, fun r r0 r1 => ?_⟩
  walk_at "sa"
  refine L_r1 (by omega) (by omega) ?_
  refine f_range (fun i σ' H' => H' = H ∧ ∃ (z : Str) (v5 v6 : Option V), z.length = i ∧ (∀ c ∈ z.cps.toList, c < 1114112) ∧ σ' = [some (.int c), some (.str (Str.ofString "abcdefghijklmnopqrstuvwxyz")), some (.str (Str.ofString " !\"#$&'()*+,-./0123456789:;<=>?@ABCDEFGHIJKLMNOPQRSTUVWXYZ[\\]^_`{|}~")), some (.str z), some (.int (odd % 3)), v5, v6]) ⟨rfl, Str.ofString "", none, none, rfl, (fun c hc => by rw [show (Str.ofString "").cps.toList = [] by decide +kernel] at hc; exact nomatch hc), rfl⟩ ?_ ?_
  · rintro i σ' H' hi ⟨rfl, z, v5, v6, hz, hc, rfl⟩
    walk_at "sts"
    refine ⟨by omega, by omega, fun n n0 n1 => ?_⟩
    have fin : ∀ a : Nat, a < 1114112 → aAdd K (.str z) (.str ⟨#[a]⟩) H' (fun x H1 => gName 3 x [some (.int c), some (.str (Str.ofString "abcdefghijklmnopqrstuvwxyz")), some (.str (Str.ofString " !\"#$&'()*+,-./0123456789:;<=>?@ABCDEFGHIJKLMNOPQRSTUVWXYZ[\\]^_`{|}~")), some (.str z), some (.int (odd % 3)), some (.int (0 + (i : Int))), some (.int n)] H1 fun σ' H'' => H'' = H' ∧ ∃ (z : Str) (v5 v6 : Option V), z.length = i + 1 ∧ (∀ c ∈ z.cps.toList, c < 1114112) ∧ σ' = [some (.int c), some (.str (Str.ofString "abcdefghijklmnopqrstuvwxyz")), some (.str (Str.ofString " !\"#$&'()*+,-./0123456789:;<=>?@ABCDEFGHIJKLMNOPQRSTUVWXYZ[\\]^_`{|}~")), some (.str z), some (.int (odd % 3)), v5, v6]) := fun a ha => by
      refine L_addS (sz_dec (by rw [len1]; omega)) ?_
      walk_at "sts"
      refine ⟨rfl, z ++ ⟨#[a]⟩, _, _, by rw [str_len_append, len1]; omega, fun c hc2 => ?_, rfl⟩
      rw [str_app_list] at hc2
      rcases List.mem_append.mp hc2 with h2 | h2
      · exact hc c h2
      · rw [show c = a by simpa using h2]
        exact ha
    have small : ∀ n : Int, 0 ≤ n → rIx K (.str (Str.ofString "abcdefghijklmnopqrstuvwxyz")) (.int (n / 4 % 26)) H' (fun y H2 => aAdd K (.str z) y H2 fun x H1 => gName 3 x _ H1 _) := fun n hn => L_ixSany (by decide +kernel) (Int.emod_nonneg _ (by decide)) (Int.lt_of_lt_of_le (Int.emod_lt_of_pos _ (by decide)) (by decide +kernel)) fun a hm => fin a (lt_small a hm)
    walk_at "sa"
    refine L_d (fun _ => ?_) (fun _ => ?_)
    · walk_at "sa"
      refine L_d (fun _ => ?_) (fun _ => ?_)
      · walk_at "sa"
        refine L_lenS (sz_dec (by decide +kernel)) ?_
        walk_at "sts"
        refine L_I (by decide +kernel) ?_
        refine L_ixSany (by decide +kernel) (Int.emod_nonneg _ (by decide +kernel)) (Int.emod_lt_of_pos _ (by decide +kernel)) fun a hm => ?_
        exact fin a (lt_some a hm)
      · walk_at "sa"
        exact small n n0
    · walk_at "sa"
      exact small n n0
  · rintro σ' H' ⟨rfl, z, v5, v6, hz, hc, rfl⟩
    walk_at "sts"
    exact h z (by omega) hc
theorem fm_filter (p : Nat → Prop) [DecidablePred p] (g : Nat → V) : ∀ l : List Nat, (List.range l.length).filterMap (fun i => (l[i]?).bind fun c => if p c then none else some (g c)) = (l.filter fun c => !decide (p c)).map g
  | [] => rfl
  | a :: l => by
    have ih := fm_filter p g l
    rw [List.length_cons, List.range_succ_eq_map]
    simp only [List.filterMap_cons, List.getElem?_cons_zero, Option.bind_some, List.filterMap_map, Function.comp_def, List.getElem?_cons_succ]
    by_cases h : p a
    · rw [if_pos h, List.filter_cons_of_neg (by simp [h])]
      exact ih
    · rw [if_neg h, List.filter_cons_of_pos (by simp [h]), List.map_cons]
      exact congrArg (g a :: ·) ih
theorem dp_maps {H : Hp} : ∀ l : List Nat, DpAll K H (l.map fun c => V.str ⟨#[c]⟩) (l.map fun c => PyData.str ⟨#[c]⟩)
  | [] => .nil
  | a :: l => .cons (.str _) (dp_maps l)
def sp__law_is_name (K : PySem.W.Frag) (mg : Str → Option Value) : Sp := fun vs H Q _ => match vs with | [.str z] => z.length ≤ 1000 ∧ (∀ c ∈ z.cps.toList, c < 1114112) ∧ ∀ H', Same H H' → Q (.bl (isName z)) H' | _ => False
theorem q__law_is_name {H : Hp} {Q : VK} {E : XK} {z : Str} (q : z.length ≤ 1000 ∧ (∀ c ∈ z.cps.toList, c < 1114112) ∧ ∀ H', Same H H' → Q (.bl (isName z)) H') : sp__law_is_name K mg [.str z] H Q E := q
local macro_rules | `(tactic| walk_at "op") => `(tactic| with_reducible refine q__law_is_name ?_)
theorem c__law_is_name (T : Txt K mg) : Cal P w K mg base 1 "_law_is_name" (sp__law_is_name K mg) := by
  refine T.d__law_is_name.cal (k := 0) sc__law_is_name (by intro vs H Q E h; unfold sp__law_is_name at h; split at h <;> first | rfl | exact h.elim) fun f cdv A outer s H vs Q E hr h => ?_
  refine ⟨_, (pss_cons (ps_if (PW.pt (pw_or (pt_cmpR (op_eqA hr) (pv 0) pe_str (nomark _)) (pw_or1 (pt_cmpR op_gt (pe_callB call_lenA (by rfl) T.n_len (by decide +kernel) (pa_cons (pv 0) pa_nil)) pe_int (nomark _)))))
    (pss_one (ps_ret pe_bl))
    pss_nil)
    (pss_one (ps_ret (pe_cmpR (op_eqA hr) (pe_lc (own := [("_law_sign", 1)]) (g := (gName 1)) (tt := (tNot (tTest (tChain aLe aLe (tC (.str "a")) (tVar 1) (tC (.str "z")))))) (te := (tVar 1)) rfl sc__law_is_name.nd (pi_str (pv 0)) (blkOk_by (N := ["_law_text_here", "_law_sign"]) (sc := defScope s__law_is_name) (by decide +kernel)) (fun _ _ _ _ _ => by exact (pg_name (i := 1) sc__law_is_name.nd rfl (.inl rfl))) (fun _ _ _ _ _ => by exact pts_one (pt_not (pt_chain op_leA op_leA pe_str (pv 1) pe_str))) (fun _ _ _ _ _ => by exact (pv 1))) (pe_lst pa_nil) (nomark _))))), ?_⟩
  try simp only [cxOf_K, cxOf_K', cxOf_mg, cxOf_mg']
  unfold sp__law_is_name at h
  split at h
  case h_2 => exact h.elim
  rename_i z
  rw [show L2.start ["_law_text_here", "_law_sign"] [V.str z] = [some (V.str z), none] from rfl]
  obtain ⟨hz, hc, q⟩ := h
  unfold isName at q
  walk_at "sts"
  refine L_d (fun c1 => ?_) (fun c1 => ?_)
  · subst c1
    walk_at "sts"
    exact q _ (Same.refl _)
  walk_at "sts"
  refine L_lenS (sz_dec (by omega)) ?_
  walk_at "sts"
  have h0 : 1 ≤ z.length := by
    rcases Nat.eq_zero_or_pos z.length with h | h
    · exact absurd (by obtain ⟨⟨l⟩⟩ := z; cases l with | nil => rfl | cons a l => cases h) c1
    · exact h
  refine L_d (fun c2 => ?_) (fun c2 => ?_)
  · rw [decide_eq_false (show ¬ (1 ≤ z.length ∧ z.length ≤ 8) by omega), Bool.false_and] at q
    walk_at "sts"
    exact q _ (Same.refl _)
  rw [decide_eq_true (show (1 ≤ z.length ∧ z.length ≤ 8) by omega), Bool.true_and] at q
  walk_at "sts"
  refine L_rs ?_
  refine lc_fm walk_str (fun i => ((z.cps.toList)[i]?).bind fun c => if 97 ≤ c ∧ c ≤ 122 then none else some (.str ⟨#[c]⟩)) (by show z.length ≤ _; omega) (fun _ _ => True.intro) ?_ ?_
  · rintro i x H2 H' R R' hi sm ⟨rfl, c, hci, rfl⟩ r1 r2
    have hci' : z.cps.toList[i]? = some c := by rw [Array.getElem?_toList]; exact hci
    walk_at "sts"
    refine ⟨rfl, ?_⟩
    walk_at "sts"
    have ca : ((⟨#[c]⟩ : Str).cps.toList < (Str.ofString "a").cps.toList) ↔ c < 97 := by
      rw [show (Str.ofString "a").cps.toList = [97] by decide +kernel]; exact one_lt
    have cz : ((Str.ofString "z").cps.toList < (⟨#[c]⟩ : Str).cps.toList) ↔ 122 < c := by
      rw [show (Str.ofString "z").cps.toList = [122] by decide +kernel]; exact one_lt
    by_cases h1 : c < 97
    · rw [decide_eq_true (ca.mpr h1)]
      walk_at "sts"
      refine r1 _ _ ?_ (Same.refl _)
      rw [hci', Option.bind_some, if_neg (by omega)]
    · rw [decide_eq_false (fun h => h1 (ca.mp h))]
      walk_at "sts"
      by_cases h2 : 122 < c
      · rw [decide_eq_true (cz.mpr h2)]
        walk_at "sts"
        refine r1 _ _ ?_ (Same.refl _)
        rw [hci', Option.bind_some, if_neg (by omega)]
      · rw [decide_eq_false (fun h => h2 (cz.mp h))]
        walk_at "sts"
        refine r2 _ ?_ (Same.refl _)
        rw [hci', Option.bind_some, if_pos (by omega)]
  · intro p H1 hp s1 e1
    walk_at "sts"
    walk_at "nw"
    rename_i p2 hp2 H2 s2 e2
    obtain ⟨bad, hbad⟩ : ∃ bad : List Nat, bad = z.cps.toList.filter (fun c => !decide (97 ≤ c ∧ c ≤ 122)) := ⟨_, rfl⟩
    have eb : (List.range z.cps.size).filterMap (fun i => (z.cps.toList[i]?).bind fun c => if 97 ≤ c ∧ c ≤ 122 then none else some (V.str ⟨#[c]⟩)) = bad.map fun c => V.str ⟨#[c]⟩ := by
      rw [hbad, ← Array.length_toList]
      exact fm_filter _ _ _
    rw [eb] at e1
    have hd1 : Dp K H2 (.ref p) (.list (bad.map fun c => .str ⟨#[c]⟩)) := .lst (.of (s2 _ _ e1)) (dp_maps bad)
    have sh : SeqAt.shaped (.list (bad.map fun c => PyData.str ⟨#[c]⟩)) = true := (shp_lst (n := 0) (shp_map fun c hc' => shp_str (strOk_of fun d hd => by
      rw [show d = c by simpa using hd]
      exact hc c (by rw [hbad] at hc'; exact (List.mem_filter.mp hc').1)))).ok
    refine L_eqD hd1 (.lst (.of e2) .nil) sh (by decide +kernel) ?_
    rw [eqv_nil, show (bad.map fun c => PyData.str ⟨#[c]⟩).isEmpty = (z.cps.toList.all fun c => decide (97 ≤ c ∧ c ≤ 122)) from ?_]
    · exact q _ (by walk_at "sm")
    · rw [hbad, List.isEmpty_map, Bool.eq_iff_iff, List.isEmpty_iff, List.filter_eq_nil_iff, List.all_eq_true]
      simp
def sp__law_number (K : PySem.W.Frag) (mg : Str → Option Value) : Sp := fun vs H Q _ => match vs with | [.int c] => ∀ n lo hi, ∀ H1, Same H H1 → NewT H1 [.int n, .int lo, .int hi] Q | _ => False
theorem q__law_number {H : Hp} {Q : VK} {E : XK} {c : Int} (q : ∀ n lo hi, ∀ H1, Same H H1 → NewT H1 [.int n, .int lo, .int hi] Q) : sp__law_number K mg [.int c] H Q E := q
local macro_rules | `(tactic| walk_at "op") => `(tactic| with_reducible refine q__law_number ?_)
theorem c__law_number (T : Txt K mg) : Cal P w K mg base 2 "_law_number" (sp__law_number K mg) := by
  refine T.d__law_number.cal (k := 1) sc__law_number (by intro vs H Q E h; unfold sp__law_number at h; split at h <;> first | rfl | exact h.elim) fun f cdv A outer s H vs Q E hr h => ?_
  refine ⟨_, (pss_cons (ps_set (i := 1) sc__law_number.nd rfl (.inl rfl) (pe_c (c__law_mixed T) hr (by decide) (by rfl) (pa_cons (pv 0) (pa_cons pe_int pa_nil))))
    (pss_cons (ps_set (i := 2) sc__law_number.nd rfl (.inl rfl) (pe_op op_sub (pe_op op_mod (pe_op op_fdivW (pv 1) pe_int) pe_int) pe_int))
    (Evl.pss_cut (ps_if (pt_cmpR (op_eqA hr) (pe_op op_mod (pv 1) pe_int) pe_int (nomark _))
    (pss_one (ps_set (i := 2) sc__law_number.nd rfl (.inl rfl) (pe_op op_mulA (pe_ix ix_seq (pe_lst (pa_cons pe_int (pa_cons (pe_un un_neg pe_int) pa_nil))) (pe_op op_mod (pe_op op_fdivW (pv 1) pe_int) pe_int) (fun _ _ => rfl)) (pe_op op_sub (pe_op op_pow pe_int pe_int) (pv 1)))))
    pss_nil)
    (pss_cons (ps_set (i := 3) sc__law_number.nd rfl (.inl rfl) (pe_op op_sub (pe_op op_addA (pv 2) (pe_op op_mod (pe_c (c__law_mixed T) hr (by decide) (by rfl) (pa_cons (pv 0) (pa_cons pe_int pa_nil))) pe_int)) pe_int))
    (pss_one (ps_ret (pe_tup (pa_cons (pe_op op_sub (pe_op op_addA (pv 2) (pe_op op_mod (pe_c (c__law_mixed T) hr (by decide) (by rfl) (pa_cons (pv 0) (pa_cons pe_int pa_nil))) pe_int)) pe_int) (pa_cons (pv 2) (pa_cons (pv 3) pa_nil)))))))))), ?_⟩
  try simp only [cxOf_K, cxOf_K', cxOf_mg, cxOf_mg']
  unfold sp__law_number at h
  split at h
  case h_2 => exact h.elim
  rename_i c
  rw [show L2.start ["_law_cell_here", "_law_number_here", "_law_low", "_law_high"] [V.int c] = [some (V.int c), none, none, none] from rfl]
  walk_at "sts"
  refine ⟨by decide, by decide, fun r r0 r1 => ?_⟩
  walk_at "sts"
  refine L_I (cdiv_lit (by decide)) ?_
  walk_at "sts"
  refine L_I (by decide) ?_
  walk_at "sts"
  refine L_cut (Mid := fun σ' H' => Same H H' ∧ ∃ lo : Int, σ' = [some (.int c), some (.int r), some (.int lo), none]) ?_ ?_
  · walk_at "sa"
    refine L_d (fun _ => ?_) (fun _ => ?_)
    · walk_at "sa"
      walk_at "nw"
      rename_i p1 hp1 H1 s1 e1
      walk_at "sa"
      refine L_menu (ns := [1, -1]) (.of e1) (Int.emod_nonneg _ (by decide)) (Int.emod_lt_of_pos _ (by decide)) fun v hv => ?_
      walk_at "sa"
      have hv' : -2 < v ∧ v < 2 := by simp at hv; omega
      refine L_mulI (Bd.cmul (n := 64) (m := 128) (bd_64 (by omega)) (bd_128 (by omega))) ?_
      walk_at "sa"
      exact ⟨s1, _, rfl⟩
    · walk_at "sa"
      exact ⟨Same.refl _, _, rfl⟩
  · rintro σ' H1 ⟨s1, lo, rfl⟩
    walk_at "sts"
    refine ⟨by decide, by decide, fun r2 _ _ => ?_⟩
    walk_at "sa"
    refine ⟨by decide, by decide, fun r3 _ _ => ?_⟩
    walk_at "sa"
    exact L_nw ((h _ _ _ H1 s1).at)
def sp__law_same (K : PySem.W.Frag) (mg : Str → Option Value) : Sp := fun vs H Q _ => match vs with | [.bl a, .bl b] => Q (.bl (decide (a = b))) H | _ => False
theorem q__law_same {H : Hp} {Q : VK} {E : XK} {a : Bool} {b : Bool} (q : Q (.bl (decide (a = b))) H) : sp__law_same K mg [.bl a, .bl b] H Q E := q
local macro_rules | `(tactic| walk_at "op") => `(tactic| with_reducible refine q__law_same ?_)
theorem c__law_same (T : Txt K mg) : Cal P w K mg base 1 "_law_same" (sp__law_same K mg) := by
  refine T.d__law_same.cal (k := 0) sc__law_same (by intro vs H Q E h; unfold sp__law_same at h; split at h <;> first | rfl | exact h.elim) fun f cdv A outer s H vs Q E hr h => ?_
  refine ⟨_, (pss_one (ps_ret (pe_and (pe_callB call_isi (by rfl) T.n_isinstance (by decide +kernel) (pa_cons (pv 0) (pa_cons (pe_ty "bool" (by rfl) T.n_bool (by decide +kernel)) pa_nil))) (pe_one (pe_cmpR (op_eqA hr) (pv 0) (pv 1) (nomark _)))))), ?_⟩
  try simp only [cxOf_K, cxOf_K', cxOf_mg, cxOf_mg']
  unfold sp__law_same at h
  split at h
  case h_2 => exact h.elim
  rename_i a b
  rw [show L2.start ["_law_found", "_law_due"] [V.bl a, V.bl b] = [some (V.bl a), some (V.bl b)] from rfl]
  walk_at "sts"
  refine L_isi (.base (.bl _)) (b := true) (by decide +kernel) ?_
  walk_at "sts"
  exact h
def sp_law (K : PySem.W.Frag) (mg : Str → Option Value) : Sp := fun vs H Q _ => match vs with | [.ref a] => ∃ ns : List Int, SqL K H a (ns.map V.int) ∧ ns.length ≤ 63 ∧ (∀ z ∈ ns, Builtin.Int.intBits z ≤ 1048576) ∧ ∀ H', Q (.bl true) H' | _ => False
theorem q_law {H : Hp} {Q : VK} {E : XK} {a : Addr} (q : ∃ ns : List Int, SqL K H a (ns.map V.int) ∧ ns.length ≤ 63 ∧ (∀ z ∈ ns, Builtin.Int.intBits z ≤ 1048576) ∧ ∀ H', Q (.bl true) H') : sp_law K mg [.ref a] H Q E := q
local macro_rules | `(tactic| walk_at "op") => `(tactic| with_reducible refine q_law ?_)
theorem c_law (T : Txt K mg) {f : Addr} {fd : FuncData} (F : Fun K "law" "law" s_law f fd) : FnOk P w K mg base CX0 3 f fd ["_law_script"] (sp_law K mg) := by
  refine F.ok (k := 2) sc_law (by intro vs H Q E h; unfold sp_law at h; split at h <;> first | rfl | exact h.elim) fun cdv A outer s H vs Q E hr h => ?_
  refine ⟨_, (pss_cons (ps_for PassesOwn.never rfl (pi_range1 (by rfl) T.n_range (pa_cons (pe_callB (call_min2A rfl) (by rfl) T.n_min (by decide +kernel) (pa_cons pe_int (pa_cons (pe_op op_addA pe_int (pe_callB call_lenA (by rfl) T.n_len (by decide +kernel) (pa_cons (pv 0) pa_nil))) pa_nil))) pa_nil)) (pg_name (i := 1) sc_law.nd rfl (.inl rfl))
    (pss_cons (ps_set (i := 2) sc_law.nd rfl (.inl rfl) (pe_c (c__law_cell T) hr (by decide) (by rfl) (pa_cons (pv 0) (pa_cons (pv 1) pa_nil))))
    (pss_cons (ps_set (i := 3) sc_law.nd rfl (.inl rfl) (pe_c (c__law_text T) hr (by decide) (by rfl) (pa_cons (pv 2) pa_nil)))
    (pss_cons (ps_asg (pe_c (c__law_number T) hr (by decide) (by rfl) (pa_cons (pv 2) pa_nil)) (pg_tup rfl (pgs_cons (pg_name (i := 4) sc_law.nd rfl (.inl rfl)) (pgs_cons (pg_name (i := 5) sc_law.nd rfl (.inl rfl)) (pgs_cons (pg_name (i := 6) sc_law.nd rfl (.inl rfl)) pgs_nil)))))
    (pss_cons (ps_if (pt_not (pt_val (pe_c (c__law_same T) hr (by decide) (by rfl) (pa_cons (pe_c (c_is_name T) hr (by decide) (by rfl) (pa_cons (pv 3) pa_nil)) (pa_cons (pe_c (c__law_is_name T) hr (by decide) (by rfl) (pa_cons (pv 3) pa_nil)) pa_nil)))))
    (pss_one (ps_ret pe_bl))
    pss_nil)
    (pss_cons (ps_if (pt_not (pt_val (pe_c (c__law_same T) hr (by decide) (by rfl) (pa_cons (pe_c (c_is_whole T) hr (by decide) (by rfl) (pa_cons (pv 4) (pa_cons (pv 5) (pa_cons (pv 6) pa_nil)))) (pa_cons (pe_cmpR op_in_rng (pv 4) (pe_callTy cr_range2 (by rfl) T.n_range (by decide +kernel) (pa_cons (pv 5) (pa_cons (pe_op op_addA (pv 6) pe_int) pa_nil))) (by rfl)) pa_nil)))))
    (pss_one (ps_ret pe_bl))
    pss_nil)
    (pss_cons (ps_if (PW.pt (pw_or (pt_not (pt_val (pe_c (c__law_same T) hr (by decide) (by rfl) (pa_cons (pe_c (c_is_name T) hr (by decide) (by rfl) (pa_cons (pv 4) pa_nil)) (pa_cons pe_bl pa_nil))))) (pw_or1 (pt_not (pt_val (pe_c (c__law_same T) hr (by decide) (by rfl) (pa_cons (pe_c (c_is_whole T) hr (by decide) (by rfl) (pa_cons (pv 3) (pa_cons (pv 5) (pa_cons (pv 6) pa_nil)))) (pa_cons pe_bl pa_nil))))))))
    (pss_one (ps_ret pe_bl))
    pss_nil)
    (pss_one (ps_for PassesOwn.never rfl (pi_list (pe_lst (pa_cons pe_bl (pa_cons pe_bl (pa_cons pe_non (pa_cons (pe_lst (pa_cons (pv 3) pa_nil)) (pa_cons (pe_tup (pa_cons (pv 3) pa_nil)) (pa_cons (pe_disp (pps_cons (pv 3) pe_int pps_nil) (by rfl) (by rfl) (fun z => by cases z) (by decide)) (pa_cons (pe_lst (pa_cons pe_int pa_nil)) pa_nil))))))))) (pg_name (i := 7) sc_law.nd rfl (.inl rfl))
    (pss_one (ps_if (PW.pt (pw_or (pt_not (pt_val (pe_c (c__law_same T) hr (by decide) (by rfl) (pa_cons (pe_c (c_is_name T) hr (by decide) (by rfl) (pa_cons (pv 7) pa_nil)) (pa_cons pe_bl pa_nil))))) (pw_or1 (pt_not (pt_val (pe_c (c__law_same T) hr (by decide) (by rfl) (pa_cons (pe_c (c_is_whole T) hr (by decide) (by rfl) (pa_cons (pv 7) (pa_cons (pe_un un_neg pe_int) (pa_cons pe_int pa_nil)))) (pa_cons pe_bl pa_nil))))))))
    (pss_one (ps_ret pe_bl))
    pss_nil)))))))))))
    (pss_one (ps_ret pe_bl))), ?_⟩
  try simp only [cxOf_K, cxOf_K', cxOf_mg, cxOf_mg']
  unfold sp_law at h
  split at h
  case h_2 => exact h.elim
  rename_i a
  rw [show L2.start ["_law_script", "_law_k", "_law_cell_here", "_law_text_here", "_law_number_here", "_law_low", "_law_high", "_law_thing"] [V.ref a] = [some (V.ref a), none, none, none, none, none, none, none] from rfl]
  obtain ⟨ns, hS, hl, hbits, q⟩ := h
  walk_at "sts"
  refine L_lenL hS ?_
  walk_at "sts"
  rw [List.length_map]
  refine L_r1 (by omega) (by omega) ?_
  refine f_range (fun i σ' H' => Same H H' ∧ ∃ v1 v2 v3 v4 v5 v6 v7 : Option V, σ' = [some (.ref a), v1, v2, v3, v4, v5, v6, v7]) ⟨Same.refl _, none, none, none, none, none, none, none, rfl⟩ ?_ ?_
  · rintro i σ' H0 hi ⟨s0, v1, v2, v3, v4, v5, v6, v7, rfl⟩
    walk_at "sts"
    refine ⟨ns, s0.seq hS, by omega, by omega, fun c => ?_⟩
    walk_at "sts"
    intro z hz hzc
    walk_at "sts"
    intro n lo hi' H1 s1 p2 H2 hp2 s2 e2
    refine L_gTup (.of e2) rfl ?_
    walk_at "sts"
    refine q_nameS (by omega) ?_
    walk_at "sts"
    refine ⟨by omega, hzc, fun H3 s3 => ?_⟩
    walk_at "sts"
    rw [decide_eq_true rfl]
    walk_at "sts"
    refine ⟨_, _, rfl, ?_⟩
    walk_at "nwp"
    rename_i p4 hp4 H4 s4 e4
    refine ⟨_, _, _, _, rfl, rfl, e4, ?_⟩
    walk_at "sts"
    rw [show (decide (lo ≤ n) && decide (n ≤ hi')) = decide (lo ≤ n ∧ n < hi' + 1) by rw [Bool.eq_iff_iff]; simp; omega, decide_eq_true rfl]
    walk_at "sts"
    refine q_nameN nots_int ?_
    walk_at "sts"
    rw [decide_eq_true rfl]
    walk_at "sts"
    refine q_wholeN notw_str ?_
    walk_at "sts"
    rw [decide_eq_true rfl]
    walk_at "sts"
    walk_at "nw"
    rename_i p5 hp5 H5 s5 e5
    walk_at "sts"
    walk_at "nw"
    rename_i p6 hp6 H6 s6 e6
    walk_at "sts"
    intro p7 hp7
    walk_at "sts"
    refine ⟨upd_same, [(Sum.inr z, V.int 1)], rfl, by simp, ?_⟩
    rw [upd_upd, show mergeK [] [(Sum.inr z, V.int 1)] = [(Sum.inr z, V.int 1)] from rfl]
    have s7 := same_new (o := HO.dK [(Sum.inr z, V.int 1)]) hp7
    have e7 : (upd H6 p7 (HO.dK [(Sum.inr z, V.int 1)])) p7 = some (.dK [(Sum.inr z, V.int 1)]) := upd_same
    generalize upd H6 p7 (HO.dK [(Sum.inr z, V.int 1)]) = H7 at s7 e7
    walk_at "sts"
    walk_at "nw"
    rename_i p8 hp8 H8 s8 e8
    walk_at "sts"
    walk_at "nw"
    rename_i p9 hp9 H9 s9 e9
    have hgood : ∀ x ∈ [V.bl true, V.bl false, V.non, V.ref p5, V.ref p6, V.ref p7, V.ref p8], NotS K H9 x ∧ BadW K H9 x (-5) 5 := by
      intro x hx
      have g5 : H9 p5 = some (HO.lst [V.str z]) := by walk_at "hp"
      have g6 : H9 p6 = some (HO.tup [V.str z]) := by walk_at "hp"
      have g7 : H9 p7 = some (HO.dK [(Sum.inr z, V.int 1)]) := by walk_at "hp"
      have g8 : H9 p8 = some (HO.lst [V.int 1]) := by walk_at "hp"
      simp only [List.mem_cons, List.not_mem_nil, or_false] at hx
      rcases hx with rfl | rfl | rfl | rfl | rfl | rfl | rfl
      · exact ⟨nots_bl, notw_bl.bad⟩
      · exact ⟨nots_bl, notw_bl.bad⟩
      · exact ⟨nots_non, notw_non.bad⟩
      · exact ⟨nots_lst (.of g5), (notw_lst g5).bad⟩
      · exact ⟨nots_tup (.of g6), (notw_tup g6).bad⟩
      · exact ⟨nots_dK g7, (notw_dK g7).bad⟩
      · exact ⟨nots_lst (.of g8), (notw_lst g8).bad⟩
    refine L_rl (.of e9) ?_
    have s09 : Same H H9 := by walk_at "sm"
    refine f_it walk_list (fun i' σ' H' => Same H9 H' ∧ ∃ v7, σ' = [some (.ref a), some (.int (0 + (i : Int))), some (.int c), some (.str z), some (.int n), some (.int lo), some (.int hi'), v7]) ⟨Same.refl _, _, rfl⟩ (fun _ _ _ _ p => p.1.seq (.of e9)) ?_ ?_
    · rintro i' x σ' H10 H10' hi2 ⟨s10, v7, rfl⟩ ⟨rfl, hx⟩
      obtain ⟨g1, g2⟩ := hgood x (List.mem_of_getElem? hx)
      walk_at "sts"
      refine q_nameN (g1.same s10) ?_
      walk_at "sts"
      rw [decide_eq_true rfl]
      walk_at "sts"
      refine q_wholeB (g2.same s10) ?_
      walk_at "sts"
      rw [decide_eq_true rfl]
      walk_at "sts"
      exact ⟨s10, _, rfl⟩
    · rintro σ' H10 ⟨s10, v7, rfl⟩
      exact ⟨s09.trans s10, _, _, _, _, _, _, _, rfl⟩
  · rintro σ' H0 ⟨s0, v1, v2, v3, v4, v5, v6, v7, rfl⟩
    walk_at "sts"
    exact q _
end
theorem txt_mk {K : PySem.W.Frag} {h : Heap} {mg : Str → Option Value} (X : K.In h) (G : h.Ns mainGlobals mg)
    (z_n_len : PySem.W.nsIn K mainGlobals "len" = some none)
    (z_n_isinstance : PySem.W.nsIn K mainGlobals "isinstance" = some none)
    (z_n_str : PySem.W.nsIn K mainGlobals "str" = some none)
    {u_g_LETTERS : Value} (z_g_LETTERS : PySem.W.nsIn K mainGlobals "LETTERS" = some (some u_g_LETTERS)) (y_g_LETTERS : RelV (.str "abcdefghijklmnopqrstuvwxyz") u_g_LETTERS)
    (z_n_bool : PySem.W.nsIn K mainGlobals "bool" = some none)
    (z_n_int : PySem.W.nsIn K mainGlobals "int" = some none)
    (z_n_range : PySem.W.nsIn K mainGlobals "range" = some none)
    (z_n_min : PySem.W.nsIn K mainGlobals "min" = some none)
    {f__law_cell : Addr} {od__law_cell an__law_cell : Option Addr} {sl__law_cell : Array (Option Value)} {oc__law_cell kV__law_cell dc__law_cell pm__law_cell cd__law_cell ct__law_cell : Value}
    (a__law_cell : PySem.W.nsIn K mainGlobals "_law_cell" = some (some (.ref f__law_cell))) (l__law_cell : K.lookup f__law_cell = some ⟨oc__law_cell, od__law_cell, .func (PySem.W.fnOf "_law_cell" "_law_cell" (defArgs s__law_cell) (defBody s__law_cell) (defScope s__law_cell) .none kV__law_cell dc__law_cell pm__law_cell an__law_cell cd__law_cell ct__law_cell), sl__law_cell⟩) (c__law_cell : PySem.W.codeIn K cd__law_cell "_law_cell" = true) (k__law_cell : PySem.W.keepIn K (.ref f__law_cell) = true)
    {f__law_mixed : Addr} {od__law_mixed an__law_mixed : Option Addr} {sl__law_mixed : Array (Option Value)} {oc__law_mixed kV__law_mixed dc__law_mixed pm__law_mixed cd__law_mixed ct__law_mixed : Value}
    (a__law_mixed : PySem.W.nsIn K mainGlobals "_law_mixed" = some (some (.ref f__law_mixed))) (l__law_mixed : K.lookup f__law_mixed = some ⟨oc__law_mixed, od__law_mixed, .func (PySem.W.fnOf "_law_mixed" "_law_mixed" (defArgs s__law_mixed) (defBody s__law_mixed) (defScope s__law_mixed) .none kV__law_mixed dc__law_mixed pm__law_mixed an__law_mixed cd__law_mixed ct__law_mixed), sl__law_mixed⟩) (c__law_mixed : PySem.W.codeIn K cd__law_mixed "_law_mixed" = true) (k__law_mixed : PySem.W.keepIn K (.ref f__law_mixed) = true)
    {f_is_name : Addr} {od_is_name an_is_name : Option Addr} {sl_is_name : Array (Option Value)} {oc_is_name kV_is_name dc_is_name pm_is_name cd_is_name ct_is_name : Value}
    (a_is_name : PySem.W.nsIn K mainGlobals "is_name" = some (some (.ref f_is_name))) (l_is_name : K.lookup f_is_name = some ⟨oc_is_name, od_is_name, .func (PySem.W.fnOf "is_name" "is_name" (defArgs s_is_name) (defBody s_is_name) (defScope s_is_name) .none kV_is_name dc_is_name pm_is_name an_is_name cd_is_name ct_is_name), sl_is_name⟩) (c_is_name : PySem.W.codeIn K cd_is_name "is_name" = true) (k_is_name : PySem.W.keepIn K (.ref f_is_name) = true)
    {f_is_whole : Addr} {od_is_whole an_is_whole : Option Addr} {sl_is_whole : Array (Option Value)} {oc_is_whole kV_is_whole dc_is_whole pm_is_whole cd_is_whole ct_is_whole : Value}
    (a_is_whole : PySem.W.nsIn K mainGlobals "is_whole" = some (some (.ref f_is_whole))) (l_is_whole : K.lookup f_is_whole = some ⟨oc_is_whole, od_is_whole, .func (PySem.W.fnOf "is_whole" "is_whole" (defArgs s_is_whole) (defBody s_is_whole) (defScope s_is_whole) .none kV_is_whole dc_is_whole pm_is_whole an_is_whole cd_is_whole ct_is_whole), sl_is_whole⟩) (c_is_whole : PySem.W.codeIn K cd_is_whole "is_whole" = true) (k_is_whole : PySem.W.keepIn K (.ref f_is_whole) = true)
    {f__law_text : Addr} {od__law_text an__law_text : Option Addr} {sl__law_text : Array (Option Value)} {oc__law_text kV__law_text dc__law_text pm__law_text cd__law_text ct__law_text : Value}
    (a__law_text : PySem.W.nsIn K mainGlobals "_law_text" = some (some (.ref f__law_text))) (l__law_text : K.lookup f__law_text = some ⟨oc__law_text, od__law_text, .func (PySem.W.fnOf "_law_text" "_law_text" (defArgs s__law_text) (defBody s__law_text) (defScope s__law_text) .none kV__law_text dc__law_text pm__law_text an__law_text cd__law_text ct__law_text), sl__law_text⟩) (c__law_text : PySem.W.codeIn K cd__law_text "_law_text" = true) (k__law_text : PySem.W.keepIn K (.ref f__law_text) = true)
    {f__law_is_name : Addr} {od__law_is_name an__law_is_name : Option Addr} {sl__law_is_name : Array (Option Value)} {oc__law_is_name kV__law_is_name dc__law_is_name pm__law_is_name cd__law_is_name ct__law_is_name : Value}
    (a__law_is_name : PySem.W.nsIn K mainGlobals "_law_is_name" = some (some (.ref f__law_is_name))) (l__law_is_name : K.lookup f__law_is_name = some ⟨oc__law_is_name, od__law_is_name, .func (PySem.W.fnOf "_law_is_name" "_law_is_name" (defArgs s__law_is_name) (defBody s__law_is_name) (defScope s__law_is_name) .none kV__law_is_name dc__law_is_name pm__law_is_name an__law_is_name cd__law_is_name ct__law_is_name), sl__law_is_name⟩) (c__law_is_name : PySem.W.codeIn K cd__law_is_name "_law_is_name" = true) (k__law_is_name : PySem.W.keepIn K (.ref f__law_is_name) = true)
    {f__law_number : Addr} {od__law_number an__law_number : Option Addr} {sl__law_number : Array (Option Value)} {oc__law_number kV__law_number dc__law_number pm__law_number cd__law_number ct__law_number : Value}
    (a__law_number : PySem.W.nsIn K mainGlobals "_law_number" = some (some (.ref f__law_number))) (l__law_number : K.lookup f__law_number = some ⟨oc__law_number, od__law_number, .func (PySem.W.fnOf "_law_number" "_law_number" (defArgs s__law_number) (defBody s__law_number) (defScope s__law_number) .none kV__law_number dc__law_number pm__law_number an__law_number cd__law_number ct__law_number), sl__law_number⟩) (c__law_number : PySem.W.codeIn K cd__law_number "_law_number" = true) (k__law_number : PySem.W.keepIn K (.ref f__law_number) = true)
    {f__law_same : Addr} {od__law_same an__law_same : Option Addr} {sl__law_same : Array (Option Value)} {oc__law_same kV__law_same dc__law_same pm__law_same cd__law_same ct__law_same : Value}
    (a__law_same : PySem.W.nsIn K mainGlobals "_law_same" = some (some (.ref f__law_same))) (l__law_same : K.lookup f__law_same = some ⟨oc__law_same, od__law_same, .func (PySem.W.fnOf "_law_same" "_law_same" (defArgs s__law_same) (defBody s__law_same) (defScope s__law_same) .none kV__law_same dc__law_same pm__law_same an__law_same cd__law_same ct__law_same), sl__law_same⟩) (c__law_same : PySem.W.codeIn K cd__law_same "_law_same" = true) (k__law_same : PySem.W.keepIn K (.ref f__law_same) = true)
    {f_law : Addr} {od_law an_law : Option Addr} {sl_law : Array (Option Value)} {oc_law kV_law dc_law pm_law cd_law ct_law : Value}
    (a_law : PySem.W.nsIn K mainGlobals "law" = some (some (.ref f_law))) (l_law : K.lookup f_law = some ⟨oc_law, od_law, .func (PySem.W.fnOf "law" "law" (defArgs s_law) (defBody s_law) (defScope s_law) .none kV_law dc_law pm_law an_law cd_law ct_law), sl_law⟩) (c_law : PySem.W.codeIn K cd_law "law" = true) (k_law : PySem.W.keepIn K (.ref f_law) = true) : Txt K mg := by

  exact ⟨(PySem.W.mg_none_of X G z_n_len), (PySem.W.mg_none_of X G z_n_isinstance), (PySem.W.mg_none_of X G z_n_str), (⟨_, PySem.W.mg_of X G z_g_LETTERS, y_g_LETTERS⟩), (PySem.W.mg_none_of X G z_n_bool), (PySem.W.mg_none_of X G z_n_int), (PySem.W.mg_none_of X G z_n_range), (PySem.W.mg_none_of X G z_n_min), (⟨f__law_cell, _, fun_mk (st := s__law_cell) l__law_cell c__law_cell k__law_cell, PySem.W.mg_of X G a__law_cell, (fun_mk (st := s__law_cell) l__law_cell c__law_cell k__law_cell).binds (ps := ["_law_script", "_law_k"]) fun _ _ _ _ _ _ us hl => match us, hl with | [_, _], _ => rfl⟩), (⟨f__law_mixed, _, fun_mk (st := s__law_mixed) l__law_mixed c__law_mixed k__law_mixed, PySem.W.mg_of X G a__law_mixed, (fun_mk (st := s__law_mixed) l__law_mixed c__law_mixed k__law_mixed).binds (ps := ["_law_cell_here", "_law_k"]) fun _ _ _ _ _ _ us hl => match us, hl with | [_, _], _ => rfl⟩), (⟨f_is_name, _, fun_mk (st := s_is_name) l_is_name c_is_name k_is_name, PySem.W.mg_of X G a_is_name, (fun_mk (st := s_is_name) l_is_name c_is_name k_is_name).binds (ps := ["thing"]) fun _ _ _ _ _ _ us hl => match us, hl with | [_], _ => rfl⟩), (⟨f_is_whole, _, fun_mk (st := s_is_whole) l_is_whole c_is_whole k_is_whole, PySem.W.mg_of X G a_is_whole, (fun_mk (st := s_is_whole) l_is_whole c_is_whole k_is_whole).binds (ps := ["thing", "low", "high"]) fun _ _ _ _ _ _ us hl => match us, hl with | [_, _, _], _ => rfl⟩), (⟨f__law_text, _, fun_mk (st := s__law_text) l__law_text c__law_text k__law_text, PySem.W.mg_of X G a__law_text, (fun_mk (st := s__law_text) l__law_text c__law_text k__law_text).binds (ps := ["_law_cell_here"]) fun _ _ _ _ _ _ us hl => match us, hl with | [_], _ => rfl⟩), (⟨f__law_is_name, _, fun_mk (st := s__law_is_name) l__law_is_name c__law_is_name k__law_is_name, PySem.W.mg_of X G a__law_is_name, (fun_mk (st := s__law_is_name) l__law_is_name c__law_is_name k__law_is_name).binds (ps := ["_law_text_here"]) fun _ _ _ _ _ _ us hl => match us, hl with | [_], _ => rfl⟩), (⟨f__law_number, _, fun_mk (st := s__law_number) l__law_number c__law_number k__law_number, PySem.W.mg_of X G a__law_number, (fun_mk (st := s__law_number) l__law_number c__law_number k__law_number).binds (ps := ["_law_cell_here"]) fun _ _ _ _ _ _ us hl => match us, hl with | [_], _ => rfl⟩), (⟨f__law_same, _, fun_mk (st := s__law_same) l__law_same c__law_same k__law_same, PySem.W.mg_of X G a__law_same, (fun_mk (st := s__law_same) l__law_same c__law_same k__law_same).binds (ps := ["_law_found", "_law_due"]) fun _ _ _ _ _ _ us hl => match us, hl with | [_, _], _ => rfl⟩), (⟨f_law, _, fun_mk (st := s_law) l_law c_law k_law, PySem.W.mg_of X G a_law, (fun_mk (st := s_law) l_law c_law k_law).binds (ps := ["_law_script"]) fun _ _ _ _ _ _ us hl => match us, hl with | [_], _ => rfl⟩)⟩
theorem law_mk {P : Program} {w : World} {K : PySem.W.Frag} {mg : Str → Option Value} {fa : Addr} (T : Txt K mg) (hfa : mg "law" = some (.ref fa)) :
    ∃ fd : FuncData, (∀ (s : Shared) (v : Value), BindsTo s fd ⟨[v], []⟩ [("_law_script", v)]) ∧ ∀ base : Heap, K.In base → base.Ns mainGlobals mg → FnOk P w K mg base CX0 3 fa fd ["_law_script"] (sp_law K mg) := by
  obtain ⟨f, fd, F, hm, b⟩ := T.d_law.ex
  have e := hfa.symm.trans hm
  cases e
  refine ⟨fd, fun s v => ?_, fun base _ _ => c_law T F⟩
  obtain ⟨oc, od, kV, doc, pm, an, cdv, ct, osl, rfl, lk, hcd⟩ := F.ex
  exact .of_eq rfl
end My
open PySem PySem.W PyProof.Rows
set_option maxRecDepth 100000 in
set_option maxHeartbeats 0 in
theorem PySem.Challenge.cw_fewspeak_k01_names_and_numbers_holds : PySem.Challenge.rw_fewspeak_k01_names_and_numbers.Holds := by
  w_on; o_law; k_head; (case hw => w_witness2)
  k_fill
  refine L2.walk_ofB (l := PySem.Challenge.rw_fewspeak_k01_names_and_numbers) (n := 63) (k := 3) (x := "_law_script") (CX := fun _ => L2.CX0) (sp := fun w => My.sp_law _ (fun _ => none)) rfl (by decide) rfl ⟨rfl, by decide, by decide⟩ (fun w h Y => PySem.W.kIn_of Y) ?F (fun _ _ a ns hl hb _ hS => ⟨ns, hS, hl, hb, fun _ => rfl⟩) (fun _ _ _ _ _ h => h)
  case F =>
    intro w mg fa h KX G hmg
    refine' My.law_mk (My.txt_mk KX G ?z_n_len ?z_n_isinstance ?z_n_str ?z_g_LETTERS ?y_g_LETTERS ?z_n_bool ?z_n_int ?z_n_range ?z_n_min ?a__law_cell ?l__law_cell ?c__law_cell ?k__law_cell ?a__law_mixed ?l__law_mixed ?c__law_mixed ?k__law_mixed ?a_is_name ?l_is_name ?c_is_name ?k_is_name ?a_is_whole ?l_is_whole ?c_is_whole ?k_is_whole ?a__law_text ?l__law_text ?c__law_text ?k__law_text ?a__law_is_name ?l__law_is_name ?c__law_is_name ?k__law_is_name ?a__law_number ?l__law_number ?c__law_number ?k__law_number ?a__law_same ?l__law_same ?c__law_same ?k__law_same ?a_law ?l_law ?c_law ?k_law) hmg
    (case z_n_len => k_is)
    (case z_n_isinstance => k_is)
    (case z_n_str => k_is)
    (case z_g_LETTERS => k_is)
    (case y_g_LETTERS => exact ⟨_, rfl⟩)
    (case z_n_bool => k_is)
    (case z_n_int => k_is)
    (case z_n_range => k_is)
    (case z_n_min => k_is)
    (case a__law_cell => k_is)
    (case l__law_cell => k_is)
    (case c__law_cell => k_is)
    (case k__law_cell => k_is)
    (case a__law_mixed => k_is)
    (case l__law_mixed => k_is)
    (case c__law_mixed => k_is)
    (case k__law_mixed => k_is)
    (case a_is_name => k_is)
    (case l_is_name => k_is)
    (case c_is_name => k_is)
    (case k_is_name => k_is)
    (case a_is_whole => k_is)
    (case l_is_whole => k_is)
    (case c_is_whole => k_is)
    (case k_is_whole => k_is)
    (case a__law_text => k_is)
    (case l__law_text => k_is)
    (case c__law_text => k_is)
    (case k__law_text => k_is)
    (case a__law_is_name => k_is)
    (case l__law_is_name => k_is)
    (case c__law_is_name => k_is)
    (case k__law_is_name => k_is)
    (case a__law_number => k_is)
    (case l__law_number => k_is)
    (case c__law_number => k_is)
    (case k__law_number => k_is)
    (case a__law_same => k_is)
    (case l__law_same => k_is)
    (case c__law_same => k_is)
    (case k__law_same => k_is)
    (case a_law => k_is)
    (case l_law => k_is)
    (case c_law => k_is)
    (case k_law => k_is)
#print axioms PySem.Challenge.cw_fewspeak_k01_names_and_numbers_holds

