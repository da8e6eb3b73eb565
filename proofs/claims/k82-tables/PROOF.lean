import PyProof.Rows.All
import Wide.All
import OpenK.AllK
import Wide.FinOn
import HandS.ForMost
import HandS.Exc
import HandS.TryOnly
import HandS.ExcOwn
import HandS.WordsExc
import HandS.Wide
import HandS.IsInst
import HandS.EndBits
import HandS.Conv
import HandS.Style
import HandS.TupAny
import HandS.Evl
import HandS.Walk
import HandS.ExcIs
import HandS.ExcInit
import HandS.ExcField
import HandS.ExcValue
import HandS.SetKeys
import KE.KExcIs
import HandS.Defaults
import HandS.CallSlots
import HandS.More
import PyProof.StrBlock2
import HandS.Text
import PySem.Challenge.RW_fewspeak_k82_tables_refused
set_option Elab.async false
set_option linter.all false
set_option maxRecDepth 100000
set_option maxHeartbeats 4000000
namespace Kt
open PySem PySem.Spec PyProof.Rows L2
/-- a def of the top, as it stands behind the top -/
structure DefAt (K : PySem.W.Frag) (mg : Str → Option Value) (x : Str) (st : Stmt) (ps : List Str) : Prop where
  ex : ∃ (f : Addr) (fd : FuncData), Fun K x x st f fd ∧ mg x = some (.ref f) ∧ Binds K fd ps []
/-- a method of the class at C -/
structure MethAt (K : PySem.W.Frag) (C : Addr) (m qual : Str) (st : Stmt) (ps : List Str) : Prop where
  ex : ∃ (f : Addr) (fd : FuncData), Fun K m qual st f fd ∧ Meth K C m f ∧ Binds K fd ps []
structure InitAt (K : PySem.W.Frag) (C : Addr) (qual : Str) (st : Stmt) (ps : List Str) : Prop where
  ex : ∃ (f : Addr) (fd : FuncData), Fun K "__init__" qual st f fd ∧ Mk K C f ∧ Binds K fd ps []
/-- the class that a name of the module holds -/
def cA (mg : Str → Option Value) (x : Str) : Addr := match mg x with | some (.ref a) => a | _ => 0
theorem cA_of {mg : Str → Option Value} {x : Str} {a : Addr} (h : mg x = some (.ref a)) : cA mg x = a := by unfold cA; rw [h]
/-- a def that may be called by its name; a method of the class at C; a class that may be made -/
structure Cal (P : Program) (w : World) (K : PySem.W.Frag) (mg : Str → Option Value) (base : Heap) (k : Nat) (x : Str) (sp : Sp) : Prop where
  ex : ∃ (f : Addr) (fd : FuncData) (ps : List Str), FnOk P w K mg base CX0 k f fd ps sp ∧ mg x = some (.ref f) ∧ PySem.W.keepIn K (.ref f) = true ∧ Binds K fd ps []
structure Met (P : Program) (w : World) (K : PySem.W.Frag) (mg : Str → Option Value) (base : Heap) (k : Nat) (C : Addr) (m : Str) (sp : Sp) : Prop where
  ex : ∃ (f : Addr) (fd : FuncData) (ps : List Str), Cls K C ∧ Meth K C m f ∧ FnOk P w K mg base CX0 k f fd ps sp ∧ Binds K fd ps []
structure Mak (P : Program) (w : World) (K : PySem.W.Frag) (mg : Str → Option Value) (base : Heap) (k : Nat) (x : Str) (C : Addr) (sp : Sp) : Prop where
  ex : ∃ (f : Addr) (fd : FuncData) (ps : List Str), Mk K C f ∧ FnOk P w K mg base CX0 k f fd ps sp ∧ mg x = some (.ref C) ∧ Binds K fd ps []
section
variable {P : Program} {w : World} {K : PySem.W.Frag} {mg : Str → Option Value} {base : Heap}
theorem DefAt.cal {x : Str} {st : Stmt} {N ps : List Str} {k : Nat} {sp : Sp} (d : DefAt K mg x st ps) (S : FnScope N ps (defScope st)) (len : ∀ vs H Q E, sp vs H Q E → vs.length = ps.length)
    (hbody : ∀ (f : Addr) (cdv : Value) (A : Around) (outer : List Env) (s : Shared) (H : Hp) (vs : List V) (Q : VK) (E : XK), Room k (A.deeper (envOfC x (defScope st) s.heap.objs.size f cdv)) → sp vs H Q E →
      ∃ t, PSs (cxOf CX0 P w K mg base N x (defScope st) f cdv A outer s H E).nox (defBody st) t ∧ t { nx := fun _ H' => Q .non H', rt := Q } (start N vs) H) : Cal P w K mg base (k + 1) x sp := by
  obtain ⟨f, fd, F, hm, b⟩ := d.ex
  exact ⟨f, fd, ps, F.ok S len (hbody f), hm, F.kp, b⟩
theorem MethAt.met {C : Addr} {m qual : Str} {st : Stmt} {N ps : List Str} {k : Nat} {sp : Sp} (c : Cls K C) (d : MethAt K C m qual st ps) (S : FnScope N ps (defScope st)) (len : ∀ vs H Q E, sp vs H Q E → vs.length = ps.length)
    (hbody : ∀ (f : Addr) (cdv : Value) (A : Around) (outer : List Env) (s : Shared) (H : Hp) (vs : List V) (Q : VK) (E : XK), Room k (A.deeper (envOfC qual (defScope st) s.heap.objs.size f cdv)) → sp vs H Q E →
      ∃ t, PSs (cxOf CX0 P w K mg base N qual (defScope st) f cdv A outer s H E).nox (defBody st) t ∧ t { nx := fun _ H' => Q .non H', rt := Q } (start N vs) H) : Met P w K mg base (k + 1) C m sp := by
  obtain ⟨f, fd, F, hm, b⟩ := d.ex
  exact ⟨f, fd, ps, c, hm, F.ok S len (hbody f), b⟩
theorem InitAt.mak {x : Str} {C : Addr} {qual : Str} {st : Stmt} {N ps : List Str} {k : Nat} {sp : Sp} (hx : mg x = some (.ref C)) (d : InitAt K C qual st ps) (S : FnScope N ps (defScope st)) (len : ∀ vs H Q E, sp vs H Q E → vs.length = ps.length)
    (hbody : ∀ (f : Addr) (cdv : Value) (A : Around) (outer : List Env) (s : Shared) (H : Hp) (vs : List V) (Q : VK) (E : XK), Room k (A.deeper (envOfC qual (defScope st) s.heap.objs.size f cdv)) → sp vs H Q E →
      ∃ t, PSs (cxOf CX0 P w K mg base N qual (defScope st) f cdv A outer s H E).nox (defBody st) t ∧ t { nx := fun _ H' => Q .non H', rt := Q } (start N vs) H) : Mak P w K mg base (k + 1) x C sp := by
  obtain ⟨f, fd, F, hm, b⟩ := d.ex
  exact ⟨f, fd, ps, hm, F.ok S len (hbody f), hx, b⟩
/-- a def that may raise -/
structure CalX (P : Program) (w : World) (K : PySem.W.Frag) (mg : Str → Option Value) (base : Heap) (k : Nat) (x : Str) (sp : Sp) : Prop where
  ex : ∃ (f : Addr) (fd : FuncData) (ps : List Str), FnOk P w K mg base (L2.CX P w) k f fd ps sp ∧ mg x = some (.ref f) ∧ PySem.W.keepIn K (.ref f) = true ∧ Binds K fd ps []
theorem DefAt.calX {x : Str} {st : Stmt} {N ps : List Str} {k : Nat} {sp : Sp} (d : DefAt K mg x st ps) (S : FnScope N ps (defScope st)) (len : ∀ vs H Q E, sp vs H Q E → vs.length = ps.length)
    (hbody : ∀ (f : Addr) (cdv : Value) (A : Around) (outer : List Env) (s : Shared) (H : Hp) (vs : List V) (Q : VK) (E : XK), Room k (A.deeper (envOfC x (defScope st) s.heap.objs.size f cdv)) → sp vs H Q E →
      ∃ t, PSs (cxOf (L2.CX P w) P w K mg base N x (defScope st) f cdv A outer s H E) (defBody st) t ∧ t { nx := fun _ H' => Q .non H', rt := Q } (start N vs) H) : CalX P w K mg base (k + 1) x sp := by
  obtain ⟨f, fd, F, hm, b⟩ := d.ex
  exact ⟨f, fd, ps, F.okX S len (hbody f), hm, F.kp, b⟩
end
section
variable {X : Cx} {k j : Nat} {C : Addr} {x m : Str} {sp : Sp} {p pos apos : Pos} {e o : Expr} {es : List Expr} {ta : TE} {t : TA}
theorem pe_c (c : Cal X.prog X.w X.K X.mg X.base k x sp) (hr : Room j X.A) (hk : k ≤ j) (hg : Gl X x) (ha : PA X (e :: es) t)
    (hdb : (x == ("__debug__" : Str)) = false := by decide) (he : starEach (e :: es) X.env = (false, eval e X.env) :: starEach es X.env := by rfl) (hpl : (backTo pos (starEach es X.env)).any (·.1) = false := by rfl) :
    PE X (.Call (.Name x p) (e :: es) [] pos) (tCall sp [] E0 t) := by
  obtain ⟨f, fd, ps, F, hm, kp, b⟩ := c.ex
  exact pe_call F (hr.mono hk) hg hm kp b .nil pass0 ha hdb he hpl
theorem pe_c0 (c : Cal X.prog X.w X.K X.mg X.base k x sp) (hr : Room j X.A) (hk : k ≤ j) (hg : Gl X x)
    (hdb : (x == ("__debug__" : Str)) = false := by decide) :
    PE X (.Call (.Name x p) [] [] pos) (tCall sp [] E0 tNil) := by
  obtain ⟨f, fd, ps, F, hm, kp, b⟩ := c.ex
  exact pe_call0 F (hr.mono hk) hg hm kp b .nil pass0 hdb
theorem pe_mk (c : Mak X.prog X.w X.K X.mg X.base k x C sp) (hr : Room j X.A) (hk : k + 1 ≤ j) (hg : Gl X x) (ha : PA X (e :: es) t)
    (hdb : (x == ("__debug__" : Str)) = false := by decide) (he : starEach (e :: es) X.env = (false, eval e X.env) :: starEach es X.env := by rfl) (hpl : (backTo pos (starEach es X.env)).any (·.1) = false := by rfl) :
    PE X (.Call (.Name x p) (e :: es) [] pos) (tMake C sp [] E0 t) := by
  obtain ⟨f, fd, ps, M, F, hm, b⟩ := c.ex
  exact pe_make M F (hr.mono hk) hg hm b .nil pass0 ha hdb he hpl
theorem pe_mt {pl : Sem Bool} (c : Met X.prog X.w X.K X.mg X.base k C m sp) (hr : Room j X.A) (hk : k ≤ j) (he : PE X o ta) (ha : PA X (e :: es) t)
    (hst : starEach (e :: es) X.env = (false, eval e X.env) :: starEach es X.env := by rfl) (hpl : (backTo pos (starEach es X.env)).any (·.1) = false := by rfl)
    (ht : eval (.Call (.Attribute o m apos) (e :: es) [] pos) X.env = (do
      let ov ← eval o X.env
      standAt apos.atName
      let (f, first) ← holding [ov] (getMethod ov m pl)
      callWith pos f first (backTo pos (starEach (e :: es) X.env)) (backToKw pos (keywordEach [] X.env))) := by rfl) :
    PE X (.Call (.Attribute o m apos) (e :: es) [] pos) (tMeth C m sp [] E0 ta t) := by
  obtain ⟨f, fd, ps, hc, hm, F, b⟩ := c.ex
  exact pe_meth (pl := pl) he hc hm F (hr.mono hk) b .nil pass0 ha hst hpl ht
theorem pe_mt0 {pl : Sem Bool} (c : Met X.prog X.w X.K X.mg X.base k C m sp) (hr : Room j X.A) (hk : k ≤ j) (he : PE X o ta)
    (ht : eval (.Call (.Attribute o m apos) [] [] pos) X.env = (do
      let ov ← eval o X.env
      standAt apos.atName
      let (f, first) ← holding [ov] (getMethod ov m pl)
      callWith pos f first (backTo pos (starEach [] X.env)) (backToKw pos (keywordEach [] X.env))) := by rfl) :
    PE X (.Call (.Attribute o m apos) [] [] pos) (tMeth C m sp [] E0 ta tNil) := by
  obtain ⟨f, fd, ps, hc, hm, F, b⟩ := c.ex
  exact pe_meth0 (pl := pl) he hc hm F (hr.mono hk) b .nil pass0 ht
/-- a call of a def that may raise, where nothing is raised -/
theorem pe_x0 (c : CalX X.prog X.w X.K X.mg X.base k x sp) (hr : Room j X.A) (hk : k ≤ j) (hg : Gl X x) (ha : PA X (e :: es) t)
    (hdb : (x == ("__debug__" : Str)) = false := by decide) (he : starEach (e :: es) X.env = (false, eval e X.env) :: starEach es X.env := by rfl) (hpl : (backTo pos (starEach es X.env)).any (·.1) = false := by rfl) :
    PE X (.Call (.Name x p) (e :: es) [] pos) (tCall sp [] E0 t) := by
  obtain ⟨f, fd, ps, F, hm, kp, b⟩ := c.ex
  exact pe_call F (hr.mono hk) hg hm kp b .nil passL ha hdb he hpl
end
/-- a built-in class as a value -/
theorem pe_ty {X : Cx} {x : Str} {pos : Pos} (n : String) (hg : Gl X x) (hm : X.mg x = none) (hv : bootBuiltins x = some (.type n)) (hn : x ≠ "__name__" := by decide) (hdb : (x == ("__debug__" : Str)) = false := by decide) : PE X (.Name x pos) (tC (.ty n)) :=
  pe_bltn hg hm hv rfl hn hdb
/-- a constant of the module -/
theorem pe_gc {X : Cx} {x : Str} {pos : Pos} {v : V} (hg : Gl X x) (h : ∃ u, X.mg x = some u ∧ RelV v u) (hdb : (x == ("__debug__" : Str)) = false := by decide) : PE X (.Name x pos) (tC v) := by
  obtain ⟨u, h1, h2⟩ := h
  exact pe_glob hg h1 h2 hdb
/-! ### heaps -/
theorem hp_new {H : Hp} {a b : Addr} {o o' : HO} (h : H a = none) (h' : H b = some o') : upd H a o b = some o' := by
  rw [upd_ne (ne_of_none h' h)]; exact h'
theorem hp_same {H H' : Hp} {b : Addr} {o : HO} (e : Same H H') (h : H b = some o) : H' b = some o := e b o h
theorem same_upd {H H' : Hp} {a : Addr} {o : HO} (e : Same H H') (h : H' a = none) : Same H (upd H' a o) := fun b o' q => hp_new h (e b o' q)
theorem same_new {H : Hp} {a : Addr} {o : HO} (h : H a = none) : Same H (upd H a o) := fun b o' q => hp_new h q
theorem cxOf_K {CX : CXT} {P : Program} {w : World} {K : PySem.W.Frag} {mg : Str → Option Value} {base : Heap} {N : List Str} {qual : Str} {scope : Scope} {f : Addr} {cd : Value} {A : Around} {outer : List Env} {s : Shared} {H : Hp} {E : XK} : (cxOf CX P w K mg base N qual scope f cd A outer s H E).nox.K = K := rfl
theorem cxOf_K' {CX : CXT} {P : Program} {w : World} {K : PySem.W.Frag} {mg : Str → Option Value} {base : Heap} {N : List Str} {qual : Str} {scope : Scope} {f : Addr} {cd : Value} {A : Around} {outer : List Env} {s : Shared} {H : Hp} {E : XK} : (cxOf CX P w K mg base N qual scope f cd A outer s H E).K = K := rfl
theorem cxOf_mg {CX : CXT} {P : Program} {w : World} {K : PySem.W.Frag} {mg : Str → Option Value} {base : Heap} {N : List Str} {qual : Str} {scope : Scope} {f : Addr} {cd : Value} {A : Around} {outer : List Env} {s : Shared} {H : Hp} {E : XK} : (cxOf CX P w K mg base N qual scope f cd A outer s H E).nox.mg = mg := rfl
theorem cxOf_mg' {CX : CXT} {P : Program} {w : World} {K : PySem.W.Frag} {mg : Str → Option Value} {base : Heap} {N : List Str} {qual : Str} {scope : Scope} {f : Addr} {cd : Value} {A : Around} {outer : List Env} {s : Shared} {H : Hp} {E : XK} : (cxOf CX P w K mg base N qual scope f cd A outer s H E).mg = mg := rfl
/-- a new tuple, a new list: all that stood stands -/
def NewT (H : Hp) (xs : List V) (Q : VK) : Prop := ∀ p H', H p = none → Same H H' → H' p = some (.tup xs) → Q (.ref p) H'
def NewL (H : Hp) (xs : List V) (Q : VK) : Prop := ∀ p H', H p = none → Same H H' → H' p = some (.lst xs) → Q (.ref p) H'
theorem NewT.at {H : Hp} {xs : List V} {Q : VK} (q : NewT H xs Q) (p : Addr) (h : H p = none) : Q (.ref p) (upd H p (.tup xs)) := q p _ h (same_new h) upd_same
theorem NewL.at {H : Hp} {xs : List V} {Q : VK} (q : NewL H xs Q) (p : Addr) (h : H p = none) : Q (.ref p) (upd H p (.lst xs)) := q p _ h (same_new h) upd_same
theorem NewT.of {H H' : Hp} {xs : List V} {Q : VK} (q : NewT H xs Q) (e : Same H H') : NewT H' xs Q := fun p H2 h s x => q p H2 (e.free h) (e.trans s) x
theorem NewL.of {H H' : Hp} {xs : List V} {Q : VK} (q : NewL H xs Q) (e : Same H H') : NewL H' xs Q := fun p H2 h s x => q p H2 (e.free h) (e.trans s) x
/-! ### readings by name -/
section
variable {X : Cx}
def aAdd (K : PySem.W.Frag) : R2 := fun x y H Q => rI0 (fun i j => .int (i + j)) x y H Q ∨ (∃ i j, x = .str i ∧ y = .str j ∧ i.length + j.length ≤ sizeLine ∧ Q (.str (i ++ j)) H) ∨ rCat x y H Q ∨ rCatA K x y H Q
theorem op_addA : OpR X (binaryOp .Add) (aAdd X.K) := op_add.or (op_add_str.or (op_cat.or op_catA))
def aMul : R2 := fun x y H Q => rI CMulW (fun i j => .int (i * j)) x y H Q ∨ rRep x y H Q
theorem op_mulA : OpR X (binaryOp .Mult) aMul := op_mulW.or op_rep
def aEq (K : PySem.W.Frag) : R2 := fun x y H Q => rEq x y H Q ∨ rEqD K x y H Q
theorem op_eqA {k : Nat} (hr : Room k X.A) : OpR X (compareOp .Eq) (aEq X.K) := op_eq.or (op_eqD hr.units)
def aNe (K : PySem.W.Frag) : R2 := fun x y H Q => rNe x y H Q ∨ rNeD K x y H Q
theorem op_neA {k : Nat} (hr : Room k X.A) : OpR X (compareOp .NotEq) (aNe X.K) := op_ne.or (op_neD hr.units)
def aLe : R2 := fun x y H Q => rI0 (fun i j => .bl (decide (i ≤ j))) x y H Q ∨ ∃ i j, x = .str i ∧ y = .str j ∧ Q (.bl (!decide (j.cps.toList < i.cps.toList))) H
theorem op_leA : OpR X (compareOp .LtE) aLe := op_le.or op_le_str
def aLt : R2 := fun x y H Q => rI0 (fun i j => .bl (decide (i < j))) x y H Q ∨ ∃ i j, x = .str i ∧ y = .str j ∧ Q (.bl (decide (i.cps.toList < j.cps.toList))) H
theorem op_ltA : OpR X (compareOp .Lt) aLt := op_lt.or op_lt_str
def aIn (K : PySem.W.Frag) : R2 := fun x y H Q => (∃ (c : Nat) (z : Str), x = .str ⟨#[c]⟩ ∧ y = .str z ∧ Q (.bl (decide (c ∈ z.cps.toList))) H) ∨ rIn K false x y H Q
theorem op_inA : OpR X (compareOp .In) (aIn X.K) := op_in_sign.or op_in_seq
def aNotIn (K : PySem.W.Frag) : R2 := fun x y H Q => (∃ (c : Nat) (z : Str), x = .str ⟨#[c]⟩ ∧ y = .str z ∧ Q (.bl (!decide (c ∈ z.cps.toList))) H) ∨ rIn K true x y H Q
theorem op_notInA : OpR X (compareOp .NotIn) (aNotIn X.K) := op_notIn_sign.or op_notIn_seq
def aLen (K : PySem.W.Frag) : List V → Hp → VK → Prop := fun xs H Q => (∃ p ys, xs = [.ref p] ∧ (SqL K H p ys ∨ SqT K H p ys) ∧ Q (.int ys.length) H) ∨ (∃ z, xs = [.str z] ∧ z.length ≤ sizeLine ∧ Q (.int z.length) H) ∨ (∃ a kvs, xs = [V.ref a] ∧ H a = some (.dK kvs) ∧ Q (.int kvs.length) H)
theorem call_lenA : CallR X (.builtin "len") (aLen X.K) := call_len_seq.or (call_len_str.or call_lenD)
def aAbs : List V → Hp → VK → Prop := fun xs H Q => ∃ i, xs = [.int i] ∧ Q (.int (if i < 0 then -i else i)) H
theorem call_absA : CallR X (.builtin "abs") aAbs := call_abs
def aMax2 : List V → Hp → VK → Prop := fun xs H Q => ∃ i j, xs = [.int i, .int j] ∧ Q (.int (if j > i then j else i)) H
theorem call_max2A (hc : X.calm = true) : CallR X (.builtin "max") aMax2 := call_max2 hc
def aMin2 : List V → Hp → VK → Prop := fun xs H Q => ∃ i j, xs = [.int i, .int j] ∧ Q (.int (if j < i then j else i)) H
theorem call_min2A (hc : X.calm = true) : CallR X (.builtin "min") aMin2 := call_min2 hc
def aInt1 : List V → Hp → VK → Prop := fun xs H Q => (∃ i, xs = [.int i] ∧ Q (.int i) H) ∨ ∃ k, xs = [.bl k] ∧ Q (.int (if k then 1 else 0)) H
theorem call_int1A : CallR X (.type "int") aInt1 := call_int1
def aStr1 : List V → Hp → VK → Prop := fun xs H Q => ∃ i, xs = [.int i] ∧ i.natAbs.log2 < 1920 ∧ Q (.str (toString i)) H
theorem call_str1A : CallR X (.type "str") aStr1 := call_str_int
def aList1 (K : PySem.W.Frag) : List V → Hp → VK → Prop := fun xs H Q => ∃ p ys, xs = [.ref p] ∧ (SqL K H p ys ∨ SqT K H p ys) ∧ ∀ l, H l = none → Q (.ref l) (upd H l (.lst ys))
theorem call_list1A : CallR X (.type "list") (aList1 X.K) := call_list_of
def aTuple1 (K : PySem.W.Frag) : List V → Hp → VK → Prop := fun xs H Q => ∃ p ys, xs = [.ref p] ∧ ((SqL K H p ys ∧ ∀ l, H l = none → Q (.ref l) (upd H l (.tup ys))) ∨ (SqT K H p ys ∧ Q (.ref p) H))
theorem call_tuple1A : CallR X (.type "tuple") (aTuple1 X.K) := call_tuple_of
def aTru (K : PySem.W.Frag) (ta : TE) : TT := fun σ H Q => ta σ H fun x H' => ∃ k, TruV K x H' k ∧ Q k H'
theorem pt_tru {a : Expr} {ta : TE} (ha : PE X a ta) (he : ∀ whole, isTrue a X.env whole = (do let v ← whole; standAt a.pos; holding [v] (truthy v))) : PT X a (aTru X.K ta) := pt_truth ha he
def aIsN : R2 := fun x y H Q => y = .non ∧ Q (.bl (decide (x = .non))) H
theorem op_isNA : OpR X (compareOp .Is) aIsN := op_isN
def aNotN : R2 := fun x y H Q => y = .non ∧ Q (.bl (!decide (x = .non))) H
theorem op_notNA : OpR X (compareOp .IsNot) aNotN := op_notN
end
/-! ### one step of a reading -/
section
variable {K : PySem.W.Frag} {σ : L2.St} {H : Hp} {N B C : L2.St → Hp → Prop} {R : VK} {t u : TS} {c d : TT} {ta tb te tc : TE} {tr : TA} {Q : VK} {g : TG} {i j : Nat} {v x y : V} {r r' : R2}
theorem L_seq (h : t ⟨u ⟨N, R, B, C⟩, R, B, C⟩ σ H) : tSeq t u ⟨N, R, B, C⟩ σ H := h
theorem L_next (h : N σ H) : tNext ⟨N, R, B, C⟩ σ H := h
theorem L_brk (h : B σ H) : tBreak ⟨N, R, B, C⟩ σ H := h
theorem L_cont (h : C σ H) : tCont ⟨N, R, B, C⟩ σ H := h
theorem L_ret (h : te σ H R) : tRet te ⟨N, R, B, C⟩ σ H := h
theorem L_retN (h : R .non H) : tRetN ⟨N, R, B, C⟩ σ H := h
theorem L_drop (h : te σ H fun _ H1 => N σ H1) : tDrop te ⟨N, R, B, C⟩ σ H := h
theorem L_asg (h : te σ H fun x H1 => g x σ H1 N) : tAsg te g ⟨N, R, B, C⟩ σ H := h
theorem L_gname {Q : L2.St → Hp → Prop} (h : Q (σ.set i (some v)) H) : gName i v σ H Q := h
theorem L_aug {ti : TIp} (hx : σ[i]? = some (some x)) (h : te σ H fun y H1 => ti x y H1 fun z H2 => N (σ.set i (some z)) H2) : tAug i te ti ⟨N, R, B, C⟩ σ H := ⟨x, hx, h⟩
theorem L_ipI {f : Int → Int → Int} {a b : Int} (h : Q (.int (f a b)) H) : ipI f (.int a) (.int b) H Q := ⟨a, b, rfl, rfl, h⟩
theorem L_ifS (h : c σ H fun b H1 => if b = true then t ⟨N, R, B, C⟩ σ H1 else u ⟨N, R, B, C⟩ σ H1) : tIfS c t u ⟨N, R, B, C⟩ σ H := h
theorem L_par (h : tr σ H fun vs H1 => ∃ v w, vs = [v, w] ∧ N ((σ.set i (some v)).set j (some w)) H1) : tPar i j tr ⟨N, R, B, C⟩ σ H := h
theorem L_par3 {l : Nat} (h : tr σ H fun vs H1 => ∃ u v w, vs = [u, v, w] ∧ N (((σ.set i (some u)).set j (some v)).set l (some w)) H1) : tPar3 i j l tr ⟨N, R, B, C⟩ σ H := h
theorem L_vs2 {Q : V → V → Prop} (h : Q x y) : ∃ v w, [x, y] = [v, w] ∧ Q v w := ⟨x, y, rfl, h⟩
theorem L_vs3 {z : V} {Q : V → V → V → Prop} (h : Q x y z) : ∃ u v w, [x, y, z] = [u, v, w] ∧ Q u v w := ⟨x, y, z, rfl, h⟩
theorem L_var (h : σ[i]? = some (some v)) (q : Q v H) : tVar i σ H Q := ⟨v, h, q⟩
theorem L_c (q : Q v H) : tC v σ H Q := q
theorem L_op (h : ta σ H fun x H1 => tb σ H1 fun y H2 => r x y H2 Q) : tOp r ta tb σ H Q := h
theorem L_un {r : V → Hp → VK → Prop} (h : ta σ H fun x H1 => r x H1 Q) : tUn r ta σ H Q := h
theorem L_rU {g : Int → V} {i : Int} (q : Q (g i) H) : rU g (.int i) H Q := ⟨i, rfl, q⟩
theorem L_I0 {g : Int → Int → V} {i j : Int} (q : Q (g i j) H) : rI0 g (.int i) (.int j) H Q := ⟨i, j, rfl, rfl, q⟩
theorem L_I {C : Int → Int → Prop} {g : Int → Int → V} {i j : Int} (hc : C i j) (q : Q (g i j) H) : rI C g (.int i) (.int j) H Q := ⟨i, j, rfl, rfl, hc, q⟩
theorem L_addI {i j : Int} (q : Q (.int (i + j)) H) : aAdd K (.int i) (.int j) H Q := .inl ⟨i, j, rfl, rfl, q⟩
theorem L_addS {a b : Str} (hl : a.length + b.length ≤ sizeLine) (q : Q (.str (a ++ b)) H) : aAdd K (.str a) (.str b) H Q := .inr (.inl ⟨a, b, rfl, rfl, hl, q⟩)
theorem L_addL {a b : Addr} {xs ys : List V} (ha : H a = some (.lst xs)) (hb : H b = some (.lst ys)) (hl : xs.length + ys.length ≤ sizeLine) (q : ∀ p, H p = none → Q (.ref p) (upd H p (.lst (xs ++ ys)))) : aAdd K (.ref a) (.ref b) H Q := .inr (.inr (.inl ⟨a, b, xs, ys, rfl, rfl, ha, hb, hl, q⟩))
theorem L_mulI {i j : Int} (hc : CMulW i j) (q : Q (.int (i * j)) H) : aMul (.int i) (.int j) H Q := .inl ⟨i, j, rfl, rfl, hc, q⟩
theorem L_eqI {i j : Int} (q : Q (.bl (decide (i = j))) H) : aEq K (.int i) (.int j) H Q := .inl ⟨rfl, by rw [show decide (V.int i = V.int j) = decide (i = j) by simp]; exact q⟩
theorem L_eqS {i j : Str} (q : Q (.bl (decide (i = j))) H) : aEq K (.str i) (.str j) H Q := .inl ⟨rfl, by rw [show decide (V.str i = V.str j) = decide (i = j) by simp]; exact q⟩
theorem L_eqB {i j : Bool} (q : Q (.bl (decide (i = j))) H) : aEq K (.bl i) (.bl j) H Q := .inl ⟨rfl, by rw [show decide (V.bl i = V.bl j) = decide (i = j) by simp]; exact q⟩
theorem L_neI {i j : Int} (q : Q (.bl (!decide (i = j))) H) : aNe K (.int i) (.int j) H Q := .inl ⟨rfl, by rw [show decide (V.int i = V.int j) = decide (i = j) by simp]; exact q⟩
theorem L_neS {i j : Str} (q : Q (.bl (!decide (i = j))) H) : aNe K (.str i) (.str j) H Q := .inl ⟨rfl, by rw [show decide (V.str i = V.str j) = decide (i = j) by simp]; exact q⟩
theorem L_eqD {d e : PyData} (hx : Dp K H x d) (hy : Dp K H y e) (sd : SeqAt.shaped d = true) (se : SeqAt.shaped e = true) (q : Q (.bl (PyData.eqv d e)) H) : aEq K x y H Q := .inr ⟨d, e, hx, hy, sd, se, q⟩
theorem L_neD {d e : PyData} (hx : Dp K H x d) (hy : Dp K H y e) (sd : SeqAt.shaped d = true) (se : SeqAt.shaped e = true) (q : Q (.bl (!PyData.eqv d e)) H) : aNe K x y H Q := .inr ⟨d, e, hx, hy, sd, se, q⟩
theorem L_leI {i j : Int} (q : Q (.bl (decide (i ≤ j))) H) : aLe (.int i) (.int j) H Q := .inl ⟨i, j, rfl, rfl, q⟩
theorem L_leS {i j : Str} (q : Q (.bl (!decide (j.cps.toList < i.cps.toList))) H) : aLe (.str i) (.str j) H Q := .inr ⟨i, j, rfl, rfl, q⟩
theorem L_ltI {i j : Int} (q : Q (.bl (decide (i < j))) H) : aLt (.int i) (.int j) H Q := .inl ⟨i, j, rfl, rfl, q⟩
theorem L_isN (q : Q (.bl (decide (x = .non))) H) : aIsN x .non H Q := ⟨rfl, q⟩
theorem L_notN (q : Q (.bl (!decide (x = .non))) H) : aNotN x .non H Q := ⟨rfl, q⟩
theorem L_inC {a : Nat} {z : Str} (q : Q (.bl (decide (a ∈ z.cps.toList))) H) : aIn K (.str ⟨#[a]⟩) (.str z) H Q := .inl ⟨a, z, rfl, rfl, q⟩
theorem L_notInC {a : Nat} {z : Str} (q : Q (.bl (!decide (a ∈ z.cps.toList))) H) : aNotIn K (.str ⟨#[a]⟩) (.str z) H Q := .inl ⟨a, z, rfl, rfl, q⟩
theorem L_fld {f : Str} (h : ta σ H fun x H1 => ∃ a C dx fs v, x = .ref a ∧ H1 a = some (.ins C dx fs) ∧ Cls K C ∧ NoAttr K C f ∧ fs.lookup f = some v ∧ Q v H1) : tFld K ta f σ H Q := h
theorem L_fldv {a C dx : Addr} {fs : List (Str × V)} {f : Str} {Q : V → Prop} (h : H a = some (.ins C dx fs)) (cl : Cls K C) (n : NoAttr K C f) (l : fs.lookup f = some v) (q : Q v) :
    ∃ a' C dx fs v, V.ref a = V.ref a' ∧ H a' = some (.ins C dx fs) ∧ Cls K C ∧ NoAttr K C f ∧ fs.lookup f = some v ∧ Q v := ⟨a, C, dx, fs, v, rfl, h, cl, n, l, q⟩
theorem L_tTest {Q : Bool → Hp → Prop} (h : te σ H fun x H' => ∃ k, x = .bl k ∧ Q k H') : tTest te σ H Q := h
theorem L_tB {Q : Bool → Hp → Prop} (h : te σ H fun x H' => ∃ k, x = .bl k ∧ Q k H') : tB te σ H Q := h
theorem L_k {b : Bool} {Q : Bool → Prop} (q : Q b) : ∃ k, V.bl b = V.bl k ∧ Q k := ⟨b, rfl, q⟩
theorem L_tru {Q : Bool → Hp → Prop} (h : te σ H fun x H' => ∃ k, TruV K x H' k ∧ Q k H') : aTru K te σ H Q := h
theorem L_truB {b : Bool} {Q : Bool → Prop} (q : Q b) : ∃ k, TruV K (.bl b) H k ∧ Q k := ⟨b, rfl, q⟩
theorem L_truI {i : Int} {Q : Bool → Prop} (q : Q (i != 0)) : ∃ k, TruV K (.int i) H k ∧ Q k := ⟨_, rfl, q⟩
theorem L_and {Q : Bool → Hp → Prop} (h : c σ H fun b H1 => if b = true then d σ H1 Q else Q false H1) : tAnd c d σ H Q := h
theorem L_or {Q : Bool → Hp → Prop} (h : c σ H fun b H1 => if b = true then Q true H1 else d σ H1 Q) : tOr c d σ H Q := h
theorem L_not {Q : Bool → Hp → Prop} (h : c σ H fun b H1 => Q (!b) H1) : tNot c σ H Q := h
theorem L_andV (h : ta σ H fun x H1 => ∃ c, x = .bl c ∧ if c = true then tb σ H1 Q else Q (.bl false) H1) : tAndV ta tb σ H Q := h
theorem L_orV (h : ta σ H fun x H1 => ∃ c, x = .bl c ∧ if c = true then Q (.bl true) H1 else tb σ H1 Q) : tOrV ta tb σ H Q := h
theorem L_notV (h : ta σ H fun x H1 => ∃ c, x = .bl c ∧ Q (.bl (!c)) H1) : tNotV ta σ H Q := h
theorem L_ifE (h : c σ H fun b H1 => if b = true then ta σ H1 Q else tb σ H1 Q) : tIf c ta tb σ H Q := h
theorem L_chain (h : ta σ H fun x H1 => tb σ H1 fun y H2 => r x y H2 fun z H3 => ∃ k, z = .bl k ∧ (if k = true then tc σ H3 fun w' H4 => r' y w' H4 Q else Q (.bl false) H3)) : tChain r r' ta tb tc σ H Q := h
theorem L_T {A B : Prop} (a : A) : if true = true then A else B := by rw [if_pos rfl]; exact a
theorem L_F {A B : Prop} (b : B) : if false = true then A else B := by rw [if_neg Bool.false_ne_true]; exact b
theorem L_dT {p : Prop} [Decidable p] {A B : Prop} (h : p) (a : A) : if decide p = true then A else B := by rw [decide_eq_true h]; exact L_T a
theorem L_dF {p : Prop} [Decidable p] {A B : Prop} (h : ¬ p) (b : B) : if decide p = true then A else B := by rw [decide_eq_false h]; exact L_F b
theorem L_d {p : Prop} [Decidable p] {A B : Prop} (a : p → A) (b : ¬ p → B) : if decide p = true then A else B := by
  by_cases h : p
  · exact L_dT h (a h)
  · exact L_dF h (b h)
theorem L_nd {p : Prop} [Decidable p] {A B : Prop} (a : ¬ p → A) (b : p → B) : if (!decide p) = true then A else B := by
  by_cases h : p
  · rw [decide_eq_true h]; exact L_F (b h)
  · rw [decide_eq_false h]; exact L_T (a h)
theorem L_ndT {p : Prop} [Decidable p] {A B : Prop} (h : ¬ p) (a : A) : if (!decide p) = true then A else B := by rw [decide_eq_false h]; exact L_T a
theorem L_ndF {p : Prop} [Decidable p] {A B : Prop} (h : p) (b : B) : if (!decide p) = true then A else B := by rw [decide_eq_true h]; exact L_F b
theorem L_b {k : Bool} {A B : Prop} (a : k = true → A) (b : k = false → B) : if k = true then A else B := by
  cases k with
  | true => exact L_T (a rfl)
  | false => exact L_F (b rfl)
theorem L_nT {A B : Prop} (b : B) : if (!true) = true then A else B := L_F b
theorem L_nF {A B : Prop} (a : A) : if (!false) = true then A else B := L_T a
theorem L_nil {Q : List V → Hp → Prop} (q : Q [] H) : tNil σ H Q := q
theorem L_cons {Q : List V → Hp → Prop} (h : ta σ H fun x H1 => tr σ H1 fun xs H2 => Q (x :: xs) H2) : tCons ta tr σ H Q := h
theorem L_tup (h : tr σ H fun xs H1 => xs.length ≤ sizeLine ∧ ∀ p, H1 p = none → Q (.ref p) (upd H1 p (.tup xs))) : tTup tr σ H Q := h
theorem L_lst (h : tr σ H fun xs H1 => xs.length ≤ sizeLine ∧ ∀ p, H1 p = none → Q (.ref p) (upd H1 p (.lst xs))) : tLst tr σ H Q := h
theorem L_new {n : Nat} {R : Prop} (hl : n ≤ sizeLine) (q : R) : n ≤ sizeLine ∧ R := ⟨hl, q⟩
theorem L_call {sp : Sp} {E : XK} (h : tr σ H fun vs H1 => sp vs H1 Q E) : tCall sp [] E tr σ H Q := by
  unfold tCall
  simp only [List.append_nil]
  exact h
theorem L_cb {r : List V → Hp → VK → Prop} (h : tr σ H fun vs H1 => r vs H1 Q) : tCB r tr σ H Q := h
theorem L_lenL {a : Addr} {xs : List V} (h : SqL K H a xs) (q : Q (.int xs.length) H) : aLen K [.ref a] H Q := .inl ⟨a, xs, rfl, .inl h, q⟩
theorem L_lenT {a : Addr} {xs : List V} (h : SqT K H a xs) (q : Q (.int xs.length) H) : aLen K [.ref a] H Q := .inl ⟨a, xs, rfl, .inr h, q⟩
theorem L_lenS {z : Str} (h : z.length ≤ sizeLine) (q : Q (.int z.length) H) : aLen K [.str z] H Q := .inr (.inl ⟨z, rfl, h, q⟩)
theorem L_abs {i : Int} (q : Q (.int (if i < 0 then -i else i)) H) : aAbs [.int i] H Q := ⟨i, rfl, q⟩
theorem L_max2 {i j : Int} (q : Q (.int (max i j)) H) : aMax2 [.int i, .int j] H Q := ⟨i, j, rfl, by rw [show (if j > i then j else i) = max i j by omega]; exact q⟩
theorem L_min2 {i j : Int} (q : Q (.int (min i j)) H) : aMin2 [.int i, .int j] H Q := ⟨i, j, rfl, by rw [show (if j < i then j else i) = min i j by omega]; exact q⟩
theorem L_int1 {i : Int} (q : Q (.int i) H) : aInt1 [.int i] H Q := .inl ⟨i, rfl, q⟩
theorem L_int1B {k : Bool} (q : Q (.int (if k then 1 else 0)) H) : aInt1 [.bl k] H Q := .inr ⟨k, rfl, q⟩
theorem L_isi {a n : String} {b : Bool} (hx : TyX K H x (.type a)) (hk : kitB a n = some b) (q : Q (.bl b) H) : rIsi K [x, .ty n] H Q := ⟨x, .ty n, .type a, .type n, b, rfl, .ty n, hx, kit_ty hk, q⟩
theorem L_ixL {p : Addr} {xs : List V} {i : Int} (h : SqL K H p xs) (ha : atI xs i = some v) (q : Q v H) : rIx K (.ref p) (.int i) H Q := .inl ⟨p, xs, i, v, rfl, rfl, h, ha, q⟩
theorem L_ixT {p : Addr} {xs : List V} {i : Int} (h : SqT K H p xs) (ha : atI xs i = some v) (q : Q v H) : rIx K (.ref p) (.int i) H Q := .inr (.inl ⟨p, xs, i, v, rfl, rfl, h, ha, q⟩)
theorem L_ixS {z : Str} {i : Int} {a : Nat} (h : z.length ≤ sizeLine) (ha : atI z.cps.toList i = some a) (q : Q (.str ⟨#[a]⟩) H) : rIx K (.str z) (.int i) H Q := .inr (.inr ⟨z, i, a, rfl, rfl, h, ha, q⟩)
theorem L_bm {T : String} {r : V → List V → Hp → VK → Prop} (h : te σ H fun x H1 => tyV K T x H1 ∧ tr σ H1 fun xs H2 => r x xs H2 Q) : tBM K T r te tr σ H Q := h
theorem L_tyL {a : Addr} {xs : List V} {R : Prop} (h : SqL K H a xs) (q : R) : tyV K "list" (.ref a) H ∧ R := ⟨.inl ⟨rfl, xs, h⟩, q⟩
theorem L_app {a : Addr} {xs : List V} (h : H a = some (.lst xs)) (hl : xs.length < sizeLine) (q : Q .non (upd H a (.lst (xs ++ [v])))) : rAppend (.ref a) [v] H Q := ⟨a, xs, v, rfl, rfl, h, hl, q⟩
theorem L_sum {a : Addr} {ns : List Int} (h : SqL K H a (ns.map V.int)) (q : Q (.int ns.sum) H) : rSum K [.ref a] H Q := ⟨a, ns, rfl, h, q⟩
theorem L_while (W : Nat → L2.St → Hp → Prop) (h0 : ∃ m, W m σ H) (hs : ∀ m σ H, W m σ H → c σ H fun b H1 => if b = true then ∃ M : L2.St → Hp → Prop, (∀ σ' H', M σ' H' → ∃ m', m' < m ∧ W m' σ' H') ∧ t ⟨M, R, N, M⟩ σ H1 else N σ H1) : tWhile c t ⟨N, R, B, C⟩ σ H := ⟨W, h0, hs⟩
theorem L_N {W : Nat → L2.St → Hp → Prop} {m : Nat} (h : t ⟨fun σ' H' => ∃ m', m' < m ∧ W m' σ' H', R, N, fun σ' H' => ∃ m', m' < m ∧ W m' σ' H'⟩ σ H) :
    ∃ M : L2.St → Hp → Prop, (∀ σ' H', M σ' H' → ∃ m', m' < m ∧ W m' σ' H') ∧ t ⟨M, R, N, M⟩ σ H := ⟨_, fun _ _ h => h, h⟩
theorem L_cut {Mid : L2.St → Hp → Prop} (h : t ⟨Mid, R, B, C⟩ σ H) (k : ∀ σ' H', Mid σ' H' → u ⟨N, R, B, C⟩ σ' H') : Evl.tCut t u ⟨N, R, B, C⟩ σ H := ⟨Mid, h, k⟩
theorem L_for {wi : TI} (h : wi σ H fun J H1 => ∃ W : Nat → Nat → L2.St → Hp → Prop, (∃ m, W 0 m σ H1) ∧ ∀ i m σ H, W i m σ H →
      (J.stop i H ∧ N σ H) ∨ (J.go i H ∧ ∃ M : L2.St → Hp → Prop, (∀ σ' H', M σ' H' → ∃ m', m' < m ∧ W (i + 1) m' σ' H') ∧ ∀ x H', J.yld i H x H' → g x σ H' fun σ2 H2 => t ⟨M, R, N, M⟩ σ2 H2)) : tFor wi g t ⟨N, R, B, C⟩ σ H := h
theorem L_iRng1 {R : It → Hp → Prop} (h : tr σ H fun vs H1 => ∃ j : Int, vs = [.int j] ∧ -(2 ^ 62) ≤ j ∧ j < 2 ^ 62 ∧ R (Itr 0 j.toNat) H1) : iRng1 tr σ H R := h
theorem L_iRng2 {R : It → Hp → Prop} (h : tr σ H fun vs H1 => ∃ i j : Int, vs = [.int i, .int j] ∧ (-(2 ^ 62) ≤ i ∧ i < 2 ^ 62 ∧ -(2 ^ 62) ≤ j ∧ j < 2 ^ 62) ∧ R (Itr i (j - i).toNat) H1) : iRng2 tr σ H R := h
theorem L_iList {R : It → Hp → Prop} (h : te σ H fun x H1 => ∃ a, x = .ref a ∧ (∃ xs, SqL K H1 a xs) ∧ R (Itl K a) H1) : iList K te σ H R := h
theorem L_iTup {R : It → Hp → Prop} (h : te σ H fun x H1 => ∃ a, x = .ref a ∧ (∃ xs, SqT K H1 a xs) ∧ R (Itt K a) H1) : iTup K te σ H R := h
theorem L_r1 {n : Int} {R : Int → Prop} (h1 : -(2 ^ 62) ≤ n) (h2 : n < 2 ^ 62) (q : R n) : ∃ j : Int, [V.int n] = [V.int j] ∧ -(2 ^ 62) ≤ j ∧ j < 2 ^ 62 ∧ R j := ⟨n, rfl, h1, h2, q⟩
theorem L_r2 {a n : Int} {R : Int → Int → Prop} (h : -(2 ^ 62) ≤ a ∧ a < 2 ^ 62 ∧ -(2 ^ 62) ≤ n ∧ n < 2 ^ 62) (q : R a n) : ∃ i j : Int, [V.int a, V.int n] = [V.int i, V.int j] ∧ (-(2 ^ 62) ≤ i ∧ i < 2 ^ 62 ∧ -(2 ^ 62) ≤ j ∧ j < 2 ^ 62) ∧ R i j := ⟨a, n, rfl, h, q⟩
theorem L_rl {a : Addr} {xs : List V} {R : Addr → Prop} (h : SqL K H a xs) (q : R a) : ∃ b, V.ref a = V.ref b ∧ (∃ xs, SqL K H b xs) ∧ R b := ⟨a, rfl, ⟨xs, h⟩, q⟩
theorem L_rt {a : Addr} {xs : List V} {R : Addr → Prop} (h : SqT K H a xs) (q : R a) : ∃ b, V.ref a = V.ref b ∧ (∃ xs, SqT K H b xs) ∧ R b := ⟨a, rfl, ⟨xs, h⟩, q⟩
end
theorem sz_dec {n : Nat} (h : n ≤ 1000000) : n ≤ sizeLine := Nat.le_trans h (by decide)
theorem sz_lt {n : Nat} (h : n < 1000000) : n < sizeLine := Nat.lt_of_lt_of_le h (by decide)
/-! ### sizes of ints -/
/-- less than n bits -/
def Bd (n : Nat) (i : Int) : Prop := i.natAbs < 2 ^ n
theorem Bd.mono {n m : Nat} {i : Int} (h : Bd n i) (hm : n ≤ m) : Bd m i := Nat.lt_of_lt_of_le h (Nat.pow_le_pow_right (by decide) hm)
theorem Bd.mul {n m : Nat} {i j : Int} (h : Bd n i) (k : Bd m j) : Bd (n + m) (i * j) := wide_lt h k
theorem Bd.add {n m : Nat} {i j : Int} (h : Bd n i) (k : Bd m j) : Bd (max n m + 1) (i + j) := by
  have a := h.mono (Nat.le_max_left n m)
  have b := k.mono (Nat.le_max_right n m)
  unfold Bd at *
  rw [Nat.pow_succ]
  have := Int.natAbs_add_le i j
  omega
theorem Bd.neg {n : Nat} {i : Int} (h : Bd n i) : Bd n (-i) := by unfold Bd at *; rw [Int.natAbs_neg]; exact h
theorem Bd.sub {n m : Nat} {i j : Int} (h : Bd n i) (k : Bd m j) : Bd (max n m + 1) (i - j) := by
  rw [Int.sub_eq_add_neg]; exact h.add k.neg
theorem Bd.cmul {n m : Nat} {i j : Int} (h : Bd n i) (k : Bd m j) (hz : n + m + 2 ≤ 1000000 := by decide) : CMulW i j :=
  wide_mul (h.mono (Nat.le_succ n)) (k.mono (Nat.le_succ m)) (Nat.succ_pos _) (Nat.succ_pos _) (by omega)
theorem Bd.cdiv {n : Nat} {i j : Int} (k : Bd n j) (h : 0 < j) (hz : n + 1 ≤ 9000 := by decide) : CDivW i j := wide_div h (k.mono (Nat.le_succ n)) (Nat.succ_pos _) hz
theorem bd_lit {i : Int} (h : -4294967296 < i ∧ i < 4294967296) : Bd 32 i := by
  unfold Bd
  have : (2 : Nat) ^ 32 = 4294967296 := by decide
  omega
theorem bd_64 {i : Int} (h : -18446744073709551616 < i ∧ i < 18446744073709551616) : Bd 64 i := by
  unfold Bd
  have : (2 : Nat) ^ 64 = 18446744073709551616 := by decide
  omega
/-- an item of the script, or what stands in its place -/
def cellAt (ns : List Int) (k d : Int) : Int := if k < (ns.length : Int) then ns.getD k.toNat 0 else d
theorem cellAt_in {ns : List Int} {k d : Int} (h0 : 0 ≤ k) (h : k < (ns.length : Int)) : atI (ns.map V.int) k = some (V.int (cellAt ns k d)) := by
  obtain ⟨j, rfl⟩ : ∃ j : Nat, k = (j : Int) := ⟨k.toNat, by omega⟩
  have hl : j < ns.length := by omega
  unfold cellAt
  rw [if_pos h]
  refine atI_nat ?_
  rw [List.getElem?_map, List.getElem?_eq_getElem hl]
  simp [List.getD, List.getElem?_eq_getElem hl]
theorem cellAt_out {ns : List Int} {k d : Int} (h : ¬ k < (ns.length : Int)) : cellAt ns k d = d := if_neg h
theorem cellAt_mem {ns : List Int} {k d : Int} (h0 : 0 ≤ k) : cellAt ns k d ∈ ns ∨ cellAt ns k d = d := by
  unfold cellAt
  split
  · rename_i h
    have hl : k.toNat < ns.length := by omega
    left
    simp [List.getD, List.getElem?_eq_getElem hl]
  · exact .inr rfl
theorem _root_.L2.Same.seqT {K : PySem.W.Frag} {H H' : Hp} {a : Addr} {xs : List V} (e : Same H H') (h : SqT K H a xs) : SqT K H' a xs := by
  rcases h with (h | ⟨o, h⟩) | h
  · exact .inl (.inl (e _ _ h))
  · exact .inl (.inr ⟨o, e _ _ h⟩)
  · exact .inr h
/-! ### what is walked: more -/
section
variable {K : PySem.W.Frag} {σ : L2.St} {H : Hp} {te : TE} {tr : TA} {Q : VK} {g : TG} {tt : TT}
theorem L_yes {Q : Bool → Hp → Prop} (q : Q true H) : tYes σ H Q := q
theorem L_iZip {R : It → Hp → Prop} (h : tr σ H fun vs H1 => ∃ a b xs ys, vs = [.ref a, .ref b] ∧ SqL K H1 a xs ∧ SqL K H1 b ys ∧ R (Itz K a b) H1) : iZip K tr σ H R := h
theorem L_iEnum {R : It → Hp → Prop} (h : tr σ H fun vs H1 => ∃ a xs, vs = [.ref a] ∧ SqL K H1 a xs ∧ R (Ite K a) H1) : iEnum K tr σ H R := h
theorem L_iStr {R : It → Hp → Prop} (h : te σ H fun v H1 => ∃ x, v = .str x ∧ R (Its x) H1) : iStr te σ H R := h
theorem L_iRng3 {R : It → Hp → Prop} (h : tr σ H fun vs H1 => ∃ (i j c : Int) (n : Nat), vs = [.int i, .int j, .int c] ∧ RgC i j c n ∧ R (Itc i c n) H1) : iRng3 tr σ H R := h
theorem L_rz {a b : Addr} {xs ys : List V} {R : Addr → Addr → Prop} (h1 : SqL K H a xs) (h2 : SqL K H b ys) (q : R a b) : ∃ a' b' xs ys, [V.ref a, V.ref b] = [.ref a', .ref b'] ∧ SqL K H a' xs ∧ SqL K H b' ys ∧ R a' b' := ⟨a, b, xs, ys, rfl, h1, h2, q⟩
theorem L_re {a : Addr} {xs : List V} {R : Addr → Prop} (h1 : SqL K H a xs) (q : R a) : ∃ a' xs, [V.ref a] = [.ref a'] ∧ SqL K H a' xs ∧ R a' := ⟨a, xs, rfl, h1, q⟩
theorem L_rs {z : Str} {R : Str → Prop} (q : R z) : ∃ x, V.str z = .str x ∧ R x := ⟨z, rfl, q⟩
theorem L_r3 {i j c : Int} {n : Nat} {R : Int → Int → Nat → Prop} (h : RgC i j c n) (q : R i c n) : ∃ (i' j' c' : Int) (n : Nat), [V.int i, V.int j, V.int c] = [.int i', .int j', .int c'] ∧ RgC i' j' c' n ∧ R i' c' n := ⟨i, j, c, n, rfl, h, q⟩
theorem L_lc {wi : TI} {vs : List Nat} (h : wi σ H fun J H1 => ∀ D, H1 D = none → ∃ W : Nat → Nat → Hp → Prop, (∃ m, W 0 m (upd H1 D (.lst []))) ∧ ∀ i m H, W i m H →
  (J.stop i H ∧ Q (.ref D) H) ∨ (J.go i H ∧ ∃ Nx : Hp → Prop, (∀ H', Nx H' → ∃ m', m' < m ∧ W (i + 1) m' H') ∧ ∀ x H', J.yld i H x H' → g x (wipe σ vs) H' fun σ2 H2 => wipe σ2 vs = wipe σ vs ∧ tt σ2 H2 fun b H3 =>
    if b = true then te σ2 H3 fun y H4 => ∃ acc, H4 D = some (.lst acc) ∧ acc.length < sizeLine ∧ Nx (upd H4 D (.lst (acc ++ [y]))) else Nx H3)) : tLc wi g tt te vs σ H Q := h
theorem fm_succ (f : Nat → Option V) (i : Nat) : (List.range (i + 1)).filterMap f = (List.range i).filterMap f ++ (match f i with | some y => [y] | none => []) := by
  rw [List.range_succ, List.filterMap_append]
  cases h : f i <;> simp [h]
theorem fm_len (f : Nat → Option V) (i : Nat) : ((List.range i).filterMap f).length ≤ i := by
  have := List.length_filterMap_le f (List.range i)
  simpa using this
/-- a comprehension whose things are told one by one: f i is what turn i gives, none where its test is false -/
theorem lc_fm {J : It} {n : Nat} {G : Hp → Prop} {Y : Nat → Hp → V → Hp → Prop} (w : L2.Walk J n G Y) {vs : List Nat} {Qd : Addr → Hp → Prop} (f : Nat → Option V) (hn : n ≤ 1000000) (hG : ∀ H', Same H H' → G H')
    (hs : ∀ i x H2 H' (R : V → Hp → Prop) (R' : Hp → Prop), i < n → Same H H2 → Y i H2 x H' → (∀ y H4, f i = some y → Same H2 H4 → R y H4) → (∀ H3, f i = none → Same H2 H3 → R' H3) →
      g x (wipe σ vs) H' fun σ2 H2 => wipe σ2 vs = wipe σ vs ∧ tt σ2 H2 fun b H3 => if b = true then te σ2 H3 R else R' H3)
    (q : ∀ p H', H p = none → Same H H' → H' p = some (.lst ((List.range n).filterMap f)) → Qd p H') :
    ∀ D, H D = none → ∃ W : Nat → Nat → Hp → Prop, (∃ m, W 0 m (upd H D (.lst []))) ∧ ∀ i m H, W i m H →
      (J.stop i H ∧ Qd D H) ∨ (J.go i H ∧ ∃ Nx : Hp → Prop, (∀ H', Nx H' → ∃ m', m' < m ∧ W (i + 1) m' H') ∧ ∀ x H', J.yld i H x H' → g x (wipe σ vs) H' fun σ2 H2 => wipe σ2 vs = wipe σ vs ∧ tt σ2 H2 fun b H3 =>
        if b = true then te σ2 H3 fun y H4 => ∃ acc, H4 D = some (.lst acc) ∧ acc.length < sizeLine ∧ Nx (upd H4 D (.lst (acc ++ [y]))) else Nx H3) := by
  intro D hD
  refine lc_it w (fun i H2 => Same H H2 ∧ H2 D = some (.lst ((List.range i).filterMap f))) ⟨same_new hD, upd_same⟩ (fun i H2 _ p => hG H2 p.1) ?_ (fun H2 p => q D H2 hD p.1 p.2)
  intro i x H2 H' hi ⟨p1, p2⟩ y
  refine hs i x H2 H' _ _ hi p1 y (fun y H4 e s => ?_) (fun H3 e s => ?_)
  · refine ⟨_, s _ _ p2, sz_lt (by have := fm_len f i; omega), ?_, ?_⟩
    · intro b o hb
      rw [upd_ne (ne_of_none hb hD)]
      exact s _ _ (p1 _ _ hb)
    · rw [fm_succ, e]; exact upd_same
  · refine ⟨p1.trans s, ?_⟩
    rw [fm_succ, e, List.append_nil]
    exact s _ _ p2
theorem fm_map {α : Type} (f : Nat → α) (h : α → V) (n : Nat) : (List.range n).filterMap (fun i => some (h (f i))) = ((List.range n).map f).map h := by
  rw [List.map_map]
  induction n with
  | zero => rfl
  | succ n ih => rw [fm_succ (fun i => some (h (f i))), ih, List.range_succ, List.map_append]; rfl
theorem rgC_up {i j c : Int} (hc : 0 < c) (hc2 : c < 1000000) (hi : -1000000000 ≤ i ∧ i ≤ 1000000000) (hj : -1000000000 ≤ j ∧ j ≤ 1000000000) : RgC i j c (if i < j then ((j - i - 1) / c + 1).toNat else 0) := by
  have e : Builtin.Range.rangeSize i j c = ((if i < j then ((j - i - 1) / c + 1).toNat else 0 : Nat) : Int) := by
    unfold Builtin.Range.rangeSize
    rw [if_pos (by omega)]
    split
    · have : 0 ≤ (j - i - 1) / c := Int.ediv_nonneg (by omega) (by omega)
      omega
    · rfl
  refine ⟨by omega, by omega, ?_, e⟩
  unfold Builtin.Range.small
  rw [e]
  have hz : ((if i < j then ((j - i - 1) / c + 1).toNat else 0 : Nat) : Int) * c ≤ 4000000000 ∧ ((if i < j then ((j - i - 1) / c + 1).toNat else 0 : Nat) : Int) ≤ 4000000000 ∧ 0 ≤ ((if i < j then ((j - i - 1) / c + 1).toNat else 0 : Nat) : Int) := by
    split
    · have h0 : 0 ≤ (j - i - 1) / c := Int.ediv_nonneg (by omega) (by omega)
      have h1 : (j - i - 1) / c * c ≤ j - i - 1 := Int.ediv_mul_le _ (by omega)
      have h2 : (j - i - 1) / c ≤ j - i - 1 := Int.ediv_le_self _ (by omega)
      have h3 : (((j - i - 1) / c + 1).toNat : Int) = (j - i - 1) / c + 1 := by omega
      rw [h3, Int.add_mul]
      omega
    · simp
  generalize ((if i < j then ((j - i - 1) / c + 1).toNat else 0 : Nat) : Int) = n at *
  simp only [Builtin.Range.rangeFitsLong, Bool.and_eq_true, Bool.or_eq_true, decide_eq_true_eq, beq_iff_eq]
  refine ⟨by omega, .inr ?_⟩
  rw [if_pos (by omega), Bool.and_eq_true, decide_eq_true_eq, decide_eq_true_eq]
  omega
/-- what making an instance asks -/
def MakeP (C : Addr) (sp : Sp) (E : XK) (vs : List V) (H : Hp) (Q : VK) : Prop := ∀ x dx, H x = none → H dx = none → dx ≠ x → sp (.ref x :: vs) (upd (upd H dx (.own x)) x (.ins C dx [])) (fun v H2 => v = .non ∧ Q (.ref x) H2) E
theorem L_make {C : Addr} {sp : Sp} {E : XK} (h : tr σ H fun vs H1 => MakeP C sp E vs H1 Q) : tMake C sp [] E tr σ H Q := by
  unfold tMake
  simp only [List.append_nil]
  exact h
/-- a new instance: all that stood stands -/
def NewI (H : Hp) (C : Addr) (fs : List (Str × V)) (Q : VK) : Prop := ∀ p H' dx, H p = none → Same H H' → H' p = some (.ins C dx fs) → Q (.ref p) H'
theorem L_gTup {n : Nat} {t : TGs} {a : Addr} {xs : List V} {Q : L2.St → Hp → Prop} (h : SqT K H a xs) (hn : xs.length = n) (q : t xs σ H Q) : gTup K n t (.ref a) σ H Q := ⟨a, xs, rfl, h, hn, q⟩
theorem L_gLst {n : Nat} {t : TGs} {a : Addr} {xs : List V} {Q : L2.St → Hp → Prop} (h : SqL K H a xs) (hn : xs.length = n) (q : t xs σ H Q) : gLst K n t (.ref a) σ H Q := ⟨a, xs, rfl, h, hn, q⟩
theorem L_gCons {v : V} {r : List V} {t : TG} {u : TGs} {Q : L2.St → Hp → Prop} (q : t v σ H fun σ' H' => u r σ' H' Q) : gCons t u (v :: r) σ H Q := ⟨v, r, rfl, q⟩
theorem L_gNil {Q : L2.St → Hp → Prop} (q : Q σ H) : gNil [] σ H Q := ⟨rfl, q⟩
theorem L_sub {to ti : TE} {t : TSet} {v : V} {Q : L2.St → Hp → Prop} (h : to σ H fun o H1 => ti σ H1 fun i H2 => t o i v H2 fun H3 => Q σ H3) : gSub to ti t v σ H Q := h
theorem L_setL {p : Addr} {xs : List V} {k : Int} {j : Nat} {v : V} {Q : Hp → Prop} (h : H p = some (.lst xs)) (hj : ixN xs.length k = some j) (q : Q (upd H p (.lst (xs.set j v)))) : rSetL (.ref p) (.int k) v H Q := ⟨p, xs, k, j, rfl, rfl, h, hj, q⟩
theorem ixN_of {n : Nat} {k : Int} (h0 : 0 ≤ k) (h : k < n) : ixN n k = some k.toNat := by
  unfold ixN
  rw [if_pos h0, if_pos h]
theorem L_sFld {f : Str} {ta tv : TE} {N B C' : L2.St → Hp → Prop} {R : VK} (h : tv σ H fun y H1 => ta σ H1 fun x H2 => ∃ a C dx fs, x = .ref a ∧ H2 a = some (.ins C dx fs) ∧ Cls K C ∧ NoAttr K C f ∧ fs.length < 1000 ∧ N σ (upd H2 a (.ins C dx (putF f y fs)))) : sFld K ta tv f ⟨N, R, B, C'⟩ σ H := h
theorem L_sFldv {a C dx : Addr} {fs : List (Str × V)} {f : Str} {Q : Addr → Addr → Addr → List (Str × V) → Prop} (h : H a = some (.ins C dx fs)) (cl : Cls K C) (n : NoAttr K C f) (l : fs.length < 1000) (q : Q a C dx fs) :
    ∃ a' C dx fs, V.ref a = V.ref a' ∧ H a' = some (.ins C dx fs) ∧ Cls K C ∧ NoAttr K C f ∧ fs.length < 1000 ∧ Q a' C dx fs := ⟨a, C, dx, fs, rfl, h, cl, n, l, q⟩
theorem L_repL {a : Addr} {xs : List V} {k : Int} (h : H a = some (.lst xs)) (h1 : -(2 ^ 63) ≤ k) (h2 : k < 2 ^ 63) (h3 : xs.length * k.toNat ≤ sizeLine) (q : ∀ p, H p = none → Q (.ref p) (upd H p (.lst (List.replicate k.toNat xs).flatten))) : aMul (.ref a) (.int k) H Q := .inr ⟨a, k, xs, rfl, rfl, h, h1, h2, h3, q⟩
theorem atI_int {xs : List V} {k : Int} {v : V} (h0 : 0 ≤ k) (h : xs[k.toNat]? = some v) : atI xs k = some v := by
  obtain ⟨j, rfl⟩ : ∃ j : Nat, k = (j : Int) := ⟨k.toNat, by omega⟩
  exact atI_nat h
theorem atI_ints {xs : List Int} {k : Int} (h0 : 0 ≤ k) (h : k < xs.length) : atI (xs.map V.int) k = some (.int (xs.getD k.toNat 0)) := by
  refine atI_int h0 ?_
  have hl : k.toNat < xs.length := by omega
  rw [List.getElem?_map, List.getElem?_eq_getElem hl]
  simp [List.getD, List.getElem?_eq_getElem hl]
theorem L_nw {xs : List V} {R : Prop} (q : R) (hl : xs.length ≤ 1000000 := by simp) : xs.length ≤ sizeLine ∧ R := ⟨sz_dec hl, q⟩
end
theorem fm_succ' {α : Type} (f : Nat → Option α) (i : Nat) : (List.range (i + 1)).filterMap f = (List.range i).filterMap f ++ (match f i with | some y => [y] | none => []) := by
  rw [List.range_succ, List.filterMap_append]
  cases h : f i <;> simp [h]
theorem fm_len' {α : Type} (f : Nat → Option α) (i : Nat) : ((List.range i).filterMap f).length ≤ i := by
  have := List.length_filterMap_le f (List.range i)
  simpa using this
/-! ### data as trees -/
mutual
theorem Dp_same {K : PySem.W.Frag} {H H' : Hp} (e : Same H H') : ∀ (d : PyData) {v : V}, Dp K H v d → Dp K H' v d
  | .none, _, h => by cases h; exact .non
  | .bool b, _, h => by cases h; exact .bl b
  | .int i, _, h => by cases h; exact .int i
  | .str x, _, h => by cases h; exact .str x
  | .list ds, _, h => by cases h with | lst hs ha => exact .lst (e.seq hs) (DpAll_same e ds ha)
  | .tuple ds, _, h => by cases h with | tup hs ha => exact .tup (e.seqT hs) (DpAll_same e ds ha)
  | .dict _, _, h => by cases h
theorem DpAll_same {K : PySem.W.Frag} {H H' : Hp} (e : Same H H') : ∀ (ds : List PyData) {vs : List V}, DpAll K H vs ds → DpAll K H' vs ds
  | [], _, h => by cases h; exact .nil
  | d :: ds, _, h => by cases h with | cons h1 h2 => exact .cons (Dp_same e d h1) (DpAll_same e ds h2)
end
section
variable {K : PySem.W.Frag} {H H' : Hp} {v : V} {vs : List V} {d : PyData} {ds : List PyData}
theorem _root_.L2.Dp.same (h : Dp K H v d) (e : Same H H') : Dp K H' v d := Dp_same e d h
theorem _root_.L2.DpAll.same (h : DpAll K H vs ds) (e : Same H H') : DpAll K H' vs ds := DpAll_same e ds h
theorem _root_.L2.DpAll.len : ∀ {ds : List PyData} {vs : List V}, DpAll K H vs ds → vs.length = ds.length
  | [], _, h => by cases h; rfl
  | d :: ds, _, h => by cases h with | cons h1 h2 => rw [List.length_cons, List.length_cons, h2.len]
theorem _root_.L2.DpAll.at : ∀ {ds : List PyData} {vs : List V} {i : Nat}, DpAll K H vs ds → ds[i]? = some d → ∃ v, vs[i]? = some v ∧ Dp K H v d
  | [], _, i, h, e => by simp at e
  | c :: ds, _, 0, h, e => by
    cases h with
    | cons h1 h2 =>
      rename_i v vs
      have : c = d := by simpa using e
      subst this
      exact ⟨v, by simp, h1⟩
  | c :: ds, _, i + 1, h, e => by
    cases h with
    | cons h1 h2 =>
      obtain ⟨v, q1, q2⟩ := h2.at (i := i) (by simpa using e)
      exact ⟨v, by simpa using q1, q2⟩
theorem _root_.L2.DpAll.of : ∀ {ds : List PyData} {vs : List V} {i : Nat}, DpAll K H vs ds → vs[i]? = some v → ∃ d, ds[i]? = some d ∧ Dp K H v d
  | [], _, i, h, e => by cases h; simp at e
  | c :: ds, _, 0, h, e => by
    cases h with
    | cons h1 h2 =>
      rename_i w vs
      have : w = v := by simpa using e
      subst this
      exact ⟨c, by simp, h1⟩
  | c :: ds, _, i + 1, h, e => by
    cases h with
    | cons h1 h2 =>
      obtain ⟨d, q1, q2⟩ := h2.of (i := i) (by simpa using e)
      exact ⟨d, by simpa using q1, q2⟩
theorem _root_.L2.DpAll.app : ∀ {ds es : List PyData} {vs us : List V}, DpAll K H vs ds → DpAll K H us es → DpAll K H (vs ++ us) (ds ++ es)
  | [], _, _, _, h, g => by cases h; exact g
  | d :: ds, _, _, _, h, g => by cases h with | cons h1 h2 => exact .cons h1 (h2.app g)
theorem _root_.L2.DpAll.snoc (h : DpAll K H vs ds) (g : Dp K H v d) : DpAll K H (vs ++ [v]) (ds ++ [d]) := h.app (.cons g .nil)
theorem dp_ints : ∀ (ns : List Int), DpAll K H (ns.map V.int) (ns.map PyData.int)
  | [] => .nil
  | n :: ns => .cons (.int n) (dp_ints ns)
theorem dp_strs : ∀ (ns : List Str), DpAll K H (ns.map V.str) (ns.map PyData.str)
  | [] => .nil
  | n :: ns => .cons (.str n) (dp_strs ns)
theorem of_ints : ∀ {ns : List Int} {vs : List V}, DpAll K H vs (ns.map PyData.int) → vs = ns.map V.int
  | [], _, h => by cases h; rfl
  | n :: ns, _, h => by
    cases h with
    | cons h1 h2 => cases h1; rw [of_ints h2]; rfl
theorem of_strs : ∀ {ns : List Str} {vs : List V}, DpAll K H vs (ns.map PyData.str) → vs = ns.map V.str
  | [], _, h => by cases h; rfl
  | n :: ns, _, h => by
    cases h with
    | cons h1 h2 => cases h1; rw [of_strs h2]; rfl
theorem of_tup (h : Dp K H v (.tuple ds)) : ∃ a xs, v = .ref a ∧ SqT K H a xs ∧ DpAll K H xs ds := by
  cases h with | tup h1 h2 => exact ⟨_, _, rfl, h1, h2⟩
theorem of_lst (h : Dp K H v (.list ds)) : ∃ a xs, v = .ref a ∧ SqL K H a xs ∧ DpAll K H xs ds := by
  cases h with | lst h1 h2 => exact ⟨_, _, rfl, h1, h2⟩
theorem of_int {i : Int} (h : Dp K H v (.int i)) : v = .int i := by cases h; rfl
theorem of_str {i : Str} (h : Dp K H v (.str i)) : v = .str i := by cases h; rfl
theorem of_bl {i : Bool} (h : Dp K H v (.bool i)) : v = .bl i := by cases h; rfl
theorem of_non (h : Dp K H v .none) : v = .non := by cases h; rfl
theorem of_t2 {d e : PyData} (h : Dp K H v (.tuple [d, e])) : ∃ a x y, v = .ref a ∧ SqT K H a [x, y] ∧ Dp K H x d ∧ Dp K H y e := by
  obtain ⟨a, xs, rfl, h1, h2⟩ := of_tup h
  cases h2 with
  | cons p1 p2 => cases p2 with | cons p3 p4 => cases p4; exact ⟨a, _, _, rfl, h1, p1, p3⟩
theorem of_t3 {d e f : PyData} (h : Dp K H v (.tuple [d, e, f])) : ∃ a x y z, v = .ref a ∧ SqT K H a [x, y, z] ∧ Dp K H x d ∧ Dp K H y e ∧ Dp K H z f := by
  obtain ⟨a, xs, rfl, h1, h2⟩ := of_tup h
  cases h2 with
  | cons p1 p2 => cases p2 with | cons p3 p4 => cases p4 with | cons p5 p6 => cases p6; exact ⟨a, _, _, _, rfl, h1, p1, p3, p5⟩
theorem of_t4 {d e f g : PyData} (h : Dp K H v (.tuple [d, e, f, g])) : ∃ a x y z w, v = .ref a ∧ SqT K H a [x, y, z, w] ∧ Dp K H x d ∧ Dp K H y e ∧ Dp K H z f ∧ Dp K H w g := by
  obtain ⟨a, xs, rfl, h1, h2⟩ := of_tup h
  cases h2 with
  | cons p1 p2 => cases p2 with | cons p3 p4 => cases p4 with | cons p5 p6 => cases p6 with | cons p7 p8 => cases p8; exact ⟨a, _, _, _, _, rfl, h1, p1, p3, p5, p7⟩
end
/-- the part of a heap at which P holds -/
noncomputable def rs (P : Addr → Prop) (H : Hp) : Hp := fun a => @ite _ (P a) (Classical.propDecidable _) (H a) none
theorem rs_at {P : Addr → Prop} {H : Hp} {a : Addr} {o : HO} (p : P a) (h : H a = some o) : rs P H a = some o := by unfold rs; rw [if_pos p]; exact h
theorem rs_of {P : Addr → Prop} {H : Hp} {a : Addr} {o : HO} (h : rs P H a = some o) : P a ∧ H a = some o := by
  unfold rs at h
  split at h
  · rename_i p; exact ⟨p, h⟩
  · cases h
theorem rs_same {P P' : Addr → Prop} {H H' : Hp} (h : ∀ a o, P a → H a = some o → P' a ∧ H' a = some o) : Same (rs P H) (rs P' H') := fun a o e => by
  obtain ⟨p, q⟩ := rs_of e
  obtain ⟨p', q'⟩ := h a o p q
  exact rs_at p' q'
theorem rs_sub {P : Addr → Prop} {H : Hp} : Same (rs P H) H := fun a o e => (rs_of e).2
theorem rs_in {P : Addr → Prop} {H H' : Hp} (h : ∀ a o, P a → H a = some o → H' a = some o) : Same (rs P H) H' := fun a o e => h a o (rs_of e).1 (rs_of e).2
theorem rs_all {P : Addr → Prop} {H H' : Hp} (h : ∀ a o, H a = some o → P a ∧ H' a = some o) : Same H (rs P H') := fun a o e => rs_at (h a o e).1 (h a o e).2
/-- a list that changes: what stood ahead of it stands -/
theorem same_mut {H H' : Hp} {a : Addr} {o : HO} (e : Same H H') (h : H a = none) : Same H (upd H' a o) := fun b o' q => by
  rw [upd_ne (fun z => by rw [z, h] at q; cases q)]; exact e b o' q
section
variable {K : PySem.W.Frag} {σ : L2.St} {H : Hp} {g : TG} {tt : TT} {te : TE} {tb : TS} {D : Ends} {x y : V} {Q : VK}
theorem L_rlD {v : V} {ds : List PyData} {R : Addr → Prop} (h : Dp K H v (.list ds)) (q : ∀ a, v = .ref a → R a) : ∃ b, v = V.ref b ∧ (∃ xs, SqL K H b xs) ∧ R b := by
  obtain ⟨a, xs, rfl, h1, h2⟩ := of_lst h
  exact ⟨a, rfl, ⟨xs, h1⟩, q a rfl⟩
/-- for x in a list of data -/
theorem for_dp {a : Addr} {ds : List PyData} (h : Dp K H (.ref a) (.list ds)) (Pv : Nat → L2.St → Hp → Prop) (h0 : Pv 0 σ H) (hG : ∀ i σ' H', i ≤ ds.length → Pv i σ' H' → Same H H')
    (hs : ∀ i d x σ' H', i < ds.length → ds[i]? = some d → Pv i σ' H' → Dp K H' x d → g x σ' H' fun σ2 H2 => tb { D with nx := Pv (i + 1), ct := Pv (i + 1), bk := D.nx } σ2 H2) (hd : ∀ σ' H', Pv ds.length σ' H' → D.nx σ' H') :
    ∃ W : Nat → Nat → L2.St → Hp → Prop, (∃ m, W 0 m σ H) ∧ ∀ i m σ H, W i m σ H →
      ((Itl K a).stop i H ∧ D.nx σ H) ∨ ((Itl K a).go i H ∧ ∃ N : L2.St → Hp → Prop, (∀ σ' H', N σ' H' → ∃ m', m' < m ∧ W (i + 1) m' σ' H') ∧ ∀ x H', (Itl K a).yld i H x H' → g x σ H' fun σ2 H2 => tb { D with nx := N, ct := N, bk := D.nx } σ2 H2) := by
  obtain ⟨a', xs, ea, h1, h2⟩ := of_lst h
  cases ea
  have hl := h2.len
  refine for_it walk_list Pv h0 (fun i σ' H' hi p => (hG i σ' H' (by omega) p).seq h1) (fun i x σ' H' H'' hi p ⟨e1, e2⟩ => ?_) (fun σ' H' p => hd σ' H' (by rw [← hl]; exact p))
  subst e1
  obtain ⟨d, e3, e4⟩ := h2.of e2
  exact hs i d x σ' _ (by omega) e3 p (e4.same (hG i σ' _ (by omega) p))
/-- a comprehension: what turn i gives is told as data, or none; the new list's things stand apart from it -/
theorem lc_dp {J : It} {n : Nat} {G : Hp → Prop} {Y : Nat → Hp → V → Hp → Prop} (w : L2.Walk J n G Y) {vs : List Nat} {Qd : Addr → Hp → Prop} (f : Nat → Option PyData) (hn : n ≤ 1000000) (hG : ∀ H', Same H H' → G H')
    (hs : ∀ i x p H2 H' (R : V → Hp → Prop) (R' : Hp → Prop), i < n → H p = none → Same H H2 → (∃ o, H2 p = some o) → Y i H2 x H' → (∀ y d H4, f i = some d → Same H2 H4 → Dp K (rs (· ≠ p) H4) y d → R y H4) → (∀ H3, f i = none → Same H2 H3 → R' H3) →
      g x (wipe σ vs) H' fun σ2 H2 => wipe σ2 vs = wipe σ vs ∧ tt σ2 H2 fun b H3 => if b = true then te σ2 H3 R else R' H3)
    (q : ∀ p H' vs, H p = none → Same H H' → H' p = some (.lst vs) → DpAll K (rs (· ≠ p) H') vs ((List.range n).filterMap f) → Qd p H') :
    ∀ D, H D = none → ∃ W : Nat → Nat → Hp → Prop, (∃ m, W 0 m (upd H D (.lst []))) ∧ ∀ i m H, W i m H →
      (J.stop i H ∧ Qd D H) ∨ (J.go i H ∧ ∃ Nx : Hp → Prop, (∀ H', Nx H' → ∃ m', m' < m ∧ W (i + 1) m' H') ∧ ∀ x H', J.yld i H x H' → g x (wipe σ vs) H' fun σ2 H2 => wipe σ2 vs = wipe σ vs ∧ tt σ2 H2 fun b H3 =>
        if b = true then te σ2 H3 fun y H4 => ∃ acc, H4 D = some (.lst acc) ∧ acc.length < sizeLine ∧ Nx (upd H4 D (.lst (acc ++ [y]))) else Nx H3) := by
  intro D hD
  refine lc_it w (fun i H2 => Same H H2 ∧ ∃ us, H2 D = some (.lst us) ∧ DpAll K (rs (· ≠ D) H2) us ((List.range i).filterMap f)) ⟨same_new hD, [], upd_same, .nil⟩ (fun i H2 _ p => hG H2 p.1) ?_ (fun H2 ⟨p1, us, p2, p3⟩ => q D H2 us hD p1 p2 p3)
  rintro i x H2 H' hi ⟨p1, us, p2, p3⟩ y
  refine hs i x D H2 H' _ _ hi hD p1 ⟨_, p2⟩ y (fun y d H4 e s dy => ?_) (fun H3 e s => ?_)
  · have e4 : Same (rs (· ≠ D) H2) (rs (· ≠ D) H4) := rs_same fun a o h1 h2 => ⟨h1, s _ _ h2⟩
    have e5 : Same (rs (· ≠ D) H4) (rs (· ≠ D) (upd H4 D (.lst (us ++ [y])))) := rs_same fun a o h1 h2 => ⟨h1, by rw [upd_ne h1]; exact h2⟩
    refine ⟨us, s _ _ p2, sz_lt (by have := p3.len; have := fm_len' f i; omega), same_mut (p1.trans s) hD, _, upd_same, ?_⟩
    rw [fm_succ', e]
    exact ((p3.same e4).same e5).snoc (dy.same e5)
  · refine ⟨p1.trans s, us, s _ _ p2, ?_⟩
    rw [fm_succ', e, List.append_nil]
    exact p3.same (rs_same fun a o h1 h2 => ⟨h1, s _ _ h2⟩)
end
/-! ### defs that may raise -/
structure MetX (P : Program) (w : World) (K : PySem.W.Frag) (mg : Str → Option Value) (base : Heap) (k : Nat) (C : Addr) (m : Str) (sp : Sp) : Prop where
  ex : ∃ (f : Addr) (fd : FuncData) (ps : List Str), Cls K C ∧ Meth K C m f ∧ FnOk P w K mg base (L2.CX P w) k f fd ps sp ∧ Binds K fd ps []
structure MakX (P : Program) (w : World) (K : PySem.W.Frag) (mg : Str → Option Value) (base : Heap) (k : Nat) (x : Str) (C : Addr) (sp : Sp) : Prop where
  ex : ∃ (f : Addr) (fd : FuncData) (ps : List Str), Mk K C f ∧ FnOk P w K mg base (L2.CX P w) k f fd ps sp ∧ mg x = some (.ref C) ∧ Binds K fd ps []
section
variable {P : Program} {w : World} {K : PySem.W.Frag} {mg : Str → Option Value} {base : Heap}
theorem MethAt.metX {C : Addr} {m qual : Str} {st : Stmt} {N ps : List Str} {k : Nat} {sp : Sp} (c : Cls K C) (d : MethAt K C m qual st ps) (S : FnScope N ps (defScope st)) (len : ∀ vs H Q E, sp vs H Q E → vs.length = ps.length)
    (hbody : ∀ (f : Addr) (cdv : Value) (A : Around) (outer : List Env) (s : Shared) (H : Hp) (vs : List V) (Q : VK) (E : XK), Room k (A.deeper (envOfC qual (defScope st) s.heap.objs.size f cdv)) → sp vs H Q E →
      ∃ t, PSs (cxOf (L2.CX P w) P w K mg base N qual (defScope st) f cdv A outer s H E) (defBody st) t ∧ t { nx := fun _ H' => Q .non H', rt := Q } (start N vs) H) : MetX P w K mg base (k + 1) C m sp := by
  obtain ⟨f, fd, F, hm, b⟩ := d.ex
  exact ⟨f, fd, ps, c, hm, F.okX S len (hbody f), b⟩
theorem InitAt.makX {x : Str} {C : Addr} {qual : Str} {st : Stmt} {N ps : List Str} {k : Nat} {sp : Sp} (hx : mg x = some (.ref C)) (d : InitAt K C qual st ps) (S : FnScope N ps (defScope st)) (len : ∀ vs H Q E, sp vs H Q E → vs.length = ps.length)
    (hbody : ∀ (f : Addr) (cdv : Value) (A : Around) (outer : List Env) (s : Shared) (H : Hp) (vs : List V) (Q : VK) (E : XK), Room k (A.deeper (envOfC qual (defScope st) s.heap.objs.size f cdv)) → sp vs H Q E →
      ∃ t, PSs (cxOf (L2.CX P w) P w K mg base N qual (defScope st) f cdv A outer s H E) (defBody st) t ∧ t { nx := fun _ H' => Q .non H', rt := Q } (start N vs) H) : MakX P w K mg base (k + 1) x C sp := by
  obtain ⟨f, fd, F, hm, b⟩ := d.ex
  exact ⟨f, fd, ps, hm, F.okX S len (hbody f), hx, b⟩
end
/-- where no exception is wanted -/
theorem passN {X : Cx} (σ : L2.St) : PassesAt (L2.CX X.prog X.w) X σ ((fun _ => E0) σ) := fun pins H s e s' I c => passL pins σ H s e s' I c
/-- x.m(..), C(..), where what is raised is wished for at the caller's slots -/
def tMethE (C : Addr) (m : Str) (sp : Sp) (E : L2.St → XK) (ta : TE) (t : TA) : TE := fun σ H Q => ta σ H fun x H1 => ∃ a dx fs, x = .ref a ∧ H1 a = some (.ins C dx fs) ∧ fs.lookup m = none ∧ t σ H1 fun vs H2 => sp (x :: vs) H2 Q (E σ)
def tMakeE (C : Addr) (sp : Sp) (E : L2.St → XK) (t : TA) : TE := fun σ H Q => t σ H fun vs H1 => ∀ x dx, H1 x = none → H1 dx = none → dx ≠ x →
  sp (.ref x :: vs) (upd (upd H1 dx (.own x)) x (.ins C dx [])) (fun v H2 => v = .non ∧ Q (.ref x) H2) (E σ)
section
variable {X : Cx} {CX : CXT} {k j : Nat} {f C : Addr} {fd : FuncData} {ps : List Str} {x m : Str} {sp : Sp} {p pos apos : Pos} {e o : Expr} {es : List Expr} {ta : TE} {t : TA} {E : L2.St → XK}
theorem run_makeS {pins : List (Addr × Obj)} {σ : L2.St} {H : Hp} {s : Shared} {Q : VK} {us : List Value} {vs : List V} (M : Mk X.K C f) (F : FnOk X.prog X.w X.K X.mg X.base CX k f fd ps sp) (hr : Room (k + 1) X.A) (hb : Binds X.K fd ps [])
    (hx : PassesAt CX X σ (E σ)) (I : Inv X pins σ H s) (r : Vals vs us)
    (h : ∀ x dx, H x = none → H dx = none → dx ≠ x → sp (.ref x :: vs) (upd (upd H dx (.own x)) x (.ins C dx [])) (fun v H2 => v = .non ∧ Q (.ref x) H2) (E σ)) :
    wpAny (model X.prog X.w) X.A (call (.ref C) us) (EP X pins σ Q) X.xe s := by
  -- the new object's place, its dict's place
  obtain ⟨dn, hdn⟩ : ∃ dn, dn = s.heap.objs.size := ⟨_, rfl⟩
  have fresh1 : H dn = none := I.hok.fresh (Nat.le_of_eq hdn.symm)
  have fresh2 : H (dn + 1) = none := I.hok.fresh (Nat.le_succ_of_le (Nat.le_of_eq hdn.symm))
  have asked := h (dn + 1) dn fresh2 fresh1 (Nat.ne_of_lt (Nat.lt_succ_self _))
  have J := Inv.made (C := C) I
  rw [← hdn] at J
  have args : Vals (V.ref (dn + 1) :: vs) (Value.ref (dn + 1) :: us) := .cons rfl r
  have many : (Value.ref (dn + 1) :: us).length = ps.length := args.length.symm.trans (F.len _ _ _ _ asked)
  have bound := hb _ (Value.ref (dn + 1) :: us) J.kIn (by rw [List.append_nil]; exact many)
  rw [List.append_nil] at bound
  subst hdn
  refine wpAny_call (make_map (f := f) I.kIn M.makes M.init (beq_iff_eq.mp M.fn) ?_)
  refine codeAny_mono (F.run _ X.stack _ _ ⟨_, []⟩ _ _ _ (E σ) (hr.make C us []) (J.env0.make C us []) bound args asked) fun out s' ho => ?_
  match out, ho with
  | .error e, ho => exact hx pins _ _ e s' J ho
  | .ok (.ret u), ho =>
    obtain ⟨v, H', J', rel, hv, rest⟩ := J.after ho
    cases hv
    exact ⟨rel, .ref (s.heap.objs.size + 1), H', J', rfl, rest⟩
  | .ok .next, ho => exact ho.elim
  | .ok .brk, ho => exact ho.elim
  | .ok .cont, ho => exact ho.elim
theorem pe_xS (c : CalX X.prog X.w X.K X.mg X.base k x sp) (hr : Room j X.A) (hk : k ≤ j) (hg : Gl X x) (hx : ∀ σ, PassesAt (L2.CX X.prog X.w) X σ (E σ)) (ha : PA X (e :: es) t)
    (hdb : (x == ("__debug__" : Str)) = false := by decide) (he : starEach (e :: es) X.env = (false, eval e X.env) :: starEach es X.env := by rfl) (hpl : (backTo pos (starEach es X.env)).any (·.1) = false := by rfl) :
    PE X (.Call (.Name x p) (e :: es) [] pos) (tCallS sp E t) := by
  obtain ⟨f, fd, ps, F, hm, kp, b⟩ := c.ex
  exact pe_callS F (hr.mono hk) hg hm kp b hx ha hdb he hpl
theorem pe_xMk (c : MakX X.prog X.w X.K X.mg X.base k x C sp) (hr : Room j X.A) (hk : k + 1 ≤ j) (hg : Gl X x) (hx : ∀ σ, PassesAt (L2.CX X.prog X.w) X σ (E σ)) (ha : PA X (e :: es) t)
    (hdb : (x == ("__debug__" : Str)) = false := by decide) (he : starEach (e :: es) X.env = (false, eval e X.env) :: starEach es X.env := by rfl) (hpl : (backTo pos (starEach es X.env)).any (·.1) = false := by rfl) :
    PE X (.Call (.Name x p) (e :: es) [] pos) (tMakeE C sp E t) := by
  obtain ⟨f, fd, ps, M, F, hm, hb⟩ := c.ex
  refine ⟨fun pins s σ H Q I h => ?_⟩
  refine wpAny_Call_Name_kw (ld_glob I hg hm ?_ hdb)
  refine PySem.W.callWith_K (h₀ := X.base) I.ok.mod.kin M.kp (thn (ha.run pos pins s σ H _ I h) fun us s1 ⟨vs, H1, I1, r, q⟩ => ⟨I1.kIn, ?_⟩) he hpl
  exact run_makeS M F (hr.mono hk) hb (hx σ) I1 r q
theorem pe_xMt {pl : Sem Bool} (c : MetX X.prog X.w X.K X.mg X.base k C m sp) (hr : Room j X.A) (hk : k ≤ j) (hx : ∀ σ, PassesAt (L2.CX X.prog X.w) X σ (E σ)) (he : PE X o ta) (ha : PA X (e :: es) t)
    (hst : starEach (e :: es) X.env = (false, eval e X.env) :: starEach es X.env := by rfl) (hpl : (backTo pos (starEach es X.env)).any (·.1) = false := by rfl)
    (ht : eval (.Call (.Attribute o m apos) (e :: es) [] pos) X.env = (do
      let ov ← eval o X.env
      standAt apos.atName
      let (f, first) ← holding [ov] (getMethod ov m pl)
      callWith pos f first (backTo pos (starEach (e :: es) X.env)) (backToKw pos (keywordEach [] X.env))) := by rfl) :
    PE X (.Call (.Attribute o m apos) (e :: es) [] pos) (tMethE C m sp E ta t) := by
  obtain ⟨f, fd, ps, hc, hm, F, hb⟩ := c.ex
  refine ⟨fun pins s σ H Q I h => ?_⟩
  refine PySem.W.methodCall_KW (pl := pl) (thn (he.run pins s σ H _ I h) fun u s1 ⟨x, H1, I1, rx, a, dx, fs, ex, ea, l, q⟩ => ?_) ht
  subst ex
  obtain rfl : u = Value.ref a := rx
  refine getmeth_ok I1 ea hc hm l ?_
  refine PySem.W.callWith_K (first := [.ref a]) (h₀ := X.base) I.ok.mod.kin hm.kp (thn (ha.run pos pins s1 σ H1 _ I1 q) fun us s2 ⟨vs, H2, I2, r, q2⟩ => ⟨I2.kIn, ?_⟩) hst hpl
  exact run_fnS (us := .ref a :: us) (vs := .ref a :: vs) F (hr.mono hk) hb (hx σ) I2 (.cons rfl r) q2
theorem pe_xMt0 {pl : Sem Bool} (c : MetX X.prog X.w X.K X.mg X.base k C m sp) (hr : Room j X.A) (hk : k ≤ j) (hx : ∀ σ, PassesAt (L2.CX X.prog X.w) X σ (E σ)) (he : PE X o ta)
    (ht : eval (.Call (.Attribute o m apos) [] [] pos) X.env = (do
      let ov ← eval o X.env
      standAt apos.atName
      let (f, first) ← holding [ov] (getMethod ov m pl)
      callWith pos f first (backTo pos (starEach [] X.env)) (backToKw pos (keywordEach [] X.env))) := by rfl) :
    PE X (.Call (.Attribute o m apos) [] [] pos) (tMethE C m sp E ta tNil) := by
  obtain ⟨f, fd, ps, hc, hm, F, hb⟩ := c.ex
  refine ⟨fun pins s σ H Q I h => ?_⟩
  refine PySem.W.methodCall_KW (pl := pl) (thn (he.run pins s σ H _ I h) fun u s1 ⟨x, H1, I1, rx, a, dx, fs, ex, ea, l, q⟩ => ?_) ht
  subst ex
  obtain rfl : u = Value.ref a := rx
  refine getmeth_ok I1 ea hc hm l ?_
  exact PySem.W.callWith_K0 (first := [.ref a]) I1.kIn hm.kp (run_fnS (us := [.ref a]) (vs := [.ref a]) F (hr.mono hk) hb (hx σ) I1 (.cons rfl .nil) q)
end
/-- an own exception class that is raised; one that is caught -/
structure ExcAt (K : PySem.W.Frag) (C : Addr) : Prop where
  x : PySem.W.excIn K C [.type "ValueError", .type "Exception", .type "BaseException", .type "object"] "ValueError.__new__" = true
  k : PySem.W.keepIn K (.ref C) = true
  b : PySem.W.subIn K (.ref C) (.type "BaseException") = some true
  t : PySem.W.typeIn K (.ref C) = some (.type "type")
structure ExcK (K : PySem.W.Frag) (C : Addr) : Prop where
  b : PySem.W.subIn K (.ref C) (.type "BaseException") = some true
  i : PySem.W.isClsIn K C = true
  t : PySem.W.typeIn K (.ref C) = some (.type "type")
theorem ExcK.exm {K : PySem.W.Frag} {C D : Addr} {r : Bool} (c : ExcK K C) (h : PySem.W.subIn K (.ref D) (.ref C) = some r) : PySem.W.exmOne K (.ref D) (.ref C) = some r := by
  have e1 : (PySem.W.subIn K (.ref C) (.type "BaseException") == some true) = true := by rw [c.b] <;> rfl
  have e2 : ((PySem.W.clsIn K C).isSome && PySem.W.typeIn K (.ref C) == some (.type "type")) = true := by
    have h2' : (PySem.W.clsIn K C).isSome = true := c.i
    rw [h2', c.t] <;> rfl
  show (if (PySem.W.subIn K (.ref C) (.type "BaseException") == some true) = true then (if ((PySem.W.clsIn K C).isSome && PySem.W.typeIn K (.ref C) == some (.type "type")) = true then PySem.W.subIn K (.ref D) (.ref C) else none) else none) = some r
  rw [if_pos e1, if_pos e2]
  exact h
/-- C() -/
theorem pmk_own0 {X : Cx} {C : Addr} {x : Str} {p pos : Pos} (c : ExcAt X.K C) (gC : X.mg x = some (.ref C)) (hg : Gl X x) (hdb : (x == ("__debug__" : Str)) = false := by decide) :
    PMk X (.Call (.Name x p) [] [] pos) (fun _ H Q => Q (.ref C) none H) := by
  intro pins s σ H Q I h
  refine wpAny_Call_Name_kw (ld_glob I hg gC ?_ hdb)
  refine PySem.W.callWith_K0 I.kIn c.k ?_
  obtain ⟨bm, N, nm, qn, bs, hdct, sn, sub, ab, col, dd, k0, k1, k2, k3, k5, mN, hC, hN, hni, T⟩ := exc_obj I.kIn c.x
  refine wpAny_call_exc_subT PySem.F.excBase_ValueError T hC hN hni (fun h' e hm => ?_) (Nat.zero_le _)
  exact mk_of I hm (raises_own c.b c.t) h (I.hok.gone hm.new)
section
variable {K : PySem.W.Frag} {σ : L2.St} {H : Hp} {ta : TE} {tr : TA} {Q : VK} {E : L2.St → XK} {C : Addr} {m : Str} {sp : Sp}
theorem L_callS (h : tr σ H fun vs H1 => sp vs H1 Q (E σ)) : tCallS sp E tr σ H Q := h
theorem L_methE (h : ta σ H fun x H1 => ∃ a dx fs, x = .ref a ∧ H1 a = some (.ins C dx fs) ∧ fs.lookup m = none ∧ tr σ H1 fun vs H2 => sp (x :: vs) H2 Q (E σ)) : tMethE C m sp E ta tr σ H Q := h
theorem L_makeE (h : tr σ H fun vs H1 => MakeP C sp (E σ) vs H1 Q) : tMakeE C sp E tr σ H Q := h
theorem L_meth {E : XK} (h : ta σ H fun x H1 => ∃ a dx fs, x = .ref a ∧ H1 a = some (.ins C dx fs) ∧ fs.lookup m = none ∧ tr σ H1 fun vs H2 => sp (x :: vs) H2 Q E) : tMeth C m sp [] E ta tr σ H Q := by
  unfold tMeth
  simp only [List.append_nil]
  exact h
theorem L_methv {a dx : Addr} {fs : List (Str × V)} {R : Prop} (h : H a = some (.ins C dx fs)) (l : fs.lookup m = none) (q : R) : ∃ a' dx fs, V.ref a = V.ref a' ∧ H a' = some (.ins C dx fs) ∧ fs.lookup m = none ∧ R := ⟨a, dx, fs, rfl, h, l, q⟩
theorem L_only {c : Value} {ts : Addr → Value → Option Addr → TS} {Wout : WX} {D : Ends} {cls : Value} {d : Option Addr} (h : PySem.W.exmOne K cls c = some true) (q : ∀ a, H a = none → ts a cls d D σ H) : wOnly K c ts Wout D cls d σ H := ⟨true, h, fun _ => q, fun z => nomatch z⟩
end
/-- no whole number: another kind of thing, or a truth -/
def NotW (K : PySem.W.Frag) (H : Hp) (v : V) : Prop := (∃ b, v = .bl b) ∨ ∃ a, TyX K H v (.type a) ∧ kitB a "int" = some false
/-- what is_whole denies -/
def BadW (K : PySem.W.Frag) (H : Hp) (v : V) (lo hi : Int) : Prop := NotW K H v ∨ ∃ t, v = .int t ∧ ¬ (lo ≤ t ∧ t ≤ hi)
section
variable {K : PySem.W.Frag} {H : Hp}
theorem notw_non : NotW K H .non := .inr ⟨_, .base .non, by decide +kernel⟩
theorem notw_bl {b : Bool} : NotW K H (.bl b) := .inl ⟨b, rfl⟩
theorem notw_str {z : Str} : NotW K H (.str z) := .inr ⟨_, .base (.str z), by decide +kernel⟩
theorem notw_lst {a : Addr} {xs : List V} (h : H a = some (.lst xs)) : NotW K H (.ref a) := .inr ⟨_, .base (.lst h), by decide +kernel⟩
theorem notw_tup {a : Addr} {xs : List V} (h : H a = some (.tup xs)) : NotW K H (.ref a) := .inr ⟨_, .base (.tup h), by decide +kernel⟩
theorem notw_dK {a : Addr} {xs : List (Key × V)} (h : H a = some (.dK xs)) : NotW K H (.ref a) := .inr ⟨_, .base (.dK h), by decide +kernel⟩
theorem badw_int {t lo hi : Int} (h : ¬ (lo ≤ t ∧ t ≤ hi)) : BadW K H (.int t) lo hi := .inr ⟨t, rfl, h⟩
theorem NotW.bad {v : V} {lo hi : Int} (h : NotW K H v) : BadW K H v lo hi := .inl h
end
section
variable {K : PySem.W.Frag} {H H' : Hp}
theorem tyx_T {a : Addr} {xs : List V} (h : SqT K H a xs) : TyX K H (.ref a) (.type "tuple") := by
  rcases h with (h | ⟨o, h⟩) | ⟨o, _, _, h, c, _⟩
  · exact .base (.tup h)
  · exact .fTuple h
  · exact .kTuple h c
theorem tyx_L {a : Addr} {xs : List V} (h : SqL K H a xs) : TyX K H (.ref a) (.type "list") := by
  rcases h with (h | ⟨o, h⟩) | ⟨o, _, _, h, c, _⟩
  · exact .base (.lst h)
  · exact .base (.frz h)
  · exact .kList h c
variable {σ : L2.St} {Q : VK}
theorem L_sort2 {a : Addr} {x y : Int} (h : SqL K H a [V.int x, V.int y]) (q : ∀ p, H p = none → Q (.ref p) (upd H p (.lst [V.int (min x y), V.int (max x y)]))) : rSorted K [.ref a] H Q := by
  refine ⟨a, [x, y], rfl, h, by simp, fun ns p hp hs hn => ?_⟩
  have hl := hp.length_eq
  match ns, hl with
  | [u, v], _ =>
    have hle : u ≤ v := by simpa using hs
    have hm : (u = x ∧ v = y) ∨ (u = y ∧ v = x) := by
      have h1 : u ∈ [x, y] := hp.mem_iff.mp (by simp)
      have h2 : v ∈ [x, y] := hp.mem_iff.mp (by simp)
      have h3 : x ∈ [u, v] := hp.mem_iff.mpr (by simp)
      have h4 : y ∈ [u, v] := hp.mem_iff.mpr (by simp)
      simp only [List.mem_cons, List.not_mem_nil, or_false] at h1 h2 h3 h4
      rcases h1 with h1 | h1 <;> rcases h2 with h2 | h2 <;> rcases h3 with h3 | h3 <;> rcases h4 with h4 | h4 <;> omega
    have e : [u, v] = [min x y, max x y] := by
      rcases hm with ⟨rfl, rfl⟩ | ⟨rfl, rfl⟩
      · rw [Int.min_eq_left hle, Int.max_eq_right hle]
      · rw [Int.min_eq_right hle, Int.max_eq_left hle]
    rw [e]
    exact q p hn
theorem L_list1 {a : Addr} {xs : List V} (h : SqL K H a xs) (q : ∀ l, H l = none → Q (.ref l) (upd H l (.lst xs))) : aList1 K [.ref a] H Q := ⟨a, xs, rfl, .inl h, q⟩
theorem L_tuple1 {a : Addr} {xs : List V} (h : SqL K H a xs) (q : ∀ l, H l = none → Q (.ref l) (upd H l (.tup xs))) : aTuple1 K [.ref a] H Q := ⟨a, xs, rfl, .inl ⟨h, q⟩⟩
theorem eqv_same {d : PyData} (h : SeqAt.shaped d = true) : PyData.eqv d d = true := SeqAt.eqv_refl d (SeqAt.canLay_of_shaped h)
theorem L_eqR {x y : V} {d : PyData} (hx : Dp K H x d) (hy : Dp K H y d) (s : SeqAt.shaped d = true) (q : Q (.bl true) H) : aEq K x y H Q := L_eqD hx hy s s (by rw [eqv_same s]; exact q)
theorem L_neR {x y : V} {d : PyData} (hx : Dp K H x d) (hy : Dp K H y d) (s : SeqAt.shaped d = true) (q : Q (.bl false) H) : aNe K x y H Q := L_neD hx hy s s (by rw [eqv_same s]; exact q)
theorem L_zipA {a b : Addr} {xs ys : List V} {R : Addr → Addr → Prop} (h1 : SqL K H a xs) (h2 : SqL K H b ys) (q : R a b) : ∃ a' b' xs ys, [V.ref a, V.ref b] = [.ref a', .ref b'] ∧ SqL K H a' xs ∧ SqL K H b' ys ∧ R a' b' := ⟨a, b, xs, ys, rfl, h1, h2, q⟩
end
/-- data that == may be asked of, at most n deep -/
structure Shp (n : Nat) (d : PyData) : Prop where
  c : d.canLay0 = true
  d : d.depth ≤ n
theorem Shp.ok {n : Nat} {d : PyData} (h : Shp n d) (hn : n ≤ 64 := by decide) : SeqAt.shaped d = true := by
  unfold SeqAt.shaped
  rw [h.c, decide_eq_true (Nat.le_trans h.d hn)]; rfl
theorem shp_int {n : Nat} {i : Int} : Shp n (.int i) := ⟨by simp [PyData.canLay0], by simp [PyData.depth]⟩
theorem shp_bl {n : Nat} {i : Bool} : Shp n (.bool i) := ⟨by simp [PyData.canLay0], by simp [PyData.depth]⟩
theorem shp_non {n : Nat} : Shp n .none := ⟨by simp [PyData.canLay0], by simp [PyData.depth]⟩
theorem shp_str {n : Nat} {z : Str} (h : PyData.strOk z = true) : Shp n (.str z) := ⟨by simpa [PyData.canLay0] using h, by simp [PyData.depth]⟩
theorem shp_all {n : Nat} : ∀ {ds : List PyData}, (∀ d ∈ ds, Shp n d) → PyData.canLayAll0 ds = true ∧ PyData.depthAll ds ≤ n
  | [], _ => ⟨by simp [PyData.canLayAll0], by simp [PyData.depthAll]⟩
  | d :: ds, h => by
    have h1 := h d (List.mem_cons_self ..)
    have h2 := shp_all fun x hx => h x (List.mem_cons_of_mem _ hx)
    exact ⟨by simp [PyData.canLayAll0, h1.c, h2.1], by simp only [PyData.depthAll]; exact Nat.max_le.mpr ⟨h1.d, h2.2⟩⟩
theorem shp_lst {n : Nat} {ds : List PyData} (h : ∀ d ∈ ds, Shp n d) : Shp (n + 1) (.list ds) := ⟨by simp only [PyData.canLay0]; exact (shp_all h).1, by simp only [PyData.depth]; have := (shp_all h).2; omega⟩
theorem shp_tup {n : Nat} {ds : List PyData} (h : ∀ d ∈ ds, Shp n d) : Shp (n + 1) (.tuple ds) := ⟨by simp only [PyData.canLay0]; exact (shp_all h).1, by simp only [PyData.depth]; have := (shp_all h).2; omega⟩
theorem shp_nil {n : Nat} : ∀ d ∈ ([] : List PyData), Shp n d := fun _ h => nomatch h
theorem shp_cons {n : Nat} {d : PyData} {ds : List PyData} (h : Shp n d) (t : ∀ d ∈ ds, Shp n d) : ∀ x ∈ d :: ds, Shp n x := fun x hx => by
  rcases List.mem_cons.mp hx with rfl | hx
  · exact h
  · exact t x hx
theorem shp_map {n : Nat} {α : Type} {f : α → PyData} {l : List α} (h : ∀ a ∈ l, Shp n (f a)) : ∀ d ∈ l.map f, Shp n d := fun d hd => by
  obtain ⟨a, ha, rfl⟩ := List.mem_map.mp hd
  exact h a ha
theorem shp_ints {n : Nat} {l : List Int} : Shp (n + 1) (.list (l.map .int)) := shp_lst (shp_map fun _ _ => shp_int)
theorem _root_.L2.Dp.ints {K : PySem.W.Frag} {H : Hp} {a : Addr} {ns : List Int} (h : SqL K H a (ns.map V.int)) : Dp K H (.ref a) (.list (ns.map .int)) := .lst h (dp_ints ns)
section
variable {K : PySem.W.Frag} {H : Hp} {Q : VK}
theorem L_powE {i j n : Int} (h : CPow i j) (e : i ^ j.toNat = n) (q : Q (.int n) H) : rI CPow (fun i j => .int (i ^ j.toNat)) (.int i) (.int j) H Q := ⟨i, j, rfl, rfl, h, by subst e; exact q⟩
/-- one of some ints -/
theorem L_menu {ns : List Int} {p : Addr} {i : Int} (h : SqL K H p (ns.map V.int)) (h0 : 0 ≤ i) (h1 : i < ns.length) (q : ∀ v ∈ ns, Q (.int v) H) : rIx K (.ref p) (.int i) H Q := by
  have hl : i.toNat < ns.length := by omega
  refine L_ixL h (atI_ints h0 h1) (q _ ?_)
  rw [List.getD_eq_getElem?_getD, List.getElem?_eq_getElem hl]
  exact List.getElem_mem hl
/-- an item of a list of ints, some property of all its items kept -/
theorem L_ixP {ns : List Int} {p : Addr} {i : Int} {P : Int → Prop} (h : SqL K H p (ns.map V.int)) (hP : ∀ v ∈ ns, P v) (h0 : 0 ≤ i) (h1 : i < ns.length) (q : ∀ v, P v → Q (.int v) H) : rIx K (.ref p) (.int i) H Q :=
  L_menu h h0 h1 fun v hv => q v (hP v hv)
end
theorem cdiv_lit {i j : Int} (h : 0 < j ∧ j < 1000000000000) : CDivW i j := (bd_64 (by omega)).cdiv h.1
theorem cpow_lit {i j : Int} (h : 0 ≤ j ∧ j ≤ 1000 ∧ -1000000 < i ∧ i < 1000000) : CPow i j := by
  have e : (2 : Nat) ^ 64 = 18446744073709551616 := by decide
  exact ⟨h.1, by omega, by omega⟩
theorem same_newE {H Hn : Hp} {p : Addr} {o : HO} (e : upd H p o = Hn) (h : H p = none) : Same H Hn := e ▸ same_new h
theorem upd_at {H Hn : Hp} {p : Addr} {o : HO} (e : upd H p o = Hn) : Hn p = some o := e ▸ upd_same
section
variable {K : PySem.W.Frag} {H H' : Hp} {p q : Addr} {us xs : List V} {ds : List PyData} {d : PyData} {y : V} {o : HO}
/-- a list grows: its things stand apart from it -/
theorem dp_grow (hdp : DpAll K (rs (· ≠ p) H) us ds) (s : Same H H') (hy : Dp K (rs (· ≠ p) H') y d) : DpAll K (rs (· ≠ p) (upd H' p o)) (us ++ [y]) (ds ++ [d]) :=
  (hdp.same (rs_same fun a u na ha => ⟨na, by rw [upd_ne na]; exact s _ _ ha⟩)).snoc (hy.same (rs_same fun a u na ha => ⟨na, by rw [upd_ne na]; exact ha⟩))
theorem dp_tupN (h : H q = some (.tup xs)) (n : q ≠ p) (ha : DpAll K (rs (· ≠ p) H) xs ds) : Dp K (rs (· ≠ p) H) (.ref q) (.tuple ds) := .tup (.of (rs_at n h)) ha
theorem dp_lstN (h : H q = some (.lst xs)) (n : q ≠ p) (ha : DpAll K (rs (· ≠ p) H) xs ds) : Dp K (rs (· ≠ p) H) (.ref q) (.list ds) := .lst (.of (rs_at n h)) ha
/-- data that stood ahead of p -/
theorem dp_old {H0 : Hp} (h : Dp K H0 y d) (n : H0 p = none) (s : Same H0 H) : Dp K (rs (· ≠ p) H) y d := h.same (rs_all fun a u ha => ⟨fun z => (by rw [z, n] at ha; cases ha), s _ _ ha⟩)
theorem dpA_old {H0 : Hp} (h : DpAll K H0 us ds) (n : H0 p = none) (s : Same H0 H) : DpAll K (rs (· ≠ p) H) us ds := h.same (rs_all fun a u ha => ⟨fun z => (by rw [z, n] at ha; cases ha), s _ _ ha⟩)
theorem dp_whole (h : DpAll K (rs (· ≠ p) H) us ds) (e : H p = some (.lst us)) : Dp K H (.ref p) (.list ds) := .lst (.of e) (h.same rs_sub)
theorem ne_new (h : H p = none) (h' : ∃ o, H q = some o) : p ≠ q := fun z => by
  obtain ⟨o, e⟩ := h'
  rw [z, e] at h; cases h
end
theorem fm_get {α β : Type} (g : α → β) : ∀ (l : List α), (List.range l.length).filterMap (fun i => l[i]?.map g) = l.map g
  | [] => rfl
  | a :: l => by
    have ih := fm_get g l
    rw [List.length_cons, List.range_succ_eq_map]
    simp only [List.filterMap_cons, List.getElem?_cons_zero, Option.map_some, List.filterMap_map, Function.comp_def, List.getElem?_cons_succ, List.map_cons]
    rw [ih]
theorem sum_take {α : Type} {l : List α} {f : α → Int} {i : Nat} {x : α} (h : l[i]? = some x) : ((l.take (i + 1)).map f).sum = ((l.take i).map f).sum + f x := by
  rw [List.take_succ, h]
  simp
theorem sum_takeAll {α : Type} {l : List α} {f : α → Int} {n : Nat} (h : l.length ≤ n) : ((l.take n).map f).sum = (l.map f).sum := by rw [List.take_of_length_le h]
/-! ### loops, the ends told one by one -/
section
variable {K : PySem.W.Frag} {σ : L2.St} {H : Hp} {g : TG} {tb : TS} {N : L2.St → Hp → Prop} {R : VK}
/-- what a for asks behind its iterable -/
abbrev ForT (J : It) (σ : L2.St) (H : Hp) (g : TG) (tb : TS) (N : L2.St → Hp → Prop) (R : VK) : Prop :=
  ∃ W : Nat → Nat → L2.St → Hp → Prop, (∃ m, W 0 m σ H) ∧ ∀ i m σ H, W i m σ H →
      (J.stop i H ∧ N σ H) ∨ (J.go i H ∧ ∃ M : L2.St → Hp → Prop, (∀ σ' H', M σ' H' → ∃ m', m' < m ∧ W (i + 1) m' σ' H') ∧ ∀ x H', J.yld i H x H' → g x σ H' fun σ2 H2 => tb ⟨M, R, N, M⟩ σ2 H2)
theorem f_it {J : It} {n : Nat} {G : Hp → Prop} {Y : Nat → Hp → V → Hp → Prop} (w : L2.Walk J n G Y) (Pv : Nat → L2.St → Hp → Prop) (h0 : Pv 0 σ H) (hG : ∀ i σ H, i ≤ n → Pv i σ H → G H)
    (hs : ∀ i x σ H H', i < n → Pv i σ H → Y i H x H' → g x σ H' fun σ2 H2 => tb ⟨Pv (i + 1), R, N, Pv (i + 1)⟩ σ2 H2) (hd : ∀ σ H, Pv n σ H → N σ H) : ForT J σ H g tb N R :=
  for_it (D := ⟨N, R, N, N⟩) w Pv h0 hG hs hd
theorem f_range {lo : Int} {n : Nat} (Pv : Nat → L2.St → Hp → Prop) (h0 : Pv 0 σ H)
    (hs : ∀ i σ H, i < n → Pv i σ H → g (.int (lo + i)) σ H fun σ2 H2 => tb ⟨Pv (i + 1), R, N, Pv (i + 1)⟩ σ2 H2) (hd : ∀ σ H, Pv n σ H → N σ H) : ForT (Itr lo n) σ H g tb N R :=
  for_range (D := ⟨N, R, N, N⟩) Pv h0 hs hd
theorem f_rangeC {lo c : Int} {n : Nat} (Pv : Nat → L2.St → Hp → Prop) (h0 : Pv 0 σ H)
    (hs : ∀ i σ H, i < n → Pv i σ H → g (.int (lo + (i : Nat) * c)) σ H fun σ2 H2 => tb ⟨Pv (i + 1), R, N, Pv (i + 1)⟩ σ2 H2) (hd : ∀ σ H, Pv n σ H → N σ H) : ForT (Itc lo c n) σ H g tb N R :=
  for_rangeC (D := ⟨N, R, N, N⟩) Pv h0 hs hd
theorem f_dp {a : Addr} {ds : List PyData} (h : Dp K H (.ref a) (.list ds)) (Pv : Nat → L2.St → Hp → Prop) (h0 : Pv 0 σ H) (hG : ∀ i σ' H', i ≤ ds.length → Pv i σ' H' → Same H H')
    (hs : ∀ i d x σ' H', i < ds.length → ds[i]? = some d → Pv i σ' H' → Dp K H' x d → g x σ' H' fun σ2 H2 => tb ⟨Pv (i + 1), R, N, Pv (i + 1)⟩ σ2 H2) (hd : ∀ σ' H', Pv ds.length σ' H' → N σ' H') : ForT (Itl K a) σ H g tb N R :=
  for_dp (D := ⟨N, R, N, N⟩) h Pv h0 hG hs hd
end
section
variable {σ σ' : L2.St} {H : Hp} {i : Nat} {v x : V} {B C : L2.St → Hp → Prop} {N : L2.St → Hp → Prop} {R : VK} {te : TE}
theorem L_gnameE {Q : L2.St → Hp → Prop} (e : σ.set i (some v) = σ') (h : Q σ' H) : gName i v σ H Q := by subst e; exact h
end
section
variable {K : PySem.W.Frag} {H H' : Hp} {σ : L2.St} {Q : VK} {te : TE} {tl th : TO}
theorem TyX_same {v : V} {t : Value} (e : Same H H') (h : TyX K H v t) : TyX K H' v t := by
  cases h with
  | base h =>
    refine .base ?_
    cases h with
    | non => exact .non
    | bl x => exact .bl x
    | int x => exact .int x
    | str x => exact .str x
    | flt x => exact .flt x
    | lst h => exact .lst (e _ _ h)
    | frz h => exact .frz (e _ _ h)
    | tup h => exact .tup (e _ _ h)
    | dK h => exact .dK (e _ _ h)
    | dT h => exact .dT (e _ _ h)
    | ins h cl ha hn htk hm => exact .ins (e _ _ h) cl ha hn htk hm
  | byt b => exact .byt b
  | set h => exact .set (e _ _ h)
  | kList h c => exact .kList h c
  | kTuple h c => exact .kTuple h c
  | kDict h c => exact .kDict h c
  | fTuple h => exact .fTuple (e _ _ h)
  | fDict h => exact .fDict (e _ _ h)
theorem NotW.same {v : V} (h : NotW K H v) (e : Same H H') : NotW K H' v := by
  rcases h with h | ⟨a, h1, h2⟩
  · exact .inl h
  · exact .inr ⟨a, TyX_same e h1, h2⟩
theorem BadW.same {v : V} {lo hi : Int} (h : BadW K H v lo hi) (e : Same H H') : BadW K H' v lo hi := by
  rcases h with h | h
  · exact .inl (h.same e)
  · exact .inr h
theorem L_sl {r : V → Option Int → Option Int → Hp → VK → Prop} (h : te σ H fun x H1 => tl σ H1 fun l H2 => th σ H2 fun u H3 => r x l u H3 Q) : L2.tSl r te tl th σ H Q := h
theorem L_noPart {R : Option Int → Hp → Prop} (h : R none H) : tNoPart σ H R := h
theorem L_part {t : TE} {R : Option Int → Hp → Prop} (h : t σ H fun x H1 => ∃ i, x = .int i ∧ R (some i) H1) : tPart t σ H R := h
theorem L_ki {i : Int} {R : Int → Prop} (h : R i) : ∃ j, V.int i = V.int j ∧ R j := ⟨i, rfl, h⟩
theorem L_slL {a : Addr} {xs : List V} {lo hi : Option Int} (h : SqL K H a xs) (q : ∀ p, H p = none → Q (.ref p) (upd H p (.lst (cutV xs lo hi)))) : rSlL K (.ref a) lo hi H Q := ⟨a, xs, rfl, h, q⟩
end
def cutG {α : Type} (xs : List α) (lo hi : Option Int) : List α := (xs.drop (HT.sIx xs.length 0 lo)).take (HT.sIx xs.length xs.length hi - HT.sIx xs.length 0 lo)
theorem cutV_map {α : Type} (f : α → V) (xs : List α) (lo hi : Option Int) : cutV (xs.map f) lo hi = (cutG xs lo hi).map f := by
  unfold cutV cutG
  rw [List.length_map, List.map_take, List.map_drop]
theorem cutG_mem {α : Type} {xs : List α} {lo hi : Option Int} {x : α} (h : x ∈ cutG xs lo hi) : x ∈ xs := List.mem_of_mem_drop (List.mem_of_mem_take h)
theorem cutG_len {α : Type} (xs : List α) (lo hi : Option Int) : (cutG xs lo hi).length ≤ xs.length := by
  unfold cutG
  rw [List.length_take, List.length_drop]
  omega
section
variable {K : PySem.W.Frag} {H : Hp} {Q : VK}
/-- one of some things -/
theorem L_menuV {xs : List V} {p : Addr} {i : Int} (h : SqL K H p xs) (h0 : 0 ≤ i) (h1 : i < xs.length) (q : ∀ v ∈ xs, Q v H) : rIx K (.ref p) (.int i) H Q := by
  have hl : i.toNat < xs.length := by omega
  exact L_ixL h (atI_int h0 (List.getElem?_eq_getElem hl)) (q _ (List.getElem_mem hl))
end
theorem hpL {K : PySem.W.Frag} {H : Hp} {a : Addr} {xs : List V} (h : H a = some (.lst xs)) : SqL K H a xs := .of h
theorem hpT {K : PySem.W.Frag} {H : Hp} {a : Addr} {xs : List V} (h : H a = some (.tup xs)) : SqT K H a xs := .of h
theorem bd_mod {x n : Int} (h : 0 < n ∧ n < 18446744073709551616) : Bd 64 (x % n) := bd_64 (by
  have h1 := Int.emod_nonneg x (show n ≠ 0 by omega)
  have h2 := Int.emod_lt_of_pos x h.1
  omega)
theorem hp_from {H0 H : Hp} {p : Addr} {o : HO} (h : H0 p = some o) (e : Same H0 H) : H p = some o := e _ _ h
theorem same_via {H H1 H2 : Hp} (b : Same H1 H2) (a : Same H H1) : Same H H2 := a.trans b
theorem same_upd' {H H' : Hp} {a : Addr} {o : HO} (h : H' a = none) (e : Same H H') : Same H (upd H' a o) := same_upd e h
theorem same_mut' {H H' : Hp} {a : Addr} {o : HO} (h : H a = none) (e : Same H H') : Same H (upd H' a o) := same_mut e h
section
variable {K : PySem.W.Frag} {H : Hp} {σ : L2.St} {Q : VK}
theorem L_clear {a : Addr} {xs : List V} (h : H a = some (.lst xs)) (q : Q .non (upd H a (.lst []))) : rClear (.ref a) [] H Q := ⟨a, xs, rfl, rfl, h, q⟩
theorem L_dnew (h : ∀ p, H p = none → Q (.ref p) (upd H p (.dK []))) : tDNewK σ H Q := h
/-- no list -/
def NotL (K : PySem.W.Frag) (H : Hp) (v : V) : Prop := ∃ a, TyX K H v (.type a) ∧ kitB a "list" = some false
theorem notl_tup {a : Addr} {xs : List V} (h : SqT K H a xs) : NotL K H (.ref a) := ⟨_, tyx_T h, by decide +kernel⟩
theorem notl_non : NotL K H .non := ⟨_, .base .non, by decide +kernel⟩
theorem notl_int {i : Int} : NotL K H (.int i) := ⟨_, .base (.int i), by decide +kernel⟩
theorem notl_bl {i : Bool} : NotL K H (.bl i) := ⟨_, .base (.bl i), by decide +kernel⟩
theorem notl_str {i : Str} : NotL K H (.str i) := ⟨_, .base (.str i), by decide +kernel⟩
theorem notl_dK {a : Addr} {xs : List (Key × V)} (h : H a = some (.dK xs)) : NotL K H (.ref a) := ⟨_, .base (.dK h), by decide +kernel⟩
theorem NotL.same {H' : Hp} {v : V} (h : NotL K H v) (e : Same H H') : NotL K H' v := by
  obtain ⟨a, h1, h2⟩ := h
  exact ⟨a, TyX_same e h1, h2⟩
end
theorem rep1 (x : Int) : ∀ n : Nat, (List.replicate n [V.int x]).flatten = (List.replicate n x).map V.int
  | 0 => rfl
  | n + 1 => by rw [List.replicate_succ, List.flatten_cons, rep1 x n]; rfl
section
variable {K : PySem.W.Frag} {H : Hp} {Q : VK}
theorem L_neB {i j : Bool} (q : Q (.bl (!decide (i = j))) H) : aNe K (.bl i) (.bl j) H Q := .inl ⟨rfl, by rw [show decide (V.bl i = V.bl j) = decide (i = j) by simp]; exact q⟩
end
/-! ### for x in xs: check(x) -/
section
variable {K : PySem.W.Frag} {σ : L2.St} {H : Hp} {N : L2.St → Hp → Prop} {R : VK} {a : Addr} {xs : List V} {sp : Sp} {ES : L2.St → XK} {i : Nat} {c : Value}
theorem set_self (σ : L2.St) (i : Nat) (hi : i < σ.length) : ∃ v, σ = σ.set i v := ⟨σ[i], by simp⟩
theorem L_forChk (hL : SqL K H a xs) (hi : i < σ.length) (hok : ∀ x ∈ xs, ∀ Q E, Q .non H → sp [x] H Q E) (q : ∀ v, N (σ.set i v) H) : ForT (Itl K a) σ H (gName i) (tDrop (tCallS sp ES (tCons (tVar i) tNil))) N R := by
  refine f_it walk_list (fun _ σ' H' => H' = H ∧ ∃ v, σ' = σ.set i v) ⟨rfl, set_self σ i hi⟩ (fun _ _ _ _ p => p.1 ▸ hL) ?_ ?_
  · rintro j x σ' H' H'' hj ⟨rfl, v, rfl⟩ ⟨rfl, e⟩
    refine L_gname (L_drop (L_callS (L_cons (L_var (v := x) ?_ (L_nil (hok x (List.mem_of_getElem? e) _ _ ?_))))))
    · simp [hi]
    · exact ⟨rfl, some x, by rw [List.set_set]⟩
  · rintro σ' H' ⟨rfl, v, rfl⟩
    exact q v
theorem L_forChkX (hL : SqL K H a xs) (hi : i < σ.length) (hx : ∀ x ∈ xs, (∀ Q E, Q .non H → sp [x] H Q E) ∨ ∀ Q E, E c none H → sp [x] H Q E) (hb : ∃ x ∈ xs, ∀ Q E, E c none H → sp [x] H Q E) (q : ∀ v, ES (σ.set i v) c none H) :
    ForT (Itl K a) σ H (gName i) (tDrop (tCallS sp ES (tCons (tVar i) tNil))) N R := by
  obtain ⟨x0, hx0, hb0⟩ := hb
  obtain ⟨j0, hj0⟩ := List.mem_iff_getElem?.mp hx0
  refine f_it walk_list (fun j σ' H' => H' = H ∧ (∃ v, σ' = σ.set i v) ∧ ∃ k x, j ≤ k ∧ xs[k]? = some x ∧ ∀ Q E, E c none H → sp [x] H Q E) ⟨rfl, set_self σ i hi, j0, x0, Nat.zero_le _, hj0, hb0⟩ (fun _ _ _ _ p => p.1 ▸ hL) ?_ ?_
  · rintro j x σ' H' H'' hj ⟨rfl, ⟨v, rfl⟩, k, y, hk, hy, hby⟩ ⟨rfl, e⟩
    refine L_gname (L_drop (L_callS (L_cons (L_var (v := x) ?_ (L_nil ?_)))))
    · simp [hi]
    · by_cases hc : ∀ Q E, E c none H'' → sp [x] H'' Q E
      · exact hc _ _ (by rw [List.set_set]; exact q _)
      · refine (hx x (List.mem_of_getElem? e)).resolve_right hc _ _ ⟨rfl, ⟨some x, by rw [List.set_set]⟩, k, y, ?_, hy, hby⟩
        rcases Nat.lt_or_eq_of_le hk with hlt | rfl
        · exact hlt
        · rw [e] at hy
          cases hy
          exact absurd hby hc
  · rintro σ' H' ⟨rfl, ⟨v, rfl⟩, k, y, hk, hy, hby⟩
    have := (List.getElem?_eq_some_iff.mp hy).1
    omega
end
theorem L_bm0 {K : PySem.W.Frag} {σ : L2.St} {H : Hp} {Q : VK} {te : TE} {T : String} {r : V → List V → Hp → VK → Prop} (h : te σ H fun x H1 => tyV K T x H1 ∧ r x [] H1 Q) : tBM0 K T r te σ H Q := h
/-- what an expression's ways have in common -/
theorem L_via {P : VK → Prop} {Q : VK} (R : V → Hp → Prop) (key : ∀ Q : VK, (∀ v H', R v H' → Q v H') → P Q) (q : ∀ v H', R v H' → Q v H') : P Q := key Q q
section
variable {K : PySem.W.Frag} {H : Hp} {σ : L2.St} {Q : VK} {ta tb : TE}
theorem L_disp1 (h : ∀ p, H p = none → ta σ (upd H p (.dK [])) fun k H1 => tb σ H1 fun v H2 => H2 p = some (.dK []) ∧ ∃ kvs : List (Key × V), [(k, v)] = kvs.map (fun kv => (kV kv.1, kv.2)) ∧ kvs.length ≤ 15 ∧ Q (.ref p) (upd H2 p (.dK (mergeK [] kvs)))) : tDisp [(ta, tb)] σ H Q := h
theorem L_dispE1 {p : Addr} {k v : V} (kk : Key) (e : k = kV kk) (h : H p = some (.dK [])) (q : Q (.ref p) (upd H p (.dK [(kk, v)]))) : H p = some (.dK []) ∧ ∃ kvs : List (Key × V), [(k, v)] = kvs.map (fun kv => (kV kv.1, kv.2)) ∧ kvs.length ≤ 15 ∧ Q (.ref p) (upd H p (.dK (mergeK [] kvs))) :=
  ⟨h, [(kk, v)], by rw [e]; rfl, by simp, q⟩
/-- a sign of a text -/
theorem L_ixSany {z : Str} {i : Int} (hz : z.length ≤ 1000000) (h0 : 0 ≤ i) (h1 : i < z.length) (q : ∀ a ∈ z.cps.toList, Q (.str ⟨#[a]⟩) H) : rIx K (.str z) (.int i) H Q := by
  have hl : i.toNat < z.cps.toList.length := by
    have e : z.cps.toList.length = z.length := by rw [Array.length_toList]; rfl
    omega
  have h3 : z.cps.toList[i.toNat]? = some z.cps.toList[i.toNat] := List.getElem?_eq_getElem hl
  refine L_ixS (sz_dec hz) (a := z.cps.toList[i.toNat]) ?_ (q _ (List.getElem_mem hl))
  obtain ⟨j, rfl⟩ : ∃ j : Nat, i = (j : Int) := ⟨i.toNat, by omega⟩
  exact atI_nat h3
theorem L_inR {i lo hi : Int} {a : Addr} (h : H a = some (.rng lo hi)) (q : Q (.bl (decide (lo ≤ i ∧ i < hi))) H) : (∃ i' a' lo hi, V.int i = V.int i' ∧ V.ref a = V.ref a' ∧ H a' = some (.rng lo hi) ∧ Q (.bl (decide (lo ≤ i' ∧ i' < hi))) H) := ⟨i, a, lo, hi, rfl, rfl, h, q⟩
theorem L_rng2 {i j : Int} (q : ∀ p, H p = none → Q (.ref p) (upd H p (.rng i j))) : (∃ i' j', [V.int i, V.int j] = [V.int i', V.int j'] ∧ ∀ p, H p = none → Q (.ref p) (upd H p (.rng i' j'))) := ⟨i, j, rfl, q⟩
/-- no text -/
def NotS (K : PySem.W.Frag) (H : Hp) (v : V) : Prop := ∃ a, TyX K H v (.type a) ∧ kitB a "str" = some false
theorem nots_tup {a : Addr} {xs : List V} (h : SqT K H a xs) : NotS K H (.ref a) := ⟨_, tyx_T h, by decide +kernel⟩
theorem nots_lst {a : Addr} {xs : List V} (h : SqL K H a xs) : NotS K H (.ref a) := ⟨_, tyx_L h, by decide +kernel⟩
theorem nots_non : NotS K H .non := ⟨_, .base .non, by decide +kernel⟩
theorem nots_int {i : Int} : NotS K H (.int i) := ⟨_, .base (.int i), by decide +kernel⟩
theorem nots_bl {i : Bool} : NotS K H (.bl i) := ⟨_, .base (.bl i), by decide +kernel⟩
theorem nots_dK {a : Addr} {xs : List (Key × V)} (h : H a = some (.dK xs)) : NotS K H (.ref a) := ⟨_, .base (.dK h), by decide +kernel⟩
theorem NotS.same {H' : Hp} {v : V} (h : NotS K H v) (e : Same H H') : NotS K H' v := by
  obtain ⟨a, h1, h2⟩ := h
  exact ⟨a, TyX_same e h1, h2⟩
end
theorem len1 (a : Nat) : (⟨#[a]⟩ : Str).length = 1 := rfl
theorem str_len_append (a b : Str) : (a ++ b).length = a.length + b.length := Array.size_append
theorem str_len {z : Str} : z.cps.toList.length = z.length := by rw [Array.length_toList]; rfl
theorem one_lt {c d : Nat} : ([c] : List Nat) < [d] ↔ c < d := by
  rw [List.cons_lt_cons_iff]
  constructor
  · rintro (h | ⟨_, h⟩)
    · exact h
    · exact absurd h (List.not_lt_nil _)
  · exact .inl
theorem str_app_list (a b : Str) : (a ++ b).cps.toList = a.cps.toList ++ b.cps.toList := Array.toList_append
theorem eqv_nil {ds : List PyData} : PyData.eqv (.list ds) (.list []) = ds.isEmpty := by
  cases ds <;> simp [PyData.eqv, PyData.eqvAll]
theorem strOk_of {z : Str} (h : ∀ c ∈ z.cps.toList, c < 1114112) : PyData.strOk z = true := by
  show (z.cps.all (· < 0x110000)) = true
  rw [← Array.all_toList, List.all_eq_true]
  intro c hc
  exact decide_eq_true (h c hc)
theorem L_nnT {A B : Prop} (a : A) : if (!!true) = true then A else B := L_T a
theorem L_nnF {A B : Prop} (b : B) : if (!!false) = true then A else B := L_F b
theorem bd_128 {i : Int} (h : -340282366920938463463374607431768211456 < i ∧ i < 340282366920938463463374607431768211456) : Bd 128 i := by
  unfold Bd
  have : (2 : Nat) ^ 128 = 340282366920938463463374607431768211456 := by decide
  omega
/-! ### an exception that was caught, held by a name beyond the clause -/
/-- an exception of the class cls at a, its own dict d -/
def ExI (cls : Value) (d : Option Addr) (a : Addr) : HO := .ext fun h => ∃ (oe : Obj) (vs : Array Value), h.get? a = some oe ∧ Zc cls d oe ∧ oe.data = .fields vs
section
variable {X : Cx} {pins : List (Addr × Obj)} {σ : L2.St} {H : Hp} {s : Shared}
theorem track {a : Addr} {d : Option Addr} {cls : Value} {oe : Obj} {vs : Array Value} (I : Inv X pins σ H s) (na : H a = none) (he : s.heap.get? a = some oe) (z : Zc cls d oe) (hd : oe.data = .fields vs) (n0 : X.s_0.heap.get? a = none)
    (nL : a ≠ X.env.locals) (np : ∀ p ∈ X.pn ++ pins, p.1 ≠ a) : Inv X pins σ (upd H a (ExI cls d a)) s where
  ok := I.ok
  os := I.os
  bare := I.bare
  base := {
    keep := I.base.keep
    slot := I.base.slot
    free := fun b o e n hx => by
      rw [upd_ne (fun z => by rw [z, n0] at e; cases e)]
      exact I.base.free b o e n hx
    there := I.base.there
    tups := fun b xs q => by
      have t := I.base.tups b xs q
      rw [upd_ne (ne_of_none t na)]; exact t
    frzs := fun b o u q => by
      have t := I.base.frzs b o u q
      rw [upd_ne (ne_of_none t na)]; exact t
    tbls := fun b ps q => by
      obtain ⟨more, t⟩ := I.base.tbls b ps q
      exact ⟨more, by rw [upd_ne (ne_of_none t na)]; exact t⟩ }
  loc := I.loc
  cell := I.cell
  free := by rw [upd_ne nL.symm]; exact I.free
  freeC := fun x c e => by
    obtain ⟨v, o, ho, hc⟩ := I.cell x c e
    rw [upd_ne (fun z => by rw [z, he] at ho; cases ho; rw [hd] at hc; cases hc)]
    exact I.freeC x c e
  pin := fun p hp => by
    obtain ⟨h1, h2, h3⟩ := I.pin p hp
    exact ⟨h1, by rw [upd_ne (np p hp)]; exact h2, h3⟩
  hok := fun b o e => by
    by_cases hb : b = a
    · cases hb
      rw [upd_same] at e
      cases e
      exact ⟨⟨oe, vs, he, z, hd⟩, ⟨oe, he⟩, fun _ _ ⟨o1, v1, q, r⟩ k => ⟨o1, v1, k o1 q, r⟩⟩
    · rw [upd_ne hb] at e
      exact (I.hok b o e).stay (fun _ _ _ q => q) (fun c q => by rw [upd_ne (ne_of_none q na)]; exact q) fun c xs q => by rw [upd_ne (ne_of_none q na)]; exact q
  len := I.len
end
/-- what 'except x as n' wishes of an exception, which is tracked behind the suite -/
def wAsT (K : PySem.W.Frag) (c : Value) (i : Nat) (ts : Addr → Value → Option Addr → TS) (Wout : WX) (D : Ends) : WX := fun cls d σ H =>
  ∃ b, PySem.W.exmOne K cls c = some b ∧
    (b = true → ∀ a, H a = none → ts a cls d ⟨fun σ' H' => H' a = none → D.nx (σ'.set i none) (upd H' a (ExI cls d a)), D.rt, fun σ' H' => D.bk (σ'.set i none) H', fun σ' H' => D.ct (σ'.set i none) H'⟩ (σ.set i (some (.ref a))) H) ∧
    (b = false → Wout cls d σ H)
section
variable {X : Cx} {x n : Str} {c : Value} {i : Nat} {body suite : List Stmt} {b₀ : Stmt} {np pos pos' : Pos} {tb : WX → TS} {ts : Addr → Value → Option Addr → TS} {Wout : WX}
theorem ps_try_asT (hs : X.stack = X.env :: X.outer) (hf : X.env.frame = some X.env.locals) (hN : X.N.Nodup) (hi : X.N[i]? = some n) (hln : X.env.kindOf n = some .local) (hex : X.ex = []) (hc : Names X x c) (tk : Takes X Wout)
    (hb : ∀ (W : WX) (pn : List (Addr × Obj)) (xe : Value → Shared → Prop), Takes (X.tr pn xe) W → PassesOwn (model X.prog X.w) X.A X.env xe → PSs (X.tr pn xe) body (tb W))
    (hsu : ∀ (a : Addr) (oe : Obj) (cls : Value) (d : Option Addr) (pn : List (Addr × Obj)), Zc cls d oe → (∃ vs, oe.data = .fields vs) → PSs (X.suite a ((a, oe) :: pn)) (b₀ :: suite) (ts a cls d)) :
    PS X (.Try body [.ExceptHandler (some (.Name x np)) (some n) (b₀ :: suite) pos'] [] [] pos) (fun D σ H => tb (wAsT X.K c i ts Wout D) D σ H) := by
  constructor
  intro pins s0 σ0 H0 D I0 start
  have okX := I0.ok
  have frames : X.A.frames = some (X.env :: X.outer) := by
    rw [okX.frames, hs]
  apply wpAny_Try_except
  -- what is raised in the body is looked at by the clause
  let look : Value → Shared → Prop := fun e t1 => wpAny (model X.prog X.w) X.A (noteFrame e X.env) (fun _ t2 => wpAny (model X.prog X.w) X.A (setFlight e none)
    (fun _ t3 => wpAny (model X.prog X.w) X.A (handleBy e X.env [.ExceptHandler (some (.Name x np)) (some n) (b₀ :: suite) pos']) (SP X pins D) X.xe t3) X.xe t2) X.xe t1
  have caught : Takes (X.tr (X.pn ++ pins) look) (wAsT X.K c i ts Wout D) := by
    intro u s' air
    obtain ⟨a, B, sI, pins', σ', H', cls, d, rfl, K', nb, up, sky, na, os, ag, b, exm, yes, no⟩ := air
    have K0 : Inv X pins σ' H' sI := K'.ofTry okX
    have sky1 : Sky B (X.env :: X.outer) a (Zc cls d) X.env.locals s'.heap := hs ▸ sky
    show wpAny (model X.prog X.w) X.A (noteFrame (.ref a) X.env) _ _ _
    apply Sky.land Zc.steady frames hf sky1
    intro h3 fl3 up3
    have J3 : Inv X pins σ' H' { s' with heap := h3 } := K0.landed nb fl3.1 (up.trans up3) os ag
    obtain ⟨oe3, vs3, at3, z3, data3⟩ := fl3.there
    have offFrames : a ∉ frs (X.env :: X.outer) := fun hm => by
      obtain ⟨_, o', there', hnf⟩ := fl3.2.2.1.mem hm
      rw [at3] at there'
      cases there'
      exact hnf _ data3
    have nL : a ≠ X.env.locals := fun e => offFrames (List.mem_filterMap.mpr ⟨X.env, List.mem_cons_self, by rw [hf, e]⟩)
    have nF : a ∉ X.fs := fun hm => by
      obtain ⟨e, he, q⟩ := List.mem_filterMap.mp hm
      exact offFrames (List.mem_filterMap.mpr ⟨e, List.mem_cons_of_mem _ he, q⟩)
    -- a is new: it stood neither at the try's entry nor at the def's
    have newB : B.get? a = none := fl3.2.1
    have newI : sI.heap.get? a = none := by
      cases q : sI.heap.get? a with
      | none => rfl
      | some o =>
        have := nb a o q (by rw [hs]; exact offFrames)
        rw [newB] at this
        cases this
    have new0 : X.s_0.heap.get? a = none := by
      cases q : X.s_0.heap.get? a with
      | none => rfl
      | some o =>
        obtain ⟨o', q'⟩ := K0.base.there a o q (by rw [hex]; exact List.not_mem_nil)
        rw [newI] at q'
        cases q'
    have apart : ∀ p ∈ X.pn ++ pins, p.1 ≠ a := fun p hp e => by
      have := (K0.pin p hp).1
      rw [e, newI] at this
      cases this
    have S3 := J3.suite at3 data3 na nL nF
    apply wpAny_handleBy_cons _ (by intro q; cases q)
    apply codeAny_handlers_test
    have tyA : PySem.W.Looks (model X.prog X.w) h3 (typeOf (.ref a)) cls := fun A Q E t k q => wpAny_typeOf_ref (k _ _ at3) (by rw [z3.1]; exact q)
    have matched := PySem.W.exm_one (M := model X.prog X.w) (J3.kIn) tyA exm
    have named : ∀ {Q : Value → Shared → Prop} {E : Value → Shared → Prop}, Q c { s' with heap := h3 } → wpAny (model X.prog X.w) (X.A.mark (some (.ref a))) (eval (.Name x np) X.env) Q E { s' with heap := h3 } := by
      intro Q E q
      obtain ⟨hg, hdbg, hm⟩ := hc
      rcases hm with hm | ⟨hm, hv, hnn⟩
      · exact ld_glob (X := X.suite a ((a, oe3) :: (X.pn ++ pins))) S3 hg hm q hdbg
      · exact ld_blt (X := X.suite a ((a, oe3) :: (X.pn ++ pins))) S3 hg hm hv q hnn hdbg
    apply named
    apply matched.here
    cases b with
    | true =>
      apply codeAny_handlers_suite_as
      apply HandSPX.lands_againZ fl3
      intro h4 fl4 up4
      have J4 : Inv X pins σ' H' { s' with heap := h4 } := K0.landed nb fl4.1 ((up.trans up3).trans up4) os ag
      obtain ⟨oe4, vs4, at4, z4, data4⟩ := fl4.there
      have S4 := J4.suite at4 data4 na nL nF
      refine store_ok (X := X.suite a ((a, oe4) :: (X.pn ++ pins))) (v := .ref a) S4 hN hi (.inl hln) rfl (fun s5 S5 => ?_) (.inr hln)
      refine wpAny_mono ((hsu a oe4 cls d (X.pn ++ pins) z4 ⟨_, data4⟩).run [] s5 _ H' _ S5 (yes rfl a na)) (fun f s6 hsp => ?_) (fun _ _ z => z.elim)
      -- out of the suite, the exception still pinned
      have out : ∀ {σ6 : L2.St} {H6 : Hp} {Q : Shared → Prop}, Inv (X.suite a ((a, oe4) :: (X.pn ++ pins))) [] σ6 H6 s6 → (∀ s7, Inv X pins (σ6.set i none) H6 s7 → H6 a = none → s7.heap.get? a = some oe4 → Q s7) →
          wpAny (model X.prog X.w) X.A (do bindName X.env n .none; unbindBehindTheSuite X.env n pos') (fun _ s7 => Q s7) X.xe s6 := fun {σ6 H6 Q} S6 hq => by
        have P6 : Inv X ((a, oe4) :: pins) σ6 H6 s6 := { S6.unsuite okX with
          pin := fun p hp => S6.pin p (by
            rcases List.mem_append.mp hp with hp | hp
            · exact List.mem_append_left _ (List.mem_cons_of_mem _ (List.mem_append_left _ hp))
            · rcases List.mem_cons.mp hp with e | hp
              · rw [e]; exact List.mem_append_left _ List.mem_cons_self
              · exact List.mem_append_left _ (List.mem_cons_of_mem _ (List.mem_append_right _ hp))) }
        refine gone_ok P6 hN hi hln fun s7 P7 => ?_
        have pinned := P7.pin (a, oe4) (List.mem_append_right _ List.mem_cons_self)
        refine hq s7 { P7 with pin := fun p hp => P7.pin p ?_ } pinned.2.1 pinned.1
        rcases List.mem_append.mp hp with hp | hp
        · exact List.mem_append_left _ hp
        · exact List.mem_append_right _ (List.mem_cons_of_mem _ hp)
      match f, hsp with
      | .next, ⟨σ6, H6, S6, q6⟩ => exact out S6 fun s7 J7 n6 a6 => ⟨_, _, track J7 n6 a6 z4 data4 new0 nL apart, q6 n6⟩
      | .brk, ⟨σ6, H6, S6, q6⟩ => exact out S6 fun s7 J7 _ _ => ⟨_, _, J7, q6⟩
      | .cont, ⟨σ6, H6, S6, q6⟩ => exact out S6 fun s7 J7 _ _ => ⟨_, _, J7, q6⟩
      | .ret u, ⟨v6, σ6, H6, S6, r6, q6⟩ => exact out S6 fun s7 J7 _ _ => ⟨_, _, _, J7, r6, q6⟩
    | false =>
      show wpAny _ X.A (handleBy (.ref a) X.env []) _ _ _
      apply wpAny_handleBy_nil
      obtain ⟨_, _, _, oe, vs, T, oT, ts', he, hz, hd, h1, hr⟩ := id fl3
      unfold PySem.passOn
      refine wpAny_bind (wpAny_field he hd h1 ?_)
      rw [if_neg (show ¬ ((Value.ref T == Value.none) = true) from by simp)]
      have on : wpAny (model X.prog X.w) X.A (setFlight (.ref a) X.env.frame) (fun _ s4 => wpAny (model X.prog X.w) X.A (throw (.ref a) : Sem Flow) (SP X pins D) X.xe s4) X.xe { s' with heap := h3 } := by
        rw [hf]
        apply HandSPX.setFlight_upZ fl3
        intro h4 held4 up4
        apply wpAny_throw
        apply tk
        exact ⟨a, B, sI, pins, σ', H', cls, d, rfl, K0, nb, (up.trans up3).trans up4, .inr (.inr (by rw [hs]; exact held4)), na, os, ag, no rfl⟩
      first
        | exact wpAny_bind (wpAny_pure (wpAny_bind on))
        | exact wpAny_bind on
  refine wpAny_mono ((hb (wAsT X.K c i ts Wout D) (X.pn ++ pins) look caught PassesOwn.looking).run [] s0 σ0 H0 D (I0.toTry _) start) (fun f s1 hsp => ?_) (fun e s1 he => he)
  match f, hsp with
  | .next, ⟨σ1, H1, J1, q⟩ => exact wpAny_execs_nil ⟨σ1, H1, J1.ofTry okX, q⟩
  | .brk, ⟨σ1, H1, J1, q⟩ => exact ⟨σ1, H1, J1.ofTry okX, q⟩
  | .cont, ⟨σ1, H1, J1, q⟩ => exact ⟨σ1, H1, J1.ofTry okX, q⟩
  | .ret u, ⟨v, σ1, H1, J1, r, q⟩ => exact ⟨v, σ1, H1, J1.ofTry okX, r, q⟩
end
/-- isinstance of a caught exception that a name holds -/
def rIsX (K : PySem.W.Frag) : List V → Hp → VK → Prop := fun xs H Q => ∃ (a D : Addr) (c : V) (u : Value) (b : Bool), xs = [.ref a, c] ∧ H a = some (ExI (.ref D) none a) ∧ L2.ExcC K D ∧ ClsV c u ∧ PySem.W.kitOne K (.ref D) u = some b ∧ Q (.bl b) H
def rIsXT (K : PySem.W.Frag) : List V → Hp → VK → Prop := fun xs H Q => ∃ (a D tp : Addr) (cs : List V) (us : List Value) (b : Bool), xs = [.ref a, .ref tp] ∧ H a = some (ExI (.ref D) none a) ∧ L2.ExcC K D ∧ H tp = some (.tup cs) ∧ Paired ClsV cs us ∧ PySem.W.kitAny K (.ref D) us = some b ∧ Q (.bl b) H
section
variable {X : Cx} {pins : List (Addr × Obj)} {σ : L2.St} {H : Hp} {s : Shared}
theorem exI_at {a D : Addr} (I : Inv X pins σ H s) (h : H a = some (ExI (.ref D) none a)) : ∃ oe, PySem.W.InstAt s.heap a oe D none := by
  obtain ⟨⟨oe, vs, q1, ⟨q2, q3⟩, q4⟩, _⟩ := I.hok a _ h
  obtain ⟨oc, od, oda, osl⟩ := oe
  dsimp only at q2 q3 q4
  subst q2 q3 q4
  exact ⟨_, q1, rfl, rfl, trivial⟩
theorem call_isX : CallR X (.builtin "isinstance") (rIsX X.K) := by
  intro pins s σ H xs us Q I r h
  obtain ⟨a, D, c, u, b, rfl, hx, C, k, e, q⟩ := h
  obtain ⟨u1, u2, rfl, r1, r2⟩ := vals2 r
  cases r1
  cases k.eq r2
  obtain ⟨oe, J⟩ := exI_at I hx
  exact PySem.W.kia_one (PySem.W.handS_kitx_exc C.hg C.hk C.hs C.hd C.ha C.hn C.ht C.hm) I.kIn J e (fun z => nomatch z) fun tk => ⟨.bl b, H, I.tok tk, rfl, q⟩
theorem call_isXT : CallR X (.builtin "isinstance") (rIsXT X.K) := by
  intro pins s σ H xs us Q I r h
  obtain ⟨a, D, tp, cs, ws, b, rfl, hx, C, hT, k, e, q⟩ := h
  obtain ⟨u1, u2, rfl, r1, r2⟩ := vals2 r
  cases r1
  cases (show u2 = Value.ref tp from r2)
  obtain ⟨oe, J⟩ := exI_at I hx
  obtain ⟨_, its, rv, o, h1, h2, n, h3⟩ := (show ObjOk X.prog X.w H s.heap tp (.tup cs) from I.hok tp _ hT)
  have e3 := ClsV.all k rv
  subst e3
  obtain ⟨oc, od, dt, sl⟩ := o
  simp only at h2 h3
  subst h2 h3
  exact PySem.W.kia_tup (PySem.W.handS_kitx_exc C.hg C.hk C.hs C.hd C.ha C.hn C.ht C.hm) I.kIn J h1 e (fun z => nomatch z) fun tk => ⟨.bl b, H, I.tok tk, rfl, q⟩
end
section
variable {K : PySem.W.Frag} {H : Hp} {Q : VK} {C D : Addr} {b : Bool}
theorem kit_ref (hD : PySem.W.subIn K (.ref D) (.ref D) = some true) (k : ExcK K C) (h : PySem.W.subIn K (.ref D) (.ref C) = some b) : PySem.W.kitOne K (.ref D) (.ref C) = some b := by
  unfold PySem.W.kitOne
  by_cases e : D = C
  · subst e
    rw [hD] at h
    cases h
    rw [if_pos (by simp)]
  · rw [if_neg (by simpa using e)]
    have h2 : (PySem.W.clsIn K C).isSome = true := k.i
    show (if ((PySem.W.clsIn K C).isSome && PySem.W.typeIn K (.ref C) == some (.type "type")) = true then PySem.W.subIn K (.ref D) (.ref C) else none) = some b
    rw [if_pos (by rw [h2, k.t]; rfl)]
    exact h
theorem kit_typ {T : String} (hm : PySem.W.kitMeta T = true) (h : PySem.W.subIn K (.ref D) (.type T) = some b) : PySem.W.kitOne K (.ref D) (.type T) = some b := by
  unfold PySem.W.kitOne
  rw [if_neg (by simp)]
  show (if PySem.W.kitMeta T = true then PySem.W.subIn K (.ref D) (.type T) else none) = some b
  rw [if_pos hm]
  exact h
theorem L_isX {a : Addr} {c : V} {u : Value} (h : H a = some (ExI (.ref D) none a)) (C : L2.ExcC K D) (k : ClsV c u) (e : PySem.W.kitOne K (.ref D) u = some b) (q : Q (.bl b) H) : rIsX K [.ref a, c] H Q := ⟨a, D, c, u, b, rfl, h, C, k, e, q⟩
theorem L_isXT {a tp : Addr} {cs : List V} {us : List Value} (h : H a = some (ExI (.ref D) none a)) (C : L2.ExcC K D) (hT : H tp = some (.tup cs)) (k : Paired ClsV cs us) (e : PySem.W.kitAny K (.ref D) us = some b) (q : Q (.bl b) H) : rIsXT K [.ref a, .ref tp] H Q := ⟨a, D, tp, cs, us, b, rfl, h, C, hT, k, e, q⟩
theorem kit_none : ∀ {us : List Value}, (∀ u ∈ us, PySem.W.kitOne K (.ref D) u = some false) → PySem.W.kitAny K (.ref D) us = some false
  | [], _ => rfl
  | u :: us, h => by
    unfold PySem.W.kitAny
    rw [h u (List.mem_cons_self ..)]
    exact kit_none fun x hx => h x (List.mem_cons_of_mem _ hx)
theorem L_asT {c : Value} {i : Nat} {ts : Addr → Value → Option Addr → TS} {Wout : WX} {D : Ends} {σ : L2.St} {cls : Value} {d : Option Addr} (h : PySem.W.exmOne K cls c = some true)
    (q : ∀ a, H a = none → ts a cls d ⟨fun σ' H' => H' a = none → D.nx (σ'.set i none) (upd H' a (ExI cls d a)), D.rt, fun σ' H' => D.bk (σ'.set i none) H', fun σ' H' => D.ct (σ'.set i none) H'⟩ (σ.set i (some (.ref a))) H) : wAsT K c i ts Wout D cls d σ H :=
  ⟨true, h, fun _ => q, fun z => nomatch z⟩
end
/-! ### lists of numbers, and what is none -/
def BadNs (K : PySem.W.Frag) (H : Hp) (v : V) (lo hi : Int) : Prop := NotL K H v ∨ ∃ a xs, v = .ref a ∧ SqL K H a xs ∧ (24 < xs.length ∨ ((∀ x ∈ xs, (∃ t, x = .int t ∧ lo ≤ t ∧ t ≤ hi) ∨ BadW K H x lo hi) ∧ ∃ x ∈ xs, BadW K H x lo hi))
def GoodNs (K : PySem.W.Frag) (H : Hp) (v : V) (ts : List Int) (lo hi : Int) : Prop := ∃ a, v = .ref a ∧ SqL K H a (ts.map V.int) ∧ ts.length ≤ 24 ∧ ∀ t ∈ ts, lo ≤ t ∧ t ≤ hi
section
variable {K : PySem.W.Frag} {H H' : Hp} {v : V} {lo hi : Int} {ts : List Int}
theorem BadNs.same (h : BadNs K H v lo hi) (e : Same H H') : BadNs K H' v lo hi := by
  rcases h with h | ⟨a, xs, h1, h2, h3⟩
  · exact .inl (h.same e)
  · refine .inr ⟨a, xs, h1, e.seq h2, ?_⟩
    rcases h3 with h3 | ⟨h3, x, h4, h5⟩
    · exact .inl h3
    · exact .inr ⟨fun x hx => (h3 x hx).imp id fun b => b.same e, x, h4, h5.same e⟩
theorem GoodNs.same (h : GoodNs K H v ts lo hi) (e : Same H H') : GoodNs K H' v ts lo hi := by
  obtain ⟨a, h1, h2, h3, h4⟩ := h
  exact ⟨a, h1, e.seq h2, h3, h4⟩
theorem bad_one {a : Addr} {x : V} (h : H a = some (.lst [x])) (b : BadW K H x lo hi) : BadNs K H (.ref a) lo hi := .inr ⟨a, _, rfl, .of h, .inr ⟨fun y hy => by rw [List.mem_singleton.mp hy]; exact .inr b, x, List.mem_singleton.mpr rfl, b⟩⟩
theorem good_ns {a : Addr} (h : H a = some (.lst (ts.map V.int))) (hl : ts.length ≤ 24) (hb : ∀ t ∈ ts, lo ≤ t ∧ t ≤ hi) : GoodNs K H (.ref a) ts lo hi := ⟨a, rfl, .of h, hl, hb⟩
theorem int_of_mem {x : V} (h : x ∈ ts.map V.int) : ∃ t ∈ ts, x = .int t := by
  obtain ⟨t, h1, h2⟩ := List.mem_map.mp h
  exact ⟨t, h1, h2.symm⟩
theorem getD_of {i : Nat} {t : Int} (h : ts[i]? = some t) : ts.getD i 0 = t := by rw [List.getD_eq_getElem?_getD, h]; rfl
theorem fm_int {f : Nat → Option Int} {n : Nat} : (List.range n).filterMap (fun i => (f i).map V.int) = ((List.range n).filterMap f).map V.int := by
  rw [List.map_filterMap]
end
/-- pairs of ints as data -/
def d2 (r : Int × Int) : PyData := .tuple [.int r.1, .int r.2]
section
variable {K : PySem.W.Frag} {H : Hp} {v : V} {us : List V} {rows : List (Int × Int)}
theorem of_d2 {r : Int × Int} (h : Dp K H v (d2 r)) : ∃ a, v = .ref a ∧ SqT K H a [.int r.1, .int r.2] := by
  obtain ⟨a, x, y, rfl, h1, h2, h3⟩ := of_t2 h
  rw [of_int h2, of_int h3] at h1
  exact ⟨a, rfl, h1⟩
theorem hit2 (hA : DpAll K H us (rows.map d2)) {i : Nat} {x : V} (hx : us[i]? = some x) : ∃ r t, rows[i]? = some r ∧ x = V.ref t ∧ SqT K H t [.int r.1, .int r.2] := by
  obtain ⟨d, h1, h2⟩ := hA.of hx
  rw [List.getElem?_map] at h1
  obtain ⟨r, h3, rfl⟩ := Option.map_eq_some_iff.mp h1
  obtain ⟨t, rfl, h4⟩ := of_d2 h2
  exact ⟨r, t, h3, rfl, h4⟩
theorem shp_d2s : SeqAt.shaped (.list (rows.map d2)) = true := (shp_lst (n := 1) (shp_map fun r _ => shp_tup (n := 0) (shp_cons shp_int (shp_cons shp_int shp_nil)))).ok
end
theorem cutG_take {α : Type} (xs : List α) (n : Nat) : cutG xs none (some (n : Int)) = xs.take n := by
  unfold cutG
  rw [HT.sIx_none, HT.sIx_nat, List.drop_zero, Nat.sub_zero]
  rcases Nat.le_total n xs.length with h | h
  · rw [Nat.min_eq_left h]
  · rw [Nat.min_eq_right h, List.take_of_length_le (Nat.le_refl _), List.take_of_length_le h]
theorem cutG_drop {α : Type} (xs : List α) (n : Nat) : cutG xs (some (n : Int)) none = xs.drop n := by
  unfold cutG
  rw [HT.sIx_none, HT.sIx_nat]
  rcases Nat.le_total n xs.length with h | h
  · rw [Nat.min_eq_left h, List.take_of_length_le (by rw [List.length_drop]; exact Nat.le_refl _)]
  · rw [Nat.min_eq_right h, List.drop_of_length_le (Nat.le_refl _), List.drop_of_length_le h, List.take_nil]
theorem strOk_lit {z : Str} (h : PyData.strOk z = true) : PyData.strOk z = true := h
theorem dpa_app {K : PySem.W.Frag} {H : Hp} : ∀ {ds es : List PyData} {vs us : List V}, DpAll K H (vs ++ us) (ds ++ es) → vs.length = ds.length → DpAll K H vs ds ∧ DpAll K H us es
  | [], _, [], _, h, _ => ⟨.nil, h⟩
  | [], _, _ :: _, _, _, e => by simp at e
  | _ :: _, _, [], _, _, e => by simp at e
  | d :: ds, _, v :: vs, _, h, e => by
    cases h with
    | cons h1 h2 =>
      obtain ⟨a, b⟩ := dpa_app h2 (by simpa using e)
      exact ⟨.cons h1 a, b⟩
theorem nn_ints_or {K : PySem.W.Frag} {H : Hp} {x : V} {ts : List Int} {lo hi : Int} (hb : ∀ t ∈ ts, lo ≤ t ∧ t ≤ hi) (h : x ∈ ts.map V.int) : (∃ t, x = .int t ∧ lo ≤ t ∧ t ≤ hi) ∨ BadW K H x lo hi := by
  obtain ⟨t, ht, e⟩ := int_of_mem h
  exact .inl ⟨t, e, hb t ht⟩
theorem rep_len {α : Type} (xs : List α) : ∀ n : Nat, (List.replicate n xs).flatten.length = n * xs.length
  | 0 => by simp
  | n + 1 => by rw [List.replicate_succ, List.flatten_cons, List.length_append, rep_len xs n, Nat.succ_mul, Nat.add_comm]
/-! ### exceptions whose own __init__ asks their base's by its name -/
/-- S.__init__, S an own class, is ValueError's -/
structure BaseI (K : PySem.W.Frag) (S : Addr) : Prop where
  rd : PySem.W.readsIn K S (.type "type") = true
  ga : PySem.W.specialIn K (.ref S) "__getattribute__" = some (some (.builtin "type.__getattribute__"))
  vi : PySem.W.findCls K (.ref S) (.type "type") "__init__" = some (.val (.builtin "ValueError.__init__"))
structure XIniAt (K : PySem.W.Frag) (C : Addr) (qual : Str) (st : Stmt) (ps : List Str) : Prop where
  ex : ∃ (f : Addr) (fd : FuncData), Fun K "__init__" qual st f fd ∧ PySem.W.findIn K (.ref C) "__init__" = some (some (.ref f)) ∧ PySem.W.isFn K (.ref f) = true ∧ Binds K fd ps []
/-- an exception that may be made by its class's name -/
structure XMak (P : Program) (w : World) (K : PySem.W.Frag) (mg : Str → Option Value) (base : Heap) (k : Nat) (x : Str) (C : Addr) (sp : Sp) : Prop where
  ex : ∃ (f : Addr) (fd : FuncData) (ps : List Str), FnOk P w K mg base CX0 k f fd ps sp ∧ PySem.W.findIn K (.ref C) "__init__" = some (some (.ref f)) ∧ PySem.W.typeIn K (.ref f) = some (.type "function") ∧ mg x = some (.ref C) ∧ Binds K fd ps []
section
variable {P : Program} {w : World} {K : PySem.W.Frag} {mg : Str → Option Value} {base : Heap}
theorem XIniAt.xmak {x : Str} {C : Addr} {qual : Str} {st : Stmt} {N ps : List Str} {k : Nat} {sp : Sp} (hx : mg x = some (.ref C)) (d : XIniAt K C qual st ps) (S : FnScope N ps (defScope st)) (len : ∀ vs H Q E, sp vs H Q E → vs.length = ps.length)
    (hbody : ∀ (f : Addr) (cdv : Value) (A : Around) (outer : List Env) (s : Shared) (H : Hp) (vs : List V) (Q : VK) (E : XK), Room k (A.deeper (envOfC qual (defScope st) s.heap.objs.size f cdv)) → sp vs H Q E →
      ∃ t, PSs (cxOf CX0 P w K mg base N qual (defScope st) f cdv A outer s H E).nox (defBody st) t ∧ t { nx := fun _ H' => Q .non H', rt := Q } (start N vs) H) : XMak P w K mg base (k + 1) x C sp := by
  obtain ⟨f, fd, F, h1, h2, b⟩ := d.ex
  exact ⟨f, fd, ps, F.ok S len (hbody f), h1, beq_iff_eq.mp h2, hx, b⟩
end
section
variable {X : Cx} {k j : Nat} {C S : Addr} {x : Str} {sp : Sp} {p p1 p2 pos : Pos} {e : Expr} {es : List Expr} {ta : TA}
theorem pmk_x (c : XMak X.prog X.w X.K X.mg X.base k x C sp) (T : OexC X.K C) (hr : Room j X.A) (hk : k + 1 ≤ j) (hg : Gl X x) (ha : PA X (e :: es) ta)
    (hdb : (x == ("__debug__" : Str)) = false := by decide) (he : starEach (e :: es) X.env = (false, eval e X.env) :: starEach es X.env := by rfl) (hpl : (backTo pos (starEach es X.env)).any (·.1) = false := by rfl) :
    PMk X (.Call (.Name x p) (e :: es) [] pos) (tMkO C sp [] ta) := by
  obtain ⟨f, fd, ps, F, h1, h2, hm, b⟩ := c.ex
  exact pmk_oex T h1 h2 F (hr.mono hk) b .nil pass0 hg hm ha hdb he hpl
theorem pe_baseI {pl : Sem Bool} (hg : Gl X x) (hm : X.mg x = some (.ref S)) (B : BaseI X.K S) (ha : PA X (e :: es) ta)
    (hc : eval (.Call (.Attribute (.Name x p1) "__init__" p2) (e :: es) [] pos) X.env = (do
      let ov ← eval (.Name x p1) X.env
      standAt p2.atName
      let (f, first) ← holding [ov] (getMethod ov "__init__" pl)
      callWith pos f first (backTo pos (starEach (e :: es) X.env)) (backToKw pos (keywordEach [] X.env))) := by rfl)
    (hdb : (x == ("__debug__" : Str)) = false := by decide) (he : starEach (e :: es) X.env = (false, eval e X.env) :: starEach es X.env := by rfl) (hpl : (backTo pos (starEach es X.env)).any (·.1) = false := by rfl) :
    PE X (.Call (.Attribute (.Name x p1) "__init__" p2) (e :: es) [] pos) (tVeI X.K ta) := by
  constructor
  intro pins s σ H Q I h
  have asked : ∀ s1, Inv X pins σ H s1 → wpAny (model X.prog X.w) X.A (callWith pos (Value.builtin "ValueError.__init__") [] (backTo pos (starEach (e :: es) X.env)) []) (EP X pins σ Q) X.xe s1 := fun s1 I1 =>
    PyProof.Rows.callWith_method1 (thn (ha.run pos pins s1 σ H _ I1 h) fun us s2 ⟨vs, H2, I2, r, a, D, ws, evs, few, T, atA, q⟩ => by
      subst evs
      cases r with
      | @cons _ u0 _ ur r0 rr =>
        obtain rfl : u0 = Value.ref a := r0
        have few' : ur.length ≤ sizeLine := by
          have := Paired.length rr
          have := sizeLine_eq
          omega
        exact oinit_ok T I2 atA few' fun s3 I3 => ⟨.non, H2, I3, rfl, q⟩) he hpl
  refine PySem.W.methodCall_KW (ld_glob I hg hm ?_ hdb) hc
  refine PySem.W.method_cls I.kIn B.ga (PySem.W.cls_value I.kIn B.rd B.vi (by decide +kernel) ?_)
  exact asked _ (I.tok _)
end
section
variable {K : PySem.W.Frag} {σ : L2.St} {H : Hp} {D : Ends} {C a : Addr} {f : Str} {y : V} {ta : TA} {te to : TE}
theorem L_veI {R : Hp → Prop} {ws : List V} (T : OexC K C) (h : H a = some (exo a C none)) (l : ws.length ≤ 1000) (q : R H) : ∃ (a' C : Addr) (ws' : List V), V.ref a :: ws = .ref a' :: ws' ∧ ws'.length ≤ 1000 ∧ OexC K C ∧ H a' = some (exo a' C none) ∧ R H := ⟨a, C, ws, rfl, l, T, h, q⟩
theorem L_tveI {Q : VK} (h : ta σ H fun vs H1 => ∃ (a C : Addr) (ws : List V), vs = .ref a :: ws ∧ ws.length ≤ 1000 ∧ OexC K C ∧ H1 a = some (exo a C none) ∧ Q .non H1) : tVeI K ta σ H Q := h
theorem L_ost (h : te σ H fun y H1 => to σ H1 fun x H2 => ∃ a C : Addr, x = .ref a ∧ OexC K C ∧ PySem.W.findIn K (.ref C) f = some none ∧
  ((H2 a = some (exo a C none) ∧ ∀ dx, H2 dx = none → dx ≠ a → D.nx σ (upd (upd H2 dx (exd dx [(f, y)])) a (exo a C (some dx)))) ∨
    ∃ (dx : Addr) (fs : List (Str × V)), H2 a = some (exo a C (some dx)) ∧ H2 dx = some (exd dx fs) ∧ fs.length ≤ 900 ∧ D.nx σ (upd H2 dx (exd dx ((f, y) :: fs))))) : tOst K f to te D σ H := h
theorem L_ost1 {R : Hp → Prop} (T : OexC K C) (nf : PySem.W.findIn K (.ref C) f = some none) (h : H a = some (exo a C none)) (q : ∀ dx, H dx = none → dx ≠ a → R (upd (upd H dx (exd dx [(f, y)])) a (exo a C (some dx)))) :
    ∃ a' C : Addr, V.ref a = .ref a' ∧ OexC K C ∧ PySem.W.findIn K (.ref C) f = some none ∧
  ((H a' = some (exo a' C none) ∧ ∀ dx, H dx = none → dx ≠ a' → R (upd (upd H dx (exd dx [(f, y)])) a' (exo a' C (some dx)))) ∨
    ∃ (dx : Addr) (fs : List (Str × V)), H a' = some (exo a' C (some dx)) ∧ H dx = some (exd dx fs) ∧ fs.length ≤ 900 ∧ R (upd H dx (exd dx ((f, y) :: fs)))) := ⟨a, C, rfl, T, nf, .inl ⟨h, q⟩⟩
/-- what an __init__ with one field keeps -/
def XIni1 (C : Addr) (f : Str) (a : Addr) (v : V) (H : Hp) (Q : VK) : Prop := H a = some (exo a C none) ∧ ∀ d, H d = none → d ≠ a → Q .non (upd (upd H d (exd d [(f, v)])) a (exo a C (some d)))
/-- C(v) is raised -/
theorem L_mkO1 {sp : Sp} {E : XK} {v : V} (hs : ∀ a H Q E, XIni1 C f a v H Q → sp [.ref a, v] H Q E) (q : ∀ d, H d = none → E (.ref C) (some d) (upd H d (.xd [(f, v)]))) : [v].length ≤ 1000 ∧ ∀ a, H a = none → sp (.ref a :: ([v] ++ [])) (upd H a (exo a C none))
  (fun v H2 => v = .non ∧ ∃ (d : Addr) (fs : List (Str × V)), H2 a = some (exo a C (some d)) ∧ H2 d = some (exd d fs) ∧ H d = none ∧ E (.ref C) (some d) (upd (del H2 a) d (.xd fs))) (fun _ _ _ => False) := by
  refine ⟨by rw [List.length_singleton]; decide, fun a na => hs a _ _ _ ⟨upd_same, fun d nd ne => ⟨rfl, d, [(f, v)], upd_same, ?_, ?_, ?_⟩⟩⟩
  · rw [upd_ne ne, upd_same]
  · rw [upd_ne ne] at nd
    exact nd
  · rw [upd_ne ne] at nd
    have z : upd (del (upd (upd (upd H a (exo a C none)) d (exd d [(f, v)])) a (exo a C (some d))) a) d (.xd [(f, v)]) = upd H d (.xd [(f, v)]) := by
      funext b
      by_cases hb : b = d
      · rw [hb, upd_same, upd_same]
      · rw [upd_ne hb, upd_ne hb]
        by_cases ha : b = a
        · rw [ha, del_same, na]
        · rw [del_ne ha, upd_ne ha, upd_ne hb, upd_ne ha]
    rw [z]
    exact q d nd
theorem L_mkO {sp : Sp} {dvs : List V} {Q : XK} (h : ta σ H fun vs H1 => vs.length ≤ 1000 ∧ ∀ a, H1 a = none → sp (.ref a :: (vs ++ dvs)) (upd H1 a (exo a C none))
  (fun v H2 => v = .non ∧ ∃ (d : Addr) (fs : List (Str × V)), H2 a = some (exo a C (some d)) ∧ H2 d = some (exd d fs) ∧ H1 d = none ∧ Q (.ref C) (some d) (upd (del H2 a) d (.xd fs))) (fun _ _ _ => False)) : tMkO C sp dvs ta σ H Q := h
end
/-- isinstance(e, c) in e's own suite, whatever its dict -/
def rIsS (K : PySem.W.Frag) (a : Addr) (cls : Value) (d : Option Addr) : List V → Hp → VK → Prop := fun xs H Q => ∃ (D : Addr) (c : V) (u : Value) (b : Bool), xs = [.ref a, c] ∧ cls = .ref D ∧ (∀ dd, d = some dd → ∃ fs, H dd = some (.xd fs)) ∧ L2.ExcC K D ∧ ClsV c u ∧ PySem.W.kitOne K (.ref D) u = some b ∧ Q (.bl b) H
theorem call_isS {X : Cx} {a : Addr} {cls : Value} {d : Option Addr} {oe : Obj} {pn : List (Addr × Obj)} (hz : Zc cls d oe) (hf : ∃ vs, oe.data = .fields vs) : CallR (X.suite a ((a, oe) :: pn)) (.builtin "isinstance") (rIsS X.K a cls d) := by
  intro pins s σ H xs us Q I r h
  obtain ⟨D, c, u, b, rfl, rfl, hd, C, k, e, q⟩ := h
  obtain ⟨u1, u2, rfl, r1, r2⟩ := vals2 r
  cases r1
  cases k.eq r2
  obtain ⟨there, _⟩ := I.pin (a, oe) (List.mem_append_left _ List.mem_cons_self)
  obtain ⟨vs, data⟩ := hf
  have J : ∃ od, PySem.W.InstAt s.heap a oe D od := by
    have nc : PySem.W.notCls oe = true := by unfold PySem.W.notCls; rw [data] <;> rfl
    cases d with
    | none => exact ⟨none, there, hz.1, nc, by rw [hz.2]; exact True.intro⟩
    | some dd =>
      obtain ⟨fs, hdd⟩ := hd dd rfl
      obtain ⟨mA, ⟨o, es, ep, ho, _⟩, _⟩ := (show ObjOk X.prog X.w H s.heap dd (.xd fs) from I.hok dd _ hdd)
      exact ⟨some o, there, hz.1, nc, by rw [hz.2]; exact ho⟩
  obtain ⟨od, J⟩ := J
  obtain ⟨cd, hcd, _⟩ := PySem.W.any_some C.hd
  exact PySem.W.kia_one (PySem.W.kitx_exc (show (PySem.W.clsIn _ D).isSome = true by rw [hcd]; rfl) C.hg C.hk C.hs C.ha C.hn C.ht C.hm) I.kIn J e (fun z => nomatch z) fun tk => ⟨.bl b, H, I.tok tk, rfl, q⟩
theorem L_isS {K : PySem.W.Frag} {H : Hp} {Q : VK} {a D : Addr} {d : Option Addr} {c : V} {u : Value} {b : Bool} (hd : ∀ dd, d = some dd → ∃ fs, H dd = some (.xd fs)) (C : L2.ExcC K D) (k : ClsV c u) (e : PySem.W.kitOne K (.ref D) u = some b) (q : Q (.bl b) H) : rIsS K a (.ref D) d [.ref a, c] H Q := ⟨D, c, u, b, rfl, rfl, hd, C, k, e, q⟩
/-- the same, of some classes -/
def rIsST (K : PySem.W.Frag) (a : Addr) (cls : Value) (d : Option Addr) : List V → Hp → VK → Prop := fun xs H Q => ∃ (D tp : Addr) (cs : List V) (ws : List Value) (b : Bool), xs = [.ref a, .ref tp] ∧ cls = .ref D ∧ (∀ dd, d = some dd → ∃ fs, H dd = some (.xd fs)) ∧ L2.ExcC K D ∧ H tp = some (.tup cs) ∧ Paired ClsV cs ws ∧ PySem.W.kitAny K (.ref D) ws = some b ∧ Q (.bl b) H
theorem call_isST {X : Cx} {a : Addr} {cls : Value} {d : Option Addr} {oe : Obj} {pn : List (Addr × Obj)} (hz : Zc cls d oe) (hf : ∃ vs, oe.data = .fields vs) : CallR (X.suite a ((a, oe) :: pn)) (.builtin "isinstance") (rIsST X.K a cls d) := by
  intro pins s σ H xs us Q I r h
  obtain ⟨D, tp, cs, ws, b, rfl, rfl, hd, C, hT, k, e, q⟩ := h
  obtain ⟨u1, u2, rfl, r1, r2⟩ := vals2 r
  cases r1
  cases (show u2 = Value.ref tp from r2)
  obtain ⟨there, _⟩ := I.pin (a, oe) (List.mem_append_left _ List.mem_cons_self)
  obtain ⟨vs, data⟩ := hf
  have J : ∃ od, PySem.W.InstAt s.heap a oe D od := by
    have nc : PySem.W.notCls oe = true := by unfold PySem.W.notCls; rw [data] <;> rfl
    cases d with
    | none => exact ⟨none, there, hz.1, nc, by rw [hz.2]; exact True.intro⟩
    | some dd =>
      obtain ⟨fs, hdd⟩ := hd dd rfl
      obtain ⟨mA, ⟨o, es, ep, ho, _⟩, _⟩ := (show ObjOk X.prog X.w H s.heap dd (.xd fs) from I.hok dd _ hdd)
      exact ⟨some o, there, hz.1, nc, by rw [hz.2]; exact ho⟩
  obtain ⟨od, J⟩ := J
  obtain ⟨_, its, rv, o, h1, h2, n, h3⟩ := (show ObjOk X.prog X.w H s.heap tp (.tup cs) from I.hok tp _ hT)
  have e3 := ClsV.all k rv
  subst e3
  obtain ⟨oc, od2, dt, sl⟩ := o
  simp only at h2 h3
  subst h2 h3
  obtain ⟨cd, hcd, _⟩ := PySem.W.any_some C.hd
  exact PySem.W.kia_tup (PySem.W.kitx_exc (show (PySem.W.clsIn _ D).isSome = true by rw [hcd]; rfl) C.hg C.hk C.hs C.ha C.hn C.ht C.hm) I.kIn J h1 e (fun z => nomatch z) fun tk => ⟨.bl b, H, I.tok tk, rfl, q⟩
theorem L_isST {K : PySem.W.Frag} {H : Hp} {Q : VK} {a D tp : Addr} {d : Option Addr} {cs : List V} {ws : List Value} {b : Bool} (hd : ∀ dd, d = some dd → ∃ fs, H dd = some (.xd fs)) (C : L2.ExcC K D) (hT : H tp = some (.tup cs)) (k : Paired ClsV cs ws) (e : PySem.W.kitAny K (.ref D) ws = some b) (q : Q (.bl b) H) : rIsST K a (.ref D) d [.ref a, .ref tp] H Q := ⟨D, tp, cs, ws, b, rfl, rfl, hd, C, hT, k, e, q⟩
/-- one of two derivations -/
def tOrE (t1 t2 : TE) : TE := fun σ H Q => t1 σ H Q ∨ t2 σ H Q
theorem PE.or {X : Cx} {e : Expr} {t1 t2 : TE} (h1 : PE X e t1) (h2 : PE X e t2) : PE X e (tOrE t1 t2) :=
  ⟨fun pins s σ H Q I h => h.elim (fun h => h1.run pins s σ H Q I h) (fun h => h2.run pins s σ H Q I h)⟩
/-- what isinstance asks of an instance's own class; of the class it is asked of -/
structure InsC (K : PySem.W.Frag) (C : Addr) : Prop where
  ha : PySem.W.findIn K (.ref C) "__class__" = some (some (.builtin "object.__class__"))
  hn : PySem.W.specialIn K (.builtin "object.__class__") "__get__" = some (some (.builtin "getset_descriptor.__get__"))
  ht : PySem.W.takesIn K (.builtin "object.__class__") = some true
  hm : PySem.W.mroIn K C (.type "object") = some true
structure ClsT (K : PySem.W.Frag) (C : Addr) : Prop where
  i : PySem.W.isClsIn K C = true
  t : PySem.W.typeIn K (.ref C) = some (.type "type")
theorem tyx_I {K : PySem.W.Frag} {H : Hp} {a C dx : Addr} {fs : List (Str × V)} (h : H a = some (.ins C dx fs)) (cl : Cls K C) (c : InsC K C) : TyX K H (.ref a) (.ref C) := .base (.ins h cl c.ha c.hn c.ht c.hm)
theorem kit_own {K : PySem.W.Frag} {C D : Addr} {b : Bool} (hD : PySem.W.subIn K (.ref D) (.ref D) = some true) (k : ClsT K C) (h : PySem.W.subIn K (.ref D) (.ref C) = some b) : PySem.W.kitOne K (.ref D) (.ref C) = some b := by
  unfold PySem.W.kitOne
  by_cases e : D = C
  · subst e
    rw [hD] at h
    cases h
    rw [if_pos (by simp)]
  · rw [if_neg (by simpa using e)]
    have h2 : (PySem.W.clsIn K C).isSome = true := k.i
    show (if ((PySem.W.clsIn K C).isSome && PySem.W.typeIn K (.ref C) == some (.type "type")) = true then PySem.W.subIn K (.ref D) (.ref C) else none) = some b
    rw [if_pos (by rw [h2, k.t]; rfl)]
    exact h
theorem kit_not {K : PySem.W.Frag} {T : String} {C : Addr} {b : Bool} (k : ClsT K C) (h : PySem.W.subIn K (.type T) (.ref C) = some b) : PySem.W.kitOne K (.type T) (.ref C) = some b := by
  unfold PySem.W.kitOne
  rw [if_neg (by simp)]
  have h2 : (PySem.W.clsIn K C).isSome = true := k.i
  show (if ((PySem.W.clsIn K C).isSome && PySem.W.typeIn K (.ref C) == some (.type "type")) = true then PySem.W.subIn K (.type T) (.ref C) else none) = some b
  rw [if_pos (by rw [h2, k.t]; rfl)]
  exact h
theorem L_orl {t1 t2 : TE} {σ : L2.St} {H : Hp} {Q : VK} (h : t1 σ H Q) : tOrE t1 t2 σ H Q := .inl h
theorem L_orr {t1 t2 : TE} {σ : L2.St} {H : Hp} {Q : VK} (h : t2 σ H Q) : tOrE t1 t2 σ H Q := .inr h
theorem L_xf {a C : Addr} {cls : Value} {d : Option Addr} {f : Str} {te : TE} {σ : L2.St} {H : Hp} {Q : VK} (h : te σ H fun x H1 => x = .ref a ∧ cls = .ref C ∧ ∃ (dd : Addr) (fs : List (Str × V)) (v : V), d = some dd ∧ H1 dd = some (.xd fs) ∧ fs.lookup f = some v ∧ Q v H1) : tXf a cls d C f te σ H Q := h
theorem ExcC.xf {K : PySem.W.Frag} {C : Addr} (c : L2.ExcC K C) : XfC K C := ⟨c.hg, c.hk, c.hs, c.hd⟩
theorem L_isC {K : PySem.W.Frag} {H : Hp} {Q : VK} {x : V} {T : Value} {C : Addr} {b : Bool} (ty : TyX K H x T) (e : PySem.W.kitOne K T (.ref C) = some b) (q : Q (.bl b) H) : rIsi K [x, .ref C] H Q := ⟨x, .ref C, T, .ref C, b, rfl, .own C, ty, e, q⟩
theorem L_str1 {H : Hp} {Q : VK} {t : Int} (h : 0 ≤ t ∧ t ≤ 1000) (q : Q (.str (toString t)) H) : aStr1 [.int t] H Q := ⟨t, rfl, by have := Nat.log2_le_self t.natAbs; omega, q⟩
theorem str_short : ∀ t : Int, 0 ≤ t → t ≤ 100 → (↑(toString t) : Str).length ≤ 3 := by
  have h : ∀ n ∈ List.range 101, (↑(toString ((n : Nat) : Int)) : Str).length ≤ 3 := by decide +kernel
  intro t h0 h1
  have := h t.toNat (List.mem_range.mpr (by omega))
  rwa [Int.toNat_of_nonneg h0] at this

/-! ### exceptions held as values -/
/-- at a: an exception of the own class D, not raised; fs: its own fields -/
def XVal (H : Hp) (a D : Addr) (fs : List (Str × V)) : Prop := (fs = [] ∧ H a = some (ExI (.ref D) none a)) ∨ ∃ d, H a = some (exo a D (some d)) ∧ H d = some (exd d fs)
theorem XVal.same {H H' : Hp} {a D : Addr} {fs : List (Str × V)} (h : XVal H a D fs) (s : Same H H') : XVal H' a D fs := by
  rcases h with ⟨h1, h2⟩ | ⟨d, h1, h2⟩
  · exact .inl ⟨h1, s _ _ h2⟩
  · exact .inr ⟨d, s _ _ h1, s _ _ h2⟩
theorem xval_inst {X : Cx} {pins : List (Addr × Obj)} {σ : L2.St} {H : Hp} {s : Shared} {a D : Addr} {fs : List (Str × V)} (I : Inv X pins σ H s) (h : XVal H a D fs) : ∃ oe od, PySem.W.InstAt s.heap a oe D od := by
  rcases h with ⟨_, h⟩ | ⟨d, h1, h2⟩
  · obtain ⟨oe, J⟩ := exI_at I h
    exact ⟨oe, none, J⟩
  · obtain ⟨t1, ho⟩ := exo_at I.hok h1
    obtain ⟨mA, ⟨o, _, _, hd, _⟩, _⟩ := exd_at I.hok h2
    exact ⟨_, some o, ho, rfl, rfl, hd⟩
def rIsV (K : PySem.W.Frag) : List V → Hp → VK → Prop := fun xs H Q => ∃ (a D : Addr) (fs : List (Str × V)) (c : V) (u : Value) (b : Bool), xs = [.ref a, c] ∧ XVal H a D fs ∧ L2.ExcC K D ∧ ClsV c u ∧ PySem.W.kitOne K (.ref D) u = some b ∧ Q (.bl b) H
theorem call_isV {X : Cx} : CallR X (.builtin "isinstance") (rIsV X.K) := by
  intro pins s σ H xs us Q I r h
  obtain ⟨a, D, fs, c, u, b, rfl, hx, C, k, e, q⟩ := h
  obtain ⟨u1, u2, rfl, r1, r2⟩ := vals2 r
  cases r1
  cases k.eq r2
  obtain ⟨oe, od, J⟩ := xval_inst I hx
  obtain ⟨cd, hcd, _⟩ := PySem.W.any_some C.hd
  exact PySem.W.kia_one (PySem.W.kitx_exc (show (PySem.W.clsIn _ D).isSome = true by rw [hcd]; rfl) C.hg C.hk C.hs C.ha C.hn C.ht C.hm) I.kIn J e (fun z => nomatch z) fun tk => ⟨.bl b, H, I.tok tk, rfl, q⟩
theorem L_isV {K : PySem.W.Frag} {H : Hp} {Q : VK} {a D : Addr} {fs : List (Str × V)} {c : V} {u : Value} {b : Bool} (h : XVal H a D fs) (C : L2.ExcC K D) (k : ClsV c u) (e : PySem.W.kitOne K (.ref D) u = some b) (q : Q (.bl b) H) : rIsV K [.ref a, c] H Q := ⟨a, D, fs, c, u, b, rfl, h, C, k, e, q⟩
/-- e.f, e such a value -/
def tXv (K : PySem.W.Frag) (f : Str) (te : TE) : TE := fun σ H Q => te σ H fun x H1 => ∃ (a D d : Addr) (fs : List (Str × V)) (v : V), x = .ref a ∧ L2.ExcC K D ∧ PySem.W.findIn K (.ref D) f = some none ∧ H1 a = some (exo a D (some d)) ∧ H1 d = some (exd d fs) ∧ fs.lookup f = some v ∧ Q v H1
theorem L_xv {K : PySem.W.Frag} {f : Str} {te : TE} {σ : L2.St} {H : Hp} {Q : VK} (h : te σ H fun x H1 => ∃ (a D d : Addr) (fs : List (Str × V)) (v : V), x = .ref a ∧ L2.ExcC K D ∧ PySem.W.findIn K (.ref D) f = some none ∧ H1 a = some (exo a D (some d)) ∧ H1 d = some (exd d fs) ∧ fs.lookup f = some v ∧ Q v H1) : tXv K f te σ H Q := h
theorem pe_xv {X : Cx} {e : Expr} {te : TE} {f : Str} {pos : Pos} (he : PE X e te) (hb : attributeBase e f X.env (eval e X.env) = eval e X.env := by rfl) : PE X (.Attribute e f pos) (tXv X.K f te) := by
  constructor
  intro pins s σ H Q I h
  refine attr_of hb (thn (he.run pins s σ H _ I h) fun u s1 ⟨x, H1, I1, rx, a, D, d, fs, v, ex, C, nf, h1, h2, l, q⟩ => ?_)
  subst ex
  cases rx
  obtain ⟨t1, ho⟩ := exo_at I1.hok h1
  obtain ⟨mA, hns, rel⟩ := exd_at I1.hok h2
  obtain ⟨od, hod, hlk⟩ := lookIn_ns hns
  obtain ⟨w, hw, rw'⟩ := RelO.some_of (v := v) (o := mA f) (by rw [← l]; exact rel f)
  have J : PySem.W.InstAt s1.heap a _ D (some od) := ⟨ho, rfl, rfl, hod⟩
  exact HandSPX.exc_get I1.kIn J C.hg C.hk C.hs (PySem.W.findObj_own C.hd nf rfl (by rw [hlk, hw])) (handed_of rw') ⟨v, H1, I1.tok _, rw', q⟩
/-- C(), C without an own __init__ -/
def tMk0V (C : Addr) : TE := fun _ H Q => ∀ a, H a = none → Q (.ref a) (upd H a (ExI (.ref C) none a))
theorem pe_mk0V {X : Cx} {C : Addr} {x : Str} {p pos : Pos} (c : ExcAt X.K C) (gC : X.mg x = some (.ref C)) (hg : Gl X x) (hdb : (x == ("__debug__" : Str)) = false := by decide) : PE X (.Call (.Name x p) [] [] pos) (tMk0V C) := by
  constructor
  intro pins s σ H Q I h
  refine wpAny_Call_Name_kw (ld_glob I hg gC ?_ hdb)
  refine PySem.W.callWith_K0 I.kIn c.k ?_
  obtain ⟨bm, N, nm, qn, bs, hdct, sn, sub, ab, col, dd, k0, k1, k2, k3, k5, mN, hC, hN, hni, T⟩ := exc_obj I.kIn c.x
  refine wpAny_call_exc_subT PySem.F.excBase_ValueError T hC hN hni (fun h' a hm => ?_) (Nat.zero_le _)
  have na : H a = none := I.hok.gone hm.new
  obtain ⟨t, at_, _, _⟩ := hm.there
  refine ⟨.ref a, _, I.laidN (o := ExI (.ref C) none a) hm.keeps hm.new na ⟨⟨_, _, at_, ⟨rfl, rfl⟩, rfl⟩, ⟨_, at_⟩, fun _ _ ⟨o1, v1, z, r⟩ k => ⟨o1, v1, k o1 z, r⟩⟩, rfl, h a na⟩
/-- C(..), C with an own __init__ -/
def tMkV (C : Addr) (sp : Sp) (ta : TA) : TE := fun σ H Q => ta σ H fun vs H1 => vs.length ≤ 1000 ∧ ∀ a, H1 a = none → sp (.ref a :: vs) (upd H1 a (exo a C none)) (fun v H2 => v = .non ∧ Q (.ref a) H2) E0
theorem L_mkV {C : Addr} {sp : Sp} {ta : TA} {σ : L2.St} {H : Hp} {Q : VK} (h : ta σ H fun vs H1 => vs.length ≤ 1000 ∧ ∀ a, H1 a = none → sp (.ref a :: vs) (upd H1 a (exo a C none)) (fun v H2 => v = .non ∧ Q (.ref a) H2) E0) : tMkV C sp ta σ H Q := h
theorem L_mk0V {C : Addr} {σ : L2.St} {H : Hp} {Q : VK} (h : ∀ a, H a = none → Q (.ref a) (upd H a (ExI (.ref C) none a))) : tMk0V C σ H Q := h
theorem pe_mkV {X : Cx} {k j : Nat} {C : Addr} {x : Str} {sp : Sp} {p pos : Pos} {e : Expr} {es : List Expr} {ta : TA} (c : XMak X.prog X.w X.K X.mg X.base k x C sp) (T : OexC X.K C) (hr : Room j X.A) (hk : k + 1 ≤ j) (hg : Gl X x) (ha : PA X (e :: es) ta)
    (hdb : (x == ("__debug__" : Str)) = false := by decide) (he : starEach (e :: es) X.env = (false, eval e X.env) :: starEach es X.env := by rfl) (hpl : (backTo pos (starEach es X.env)).any (·.1) = false := by rfl) :
    PE X (.Call (.Name x p) (e :: es) [] pos) (tMkV C sp ta) := by
  obtain ⟨f, fd, ps, F, iC, tI, hm, hb⟩ := c.ex
  have room := hr.mono hk
  obtain ⟨nm, q, N, bs, bm, sn, sub, ab, col, dd, k0, k1, k2, k3, k5, hC, hbm⟩ := T.cls
  constructor
  intro pins s σ H Q I h
  refine wpAny_Call_Name_kw (ld_glob I hg hm ?_ hdb)
  refine PySem.W.callWith_K (h₀ := X.base) I.ok.mod.kin T.kC (thn (ha.run pos pins s σ H _ I h) fun us s1 ⟨vs, H1, I1, r1, hz, q1⟩ => ⟨I1.kIn, ?_⟩) he hpl
  show wpAny _ _ (call (.ref C) us) _ _ _
  have r1 : Vals vs us := r1
  have few : us.length ≤ sizeLine := by
    have z1 := Paired.length r1
    have z2 := sizeLine_eq
    omega
  obtain ⟨hp, g, dr, tk, os⟩ := s1
  -- the arguments' tuple and the exception's own place
  have old : ∀ b o, hp.get? b = some o → ((hp.push (PySem.W.kdv_tup us)).push (PySem.HandSPX.excO C hp.objs.size)).get? b = some o := fun b o z => Heap.get?_push_of_some _ (Heap.get?_push_of_some _ z)
  have here : ((hp.push (PySem.W.kdv_tup us)).push (PySem.HandSPX.excO C hp.objs.size)).get? (hp.objs.size + 1) = some (PySem.HandSPX.excO C hp.objs.size) := by heap_get
  have free : H1 (hp.objs.size + 1) = none := I1.hok.fresh (Nat.le_succ _)
  have J : Inv X pins σ (upd H1 (hp.objs.size + 1) (exo (hp.objs.size + 1) C none)) ⟨(hp.push (PySem.W.kdv_tup us)).push (PySem.HandSPX.excO C hp.objs.size), g, dr, tk, os⟩ :=
    I1.laid (t' := tk) old (Nat.le_succ _) (exo_ok here)
  have asked := q1 _ free
  have args : Vals (V.ref (hp.objs.size + 1) :: vs) (Value.ref (hp.objs.size + 1) :: us) := .cons rfl r1
  have many : (Value.ref (hp.objs.size + 1) :: us).length = ps.length := args.length.symm.trans (F.len _ _ _ _ asked)
  have bound := hb _ (Value.ref (hp.objs.size + 1) :: us) J.kIn (by rw [List.append_nil]; exact many)
  rw [List.append_nil] at bound
  refine wpAny_call (PySem.HandSPX.call_own PySem.F.excBase_ValueError (fun Y => PySem.HandSPX.refsVE_contains Y bm hbm) (I1.kIn _ _ hC) (PySem.W.looks_findIn I1.kIn iC) (fun self => PySem.W.bind_fn I1.kIn self tI) few ?_)
  refine codeAny_mono (F.run _ X.stack _ _ ⟨_, []⟩ _ _ _ E0 (room.make C us []) (J.env0.make C us []) bound args asked) fun out s' ho => ?_
  match out, ho with
  | .error e, ho => exact pass0 pins σ _ _ e s' J ho
  | .ok (.ret u), ho =>
    obtain ⟨v, H', J', rel, hv, rest⟩ := J.after ho
    cases hv
    exact ⟨rel, .ref (hp.objs.size + 1), H', J', rfl, rest⟩
  | .ok .next, ho => exact ho.elim
  | .ok .brk, ho => exact ho.elim
  | .ok .cont, ho => exact ho.elim
theorem L_dsetd {td ty tx : TE} {σ : L2.St} {H : Hp} {Q : VK} (h : td σ H fun x H1 => ∃ a, x = .ref a ∧ IsD H1 a ∧ ty σ H1 fun y H2 => tx σ H2 fun z H3 => ∃ (kvs : List (Key × V)) (k : Key), H3 a = some (.dK kvs) ∧ y = kV k ∧ kvs.length < sizeLine ∧
  (∀ v, valV kvs k = some v → Q v H3) ∧ (valV kvs k = none → Q z (upd H3 a (.dK (putK kvs k z))))) : tDSetd td ty tx σ H Q := h
/-! ### the tuples of a heap; fields changed by += -/
noncomputable def tp (H : Hp) : Hp := rs (fun b => ∃ xs, H b = some (.tup xs)) H
theorem tp_same {H H' : Hp} (h : ∀ b xs, H b = some (.tup xs) → H' b = some (.tup xs)) : Same (tp H) (tp H') := rs_same fun b o ⟨xs, e⟩ z => ⟨⟨xs, h b xs e⟩, by rw [e] at z; cases z; exact h b xs e⟩
theorem tp_upd {H : Hp} {a : Addr} {o : HO} (h : ∀ xs, H a ≠ some (.tup xs)) : Same (tp H) (tp (upd H a o)) := tp_same fun b xs e => by rw [upd_ne fun z => h xs (by rw [← z]; exact e)]; exact e
theorem tp_at {H : Hp} {b : Addr} {xs : List V} (h : H b = some (.tup xs)) : tp H b = some (.tup xs) := rs_at ⟨xs, h⟩ h
theorem tp_of {H H' : Hp} (e : Same H H') : Same (tp H) (tp H') := tp_same fun b xs z => e _ _ z
theorem L_fldaug {K : PySem.W.Frag} {σ : L2.St} {H : Hp} {N B C' : L2.St → Hp → Prop} {R : VK} {f : Str} {ta tv : TE} {rd : V → V → Hp → VK → Prop} (h : ta σ H fun x H1 => ∃ a C dx fs v, x = .ref a ∧ H1 a = some (.ins C dx fs) ∧ Cls K C ∧ NoAttr K C f ∧ fs.lookup f = some v ∧
  tv σ H1 fun y H2 => rd v y H2 fun z H3 => ∃ dx' fs', H3 a = some (.ins C dx' fs') ∧ fs'.length < 1000 ∧ N σ (upd H3 a (.ins C dx' (putF f z fs')))) : sFldAug K ta tv rd f ⟨N, R, B, C'⟩ σ H := h
theorem L_rAdd {H : Hp} {Q : VK} {i j : Int} (h : Q (.int (i + j)) H) : rAdd (.int i) (.int j) H Q := ⟨i, j, rfl, rfl, h⟩
theorem fm_flt {α β : Type} (c : α → Bool) (g : α → β) : ∀ l : List α, (List.range l.length).filterMap (fun i => (l[i]?).bind fun x => if c x = true then some (g x) else none) = (l.filter c).map g
  | [] => rfl
  | a :: l => by
    have ih := fm_flt c g l
    rw [List.length_cons, List.range_succ_eq_map]
    simp only [List.filterMap_cons, List.getElem?_cons_zero, Option.bind_some, List.filterMap_map, Function.comp_def, List.getElem?_cons_succ]
    rw [ih]
    cases h : c a
    · rw [List.filter_cons_of_neg (by simp [h])]; simp
    · rw [List.filter_cons_of_pos h]; simp
/-- t * n, t a text -/
def rRepS : R2 := fun x y H Q => ∃ (z : Str) (k : Int), x = .str z ∧ y = .int k ∧ MulOk z k ∧ Q (.str (Txt.mul z k)) H
theorem op_repS {X : Cx} : OpR X (binaryOp .Mult) rRepS := by
  intro pins s σ H x y v u Q I rx ry h
  obtain ⟨z, k, rfl, rfl, hz, q⟩ := h
  obtain ⟨t, rfl⟩ := rx
  obtain ⟨t', rfl⟩ := ry
  exact SB.mul hz fun t' tk => ⟨.str (Txt.mul z k), H, I.tok _, ⟨_, rfl⟩, q⟩
theorem L_repS0 {H : Hp} {Q : VK} {z : Str} {k : Int} (h : k = 0) (q : Q (.str Str.empty) H) : rRepS (.str z) (.int k) H Q := by
  subst h
  exact ⟨z, 0, rfl, rfl, ⟨by decide, fun h => absurd (by decide) h, fun h => absurd (by decide) h⟩, q⟩
theorem sqT_upd {K : PySem.W.Frag} {H : Hp} {p a : Addr} {us xs : List V} {o : HO} (hp : H p = some (.lst us)) (h : SqT K H a xs) : SqT K (upd H p o) a xs := by
  rcases h with (h | ⟨o', h⟩) | h
  · exact .inl (.inl (by rw [upd_ne fun z => by rw [z, hp] at h; cases h]; exact h))
  · exact .inl (.inr ⟨o', by rw [upd_ne fun z => by rw [z, hp] at h; cases h]; exact h⟩)
  · exact .inr h
theorem rep_map {α : Type} (f : α → V) (xs : List α) (n : Nat) : (List.replicate n (xs.map f)).flatten = ((List.replicate n xs).flatten).map f := by
  induction n with
  | zero => rfl
  | succ n ih => rw [List.replicate_succ, List.flatten_cons, List.replicate_succ, List.flatten_cons, List.map_append, ih]
theorem cutG_both {α : Type} (xs : List α) {a b : Nat} (h1 : a ≤ b) (h2 : b ≤ xs.length) : cutG xs (some (a : Int)) (some (b : Int)) = (xs.drop a).take (b - a) := by
  unfold cutG
  rw [HT.sIx_nat, HT.sIx_nat, Nat.min_eq_left h2, Nat.min_eq_left (Nat.le_trans h1 h2)]
/-! ### looks at a question's form, ahead of steps that show something -/
section
variable {K : PySem.W.Frag} {σ : L2.St} {H : Hp} {Q : VK} {x y v : V}
theorem G_mul (h : aMul x y H Q) : aMul x y H Q := h
theorem G_mod {g : Int → Int → V} (h : rI (fun _ j => 0 < j) g x y H Q) : rI (fun _ j => 0 < j) g x y H Q := h
theorem G_div {g : Int → Int → V} (h : rI CDivW g x y H Q) : rI CDivW g x y H Q := h
theorem G_pow {g : Int → Int → V} (h : rI CPow g x y H Q) : rI CPow g x y H Q := h
theorem G_ix {p : Addr} {i : Int} (h : rIx K (.ref p) (.int i) H Q) : rIx K (.ref p) (.int i) H Q := h
theorem G_len {p : Addr} (h : aLen K [.ref p] H Q) : aLen K [.ref p] H Q := h
theorem G_meth {a : Addr} {C : Addr} {m : Str} {R : Addr → Addr → List (Str × V) → Prop} (h : ∃ a' dx fs, V.ref a = V.ref a' ∧ H a' = some (.ins C dx fs) ∧ fs.lookup m = none ∧ R a' dx fs) : ∃ a' dx fs, V.ref a = V.ref a' ∧ H a' = some (.ins C dx fs) ∧ fs.lookup m = none ∧ R a' dx fs := h
theorem G_isi {i : Int} {n : String} (h : rIsi K [.int i, .ty n] H Q) : rIsi K [.int i, .ty n] H Q := h
theorem G_d {p : Prop} [Decidable p] {A B : Prop} (h : if decide p = true then A else B) : if decide p = true then A else B := h
theorem G_nd {p : Prop} [Decidable p] {A B : Prop} (h : if (!decide p) = true then A else B) : if (!decide p) = true then A else B := h
theorem G_gn {i : Nat} {N : L2.St → Hp → Prop} (h : gName i v σ H N) : gName i v σ H N := h
end
theorem inV_strs (n : Str) : ∀ ns : List Str, inV (.str n) (ns.map V.str) = decide (n ∈ ns)
  | [] => by simp [inV]
  | k :: ns => by
    have ih := inV_strs n ns
    unfold inV at ih ⊢
    rw [List.map_cons, List.any_cons, ih]
    by_cases e : n = k
    · subst e
      simp [eqV]
    · have e' : ¬ k = n := fun z => e z.symm
      simp [eqV, e, e']
theorem flat_strs : ∀ ns : List Str, (ns.map V.str).all flatV = true
  | [] => rfl
  | _ :: ns => by rw [List.map_cons, List.all_cons, flat_strs ns]; rfl
section
variable {K : PySem.W.Frag} {H : Hp} {Q : VK} {p : Addr} {z : Str} {ns : List Str}
theorem L_notInSs (h : SqL K H p (ns.map V.str)) (q : Q (.bl (!decide (z ∈ ns))) H) : aNotIn K (.str z) (.ref p) H Q := .inr ⟨p, _, rfl, .inl h, rfl, flat_strs _, by rw [if_pos rfl, inV_strs]; exact q⟩
theorem L_inSs (h : SqL K H p (ns.map V.str)) (q : Q (.bl (decide (z ∈ ns))) H) : aIn K (.str z) (.ref p) H Q := .inr ⟨p, _, rfl, .inl h, rfl, flat_strs _, by rw [if_neg (by decide), inV_strs]; exact q⟩
end
/-! ### dicts: in, not in, d[k] = v -/
section
variable {K : PySem.W.Frag} {σ : L2.St} {H : Hp} {Q : VK} {ty td tv : TE} {y v : V} {a : Addr} {k : Key} {kvs : List (Key × V)}
theorem L_din (h : ty σ H fun y H1 => td σ H1 fun x H2 => ∃ a o, x = .ref a ∧ DGet H2 a y o ∧ Q (.bl o.isSome) H2) : tDIn ty td σ H Q := h
theorem L_dnin (h : ty σ H fun y H1 => td σ H1 fun x H2 => ∃ a o, x = .ref a ∧ DGet H2 a y o ∧ Q (.bl (!o.isSome)) H2) : tDNotIn ty td σ H Q := h
theorem L_dget (h : td σ H fun x H1 => ty σ H1 fun y H2 => ∃ a v, x = .ref a ∧ DGet H2 a y (some v) ∧ Q v H2) : tDGet td ty σ H Q := h
theorem L_dinv {R : Option V → Prop} (e : y = kV k) (h : H a = some (.dK kvs)) (q : R (valV kvs k)) : ∃ a' o, V.ref a = .ref a' ∧ DGet H a' y o ∧ R o := ⟨a, _, rfl, by rw [e]; exact DGet.k h, q⟩
theorem L_dgetv {R : V → Prop} (e : y = kV k) (h : H a = some (.dK kvs)) (hv : valV kvs k = some v) (q : R v) : ∃ a' v, V.ref a = .ref a' ∧ DGet H a' y (some v) ∧ R v := ⟨a, v, rfl, by rw [e, ← hv]; exact DGet.k h, q⟩
theorem L_dput {N B C : L2.St → Hp → Prop} {R : VK} (h : tv σ H fun v H1 => td σ H1 fun x H2 => ty σ H2 fun y H3 => ∃ a H4, x = .ref a ∧ DPut H3 a y v H4 ∧ N σ H4) : sDPut td ty tv ⟨N, R, B, C⟩ σ H := h
theorem L_dputv {R : Hp → Prop} (e : y = kV k) (h : H a = some (.dK kvs)) (hl : kvs.length < 1000000) (q : R (upd H a (.dK (putK kvs k v)))) : ∃ a' H4, V.ref a = .ref a' ∧ DPut H a' y v H4 ∧ R H4 := ⟨a, _, rfl, by rw [e]; exact DPut.k h (sz_lt hl), q⟩
end
theorem putK_len {kvs : List (Key × V)} {k : Key} {v : V} : (putK kvs k v).length ≤ kvs.length + 1 := by
  unfold putK
  split
  · rw [List.length_map]; omega
  · rw [List.length_append, List.length_singleton]; omega
/-! ### a comprehension of new pairs of ints -/
def T2 (H : Hp) (v : V) (p : Int × Int) : Prop := ∃ t, v = .ref t ∧ H t = some (.tup [.int p.1, .int p.2])
theorem paired_imp2 {α β : Type} {F G : α → β → Prop} (h : ∀ a b, F a b → G a b) : ∀ {xs : List α} {ys : List β}, Paired F xs ys → Paired G xs ys
  | [], _, p => by cases p; exact .nil
  | x :: xs, _, p => by cases p with | cons h1 h2 => exact .cons (h _ _ h1) (paired_imp2 h h2)
theorem paired_app {α β : Type} {F : α → β → Prop} : ∀ {xs us : List α} {ys ws : List β}, Paired F xs ys → Paired F us ws → Paired F (xs ++ us) (ys ++ ws)
  | [], _, _, _, p, q => by cases p; exact q
  | x :: xs, _, _, _, p, q => by cases p with | cons h1 h2 => exact .cons h1 (paired_app h2 q)
section
variable {σ : L2.St} {H : Hp} {g : TG} {tt : TT} {te : TE}
theorem lc_pr {J : It} {n : Nat} {G : Hp → Prop} {Y : Nat → Hp → V → Hp → Prop} (w : L2.Walk J n G Y) {vs : List Nat} {Qd : Addr → Hp → Prop} (f : Nat → Option (Int × Int)) (hn : n ≤ 1000000) (hG : ∀ H', Same H H' → G H')
    (hs : ∀ i x H2 H' (R : V → Hp → Prop) (R' : Hp → Prop), i < n → Same H H2 → Y i H2 x H' → (∀ t p H4, f i = some p → Same H2 H4 → H4 t = some (.tup [.int p.1, .int p.2]) → R (.ref t) H4) → (∀ H3, f i = none → Same H2 H3 → R' H3) →
      g x (wipe σ vs) H' fun σ2 H2 => wipe σ2 vs = wipe σ vs ∧ tt σ2 H2 fun b H3 => if b = true then te σ2 H3 R else R' H3)
    (q : ∀ p H' vs, H p = none → Same H H' → H' p = some (.lst vs) → Paired (T2 H') vs ((List.range n).filterMap f) → Qd p H') :
    ∀ D, H D = none → ∃ W : Nat → Nat → Hp → Prop, (∃ m, W 0 m (upd H D (.lst []))) ∧ ∀ i m H, W i m H →
      (J.stop i H ∧ Qd D H) ∨ (J.go i H ∧ ∃ Nx : Hp → Prop, (∀ H', Nx H' → ∃ m', m' < m ∧ W (i + 1) m' H') ∧ ∀ x H', J.yld i H x H' → g x (wipe σ vs) H' fun σ2 H2 => wipe σ2 vs = wipe σ vs ∧ tt σ2 H2 fun b H3 =>
        if b = true then te σ2 H3 fun y H4 => ∃ acc, H4 D = some (.lst acc) ∧ acc.length < sizeLine ∧ Nx (upd H4 D (.lst (acc ++ [y]))) else Nx H3) := by
  intro D hD
  refine lc_it w (fun i H2 => Same H H2 ∧ ∃ us, H2 D = some (.lst us) ∧ Paired (T2 H2) us ((List.range i).filterMap f)) ⟨same_new hD, [], upd_same, .nil⟩ (fun i H2 _ p => hG H2 p.1) ?_ (fun H2 ⟨p1, us, p2, p3⟩ => q D H2 us hD p1 p2 p3)
  rintro i x H2 H' hi ⟨p1, us, p2, p3⟩ y
  refine hs i x H2 H' _ _ hi p1 y (fun t d H4 e s et => ?_) (fun H3 e s => ?_)
  · have e4 := s _ _ p2
    have ne : ∀ t o, H4 t = some o → (∀ l, o ≠ .lst l) → t ≠ D := fun t o h h' z => by rw [z, e4] at h; injection h with h; exact h' _ h.symm
    refine ⟨us, e4, sz_lt (by have := Paired.length p3; have := fm_len' f i; omega), same_mut (p1.trans s) hD, _, upd_same, ?_⟩
    rw [fm_succ', e]
    have up : ∀ v p, T2 H4 v p → T2 (upd H4 D (.lst (us ++ [.ref t]))) v p := fun v p h => by
      obtain ⟨t', h1, h2⟩ := h
      exact ⟨t', h1, by rw [upd_ne (ne t' _ h2 (fun _ z => by cases z))]; exact h2⟩
    exact paired_app (paired_imp2 (fun v p h => up v p (by obtain ⟨t', h1, h2⟩ := h; exact ⟨t', h1, s _ _ h2⟩)) p3) (.cons (up _ _ ⟨t, rfl, et⟩) .nil)
  · refine ⟨p1.trans s, us, s _ _ p2, ?_⟩
    rw [fm_succ', e, List.append_nil]
    exact paired_imp2 (fun v p ⟨t, h1, h2⟩ => ⟨t, h1, s _ _ h2⟩) p3
end
/-! ### methods with defaults -/
structure MethD (K : PySem.W.Frag) (C : Addr) (m qual : Str) (st : Stmt) (ps : List Str) (dvs : List V) : Prop where
  ex : ∃ (f : Addr) (fd : FuncData), FunD K m qual (defArgs st) (defBody st) (defScope st) dvs [] f fd ∧ Meth K C m f ∧ Binds K fd ps [] ∧ ∃ ds, Vals dvs ds ∧ Binds K fd ps ds
theorem binds_full {K : PySem.W.Frag} {fd : FuncData} {ps : List Str} {dvs : List V} {j : Nat} (h : ∃ ds, Vals (dvs.drop j) ds ∧ Binds K fd ps ds) (hj : dvs.length ≤ j := by decide) : Binds K fd ps [] := by
  obtain ⟨ds, r, b⟩ := h
  rw [List.drop_eq_nil_of_le hj] at r
  cases r
  exact b
structure MetXD (P : Program) (w : World) (K : PySem.W.Frag) (mg : Str → Option Value) (base : Heap) (k : Nat) (C : Addr) (m : Str) (sp : Sp) (dvs : List V) : Prop where
  ex : ∃ (f : Addr) (fd : FuncData) (ps : List Str) (ds : List Value), Cls K C ∧ Meth K C m f ∧ FnOk P w K mg base (L2.CX P w) k f fd ps sp ∧ Binds K fd ps [] ∧ Vals dvs ds ∧ Binds K fd ps ds
section
variable {P : Program} {w : World} {K : PySem.W.Frag} {mg : Str → Option Value} {base : Heap}
theorem MethD.metXD {C : Addr} {m qual : Str} {st : Stmt} {N ps : List Str} {k : Nat} {sp : Sp} {dvs : List V} (c : Cls K C) (d : MethD K C m qual st ps dvs) (S : FnScope N ps (defScope st)) (len : ∀ vs H Q E, sp vs H Q E → vs.length = ps.length)
    (hbody : ∀ (f : Addr) (cdv : Value) (A : Around) (outer : List Env) (s : Shared) (H : Hp) (vs : List V) (Q : VK) (E : XK), Room k (A.deeper (envOfC qual (defScope st) s.heap.objs.size f cdv)) → sp vs H Q E →
      ∃ t, PSs (cxOf (L2.CX P w) P w K mg base N qual (defScope st) f cdv A outer s H E) (defBody st) t ∧ t { nx := fun _ H' => Q .non H', rt := Q } (start N vs) H) : MetXD P w K mg base (k + 1) C m sp dvs := by
  obtain ⟨f, fd, F, hm, b, ds, r, b2⟩ := d.ex
  exact ⟨f, fd, ps, ds, c, hm, F.ok S len (hbody f), b, r, b2⟩
theorem MetXD.m {k : Nat} {C : Addr} {m : Str} {sp : Sp} {dvs : List V} (c : MetXD P w K mg base k C m sp dvs) : MetX P w K mg base k C m sp := by
  obtain ⟨f, fd, ps, ds, hc, hm, F, b, r, b2⟩ := c.ex
  exact ⟨f, fd, ps, hc, hm, F, b⟩
end
def tMethDE (C : Addr) (m : Str) (sp : Sp) (dvs : List V) (E : L2.St → XK) (ta : TE) (t : TA) : TE := fun σ H Q => ta σ H fun x H1 => ∃ a dx fs, x = .ref a ∧ H1 a = some (.ins C dx fs) ∧ fs.lookup m = none ∧ t σ H1 fun vs H2 => sp (x :: vs ++ dvs) H2 Q (E σ)
section
variable {X : Cx} {CX : CXT} {k j : Nat} {f C : Addr} {fd : FuncData} {ps : List Str} {x m : Str} {sp : Sp} {p pos apos : Pos} {e o : Expr} {es : List Expr} {ta : TE} {t : TA} {E : L2.St → XK} {dvs : List V}
theorem L_methD {σ : L2.St} {H : Hp} {Q : VK} (h : ta σ H fun x H1 => ∃ a dx fs, x = .ref a ∧ H1 a = some (.ins C dx fs) ∧ fs.lookup m = none ∧ t σ H1 fun vs H2 => sp (x :: vs ++ dvs) H2 Q (E σ)) : tMethDE C m sp dvs E ta t σ H Q := h
theorem pe_xMtD {pl : Sem Bool} (c : MetXD X.prog X.w X.K X.mg X.base k C m sp dvs) (hr : Room j X.A) (hk : k ≤ j) (hx : ∀ σ, PassesAt (L2.CX X.prog X.w) X σ (E σ)) (he : PE X o ta) (ha : PA X (e :: es) t)
    (hst : starEach (e :: es) X.env = (false, eval e X.env) :: starEach es X.env := by rfl) (hpl : (backTo pos (starEach es X.env)).any (·.1) = false := by rfl)
    (ht : eval (.Call (.Attribute o m apos) (e :: es) [] pos) X.env = (do
      let ov ← eval o X.env
      standAt apos.atName
      let (f, first) ← holding [ov] (getMethod ov m pl)
      callWith pos f first (backTo pos (starEach (e :: es) X.env)) (backToKw pos (keywordEach [] X.env))) := by rfl) :
    PE X (.Call (.Attribute o m apos) (e :: es) [] pos) (tMethDE C m sp dvs E ta t) := by
  obtain ⟨f, fd, ps, ds, hc, hm, F, _, hd, hb⟩ := c.ex
  refine ⟨fun pins s σ H Q I h => ?_⟩
  refine PySem.W.methodCall_KW (pl := pl) (thn (he.run pins s σ H _ I h) fun u s1 ⟨x, H1, I1, rx, a, dx, fs, ex, ea, l, q⟩ => ?_) ht
  subst ex
  obtain rfl : u = Value.ref a := rx
  refine getmeth_ok I1 ea hc hm l ?_
  refine PySem.W.callWith_K (first := [.ref a]) (h₀ := X.base) I.ok.mod.kin hm.kp (thn (ha.run pos pins s1 σ H1 _ I1 q) fun us s2 ⟨vs, H2, I2, r, q2⟩ => ⟨I2.kIn, ?_⟩) hst hpl
  exact run_fnSD (us := .ref a :: us) (vs := .ref a :: vs) F (hr.mono hk) hb hd (hx σ) I2 (.cons rfl r) q2
end
/-! ### dicts with ints as keys -/
def rSortDI : List V → Hp → VK → Prop := fun xs H Q => ∃ (a : Addr) (kvs : List (Key × V)) (ks : List Int), xs = [.ref a] ∧ Rd H a (.dK kvs) ∧ kvs.map (·.1) = ks.map Sum.inl ∧ ks.length < 64 ∧
    ∀ (ys : List Int) (p : Addr), ys.Perm ks → ys.Pairwise (· ≤ ·) → H p = none → Q (.ref p) (upd H p (.lst (ys.map V.int)))
theorem cr_sortDI {X : Cx} (hc : X.calm = true) : CallR X (.builtin "sorted") rSortDI := call_sortedDI hc
/-- the dict kvs is the function g: a key stands where g is not nought -/
def DGr (kvs : List (Key × V)) (g : Int → Int) : Prop := ∃ ks : List Int, kvs.map (·.1) = ks.map Sum.inl ∧ ks.Nodup ∧ (∀ f, f ∈ ks ↔ g f ≠ 0) ∧ ∀ f, g f ≠ 0 → valV kvs (Sum.inl f : Key) = some (.int (g f))
theorem DGr.none {kvs : List (Key × V)} {g : Int → Int} (h : DGr kvs g) {f : Int} (hf : g f = 0) : valV kvs (Sum.inl f : Key) = none := by
  obtain ⟨ks, h1, h2, h3, h4⟩ := h
  cases e : valV kvs (Sum.inl f : Key) with
  | none => rfl
  | some v =>
    obtain ⟨kv, hk, _⟩ := Option.map_eq_some_iff.mp e
    have hm := List.mem_of_find?_eq_some hk
    have he : kv.1 = (Sum.inl f : Key) := of_decide_eq_true (List.find?_some (p := fun kv : Key × V => decide (kv.1 = (Sum.inl f : Key))) hk)
    have : (Sum.inl f : Key) ∈ ks.map Sum.inl := by rw [← h1, ← he]; exact List.mem_map_of_mem hm
    obtain ⟨f', hf', e'⟩ := List.mem_map.mp this
    cases e'
    exact absurd hf ((h3 f).mp hf')
theorem DGr.getD {kvs : List (Key × V)} {g : Int → Int} (h : DGr kvs g) (f : Int) : (valV kvs (Sum.inl f : Key)).getD (.int 0) = .int (g f) := by
  by_cases hf : g f = 0
  · rw [h.none hf, hf]; rfl
  · obtain ⟨ks, h1, h2, h3, h4⟩ := h
    rw [h4 f hf]; rfl
theorem DGr.nil : DGr [] (fun _ => 0) := ⟨[], rfl, .nil, fun f => by simp, fun f h => absurd rfl h⟩
theorem DGr.one {k v : Int} (hv : v ≠ 0) : DGr [(Sum.inl k, .int v)] (fun f => if f = k then v else 0) := ⟨[k], rfl, by simp, fun f => by
  rw [List.mem_singleton]
  by_cases h : f = k
  · simp [h, hv]
  · simp [h], fun f h => by
  by_cases e : f = k
  · subst e; simp [valV]
  · simp [e] at h⟩
theorem DGr.put {kvs : List (Key × V)} {g : Int → Int} (h : DGr kvs g) (k v : Int) (hv : v ≠ 0) : DGr (putK kvs (Sum.inl k) (.int v)) (fun f => if f = k then v else g f) := by
  have hval : ∀ f, (if f = k then v else g f) ≠ 0 → valV (putK kvs (Sum.inl k : Key) (.int v)) (Sum.inl f) = some (.int (if f = k then v else g f)) := fun f hf => by
    rw [L2.valV_put]
    by_cases e : f = k
    · rw [if_pos e, if_pos (by rw [e])]
    · rw [if_neg e] at hf ⊢
      rw [if_neg (fun z => e (Sum.inl.inj z))]
      obtain ⟨ks, h1, h2, h3, h4⟩ := h
      exact h4 f hf
  by_cases hk : g k = 0
  · have hn := h.none hk
    obtain ⟨ks, h1, h2, h3, h4⟩ := h
    have e : putK kvs (Sum.inl k : Key) (.int v) = kvs ++ [(Sum.inl k, .int v)] := L2.putK_new (.int v) hn
    refine ⟨ks ++ [k], by rw [e, List.map_append, List.map_append, h1]; rfl, ?_, fun f => ?_, hval⟩
    · rw [List.nodup_append]
      refine ⟨h2, by simp, fun a ha b hb => ?_⟩
      rw [List.mem_singleton] at hb
      rintro rfl
      subst hb
      exact (h3 _).mp ha hk
    · rw [List.mem_append, List.mem_singleton, h3]
      by_cases e : f = k
      · simp [e, hv]
      · simp [e]
  · obtain ⟨ks, h1, h2, h3, h4⟩ := h
    have hany : (kvs.any fun kv => decide (kv.1 = (Sum.inl k : Key))) = true := by
      rw [List.any_eq_true]
      have : (Sum.inl k : Key) ∈ kvs.map (·.1) := by rw [h1]; exact List.mem_map_of_mem ((h3 k).mpr hk)
      obtain ⟨kv, hm, e⟩ := List.mem_map.mp this
      exact ⟨kv, hm, decide_eq_true e⟩
    refine ⟨ks, ?_, h2, fun f => ?_, hval⟩
    · unfold putK
      rw [if_pos hany, List.map_map, ← h1]
      refine List.map_congr_left fun kv _ => ?_
      show (if kv.1 = Sum.inl k then (kv.1, V.int v) else kv).1 = kv.1
      split <;> rfl
    · rw [h3]
      by_cases e : f = k
      · simp [e, hv, hk]
      · simp [e]
theorem DGr.congr {kvs : List (Key × V)} {g g' : Int → Int} (h : DGr kvs g) (e : ∀ f, g f = g' f) : DGr kvs g' := by
  rw [show g' = g from funext fun f => (e f).symm]; exact h
/-- a rising list of whole numbers from 0 to n - 1 is known by its members -/
def upN (n : Nat) : List Int := (List.range n).map fun i : Nat => (i : Int)
def keysOf (n : Nat) (h : Int → Int) : List Int := (upN n).filter fun f => decide (h f ≠ 0)
theorem upN_mem {n : Nat} {f : Int} : f ∈ upN n ↔ 0 ≤ f ∧ f < n := by
  unfold upN
  rw [List.mem_map]
  constructor
  · rintro ⟨i, hi, rfl⟩
    have := List.mem_range.mp hi
    omega
  · rintro ⟨h0, h1⟩
    exact ⟨f.toNat, List.mem_range.mpr (by omega), by omega⟩
theorem upN_lt (n : Nat) : (upN n).Pairwise (· < ·) := by
  unfold upN
  rw [List.pairwise_map]
  exact List.pairwise_lt_range.imp fun h => by omega
theorem lt_perm : ∀ {l l' : List Int}, l.Pairwise (· < ·) → l'.Pairwise (· < ·) → (∀ x, x ∈ l ↔ x ∈ l') → l = l'
  | [], [], _, _, _ => rfl
  | [], b :: l', _, _, h => absurd ((h b).mpr (List.mem_cons_self ..)) (by simp)
  | a :: l, [], _, _, h => absurd ((h a).mp (List.mem_cons_self ..)) (by simp)
  | a :: l, b :: l', h1, h2, h => by
    rw [List.pairwise_cons] at h1 h2
    have hab : a = b := by
      have ha := (h a).mp (List.mem_cons_self ..)
      have hb := (h b).mpr (List.mem_cons_self ..)
      rcases List.mem_cons.mp ha with e | e
      · exact e
      · rcases List.mem_cons.mp hb with e' | e'
        · exact e'.symm
        · have := h1.1 b e'
          have := h2.1 a e
          omega
    subst hab
    rw [lt_perm h1.2 h2.2 fun x => ?_]
    constructor
    · intro hx
      have := h1.1 x hx
      rcases List.mem_cons.mp ((h x).mp (List.mem_cons_of_mem _ hx)) with e | e
      · omega
      · exact e
    · intro hx
      have := h2.1 x hx
      rcases List.mem_cons.mp ((h x).mpr (List.mem_cons_of_mem _ hx)) with e | e
      · omega
      · exact e
theorem L_sortDI {H : Hp} {Q : VK} {a : Addr} {kvs : List (Key × V)} {g : Int → Int} {n : Nat} (hn : n < 64) (h : H a = some (.dK kvs)) (hg : DGr kvs g) (hb : ∀ f, g f ≠ 0 → 0 ≤ f ∧ f < n) (q : ∀ p, H p = none → Q (.ref p) (upd H p (.lst ((keysOf n g).map V.int)))) : rSortDI [.ref a] H Q := by
  obtain ⟨ks, h1, h2, h3, h4⟩ := hg
  have key : ∀ ys : List Int, ys.Perm ks → ys.Pairwise (· ≤ ·) → ys = keysOf n g := fun ys hp hs => by
    refine lt_perm ?_ ((upN_lt n).filter _) fun x => ?_
    · have nd := hp.nodup_iff.mpr h2
      exact (hs.and nd).imp fun ⟨h1, h2⟩ => by omega
    · rw [hp.mem_iff, h3]
      unfold keysOf
      rw [List.mem_filter, upN_mem, decide_eq_true_eq]
      exact ⟨fun z => ⟨hb x z, z⟩, fun z => z.2⟩
  refine ⟨a, kvs, ks, rfl, .inl h, h1, ?_, fun ys p hp hs hf => ?_⟩
  · have : ks.Perm (keysOf n g) := (List.perm_ext_iff_of_nodup h2 ((upN_lt n).imp (fun h => by omega) |>.filter _)).mpr fun x => by
      rw [h3]
      rw [List.mem_filter, upN_mem, decide_eq_true_eq]
      exact ⟨fun z => ⟨hb x z, z⟩, fun z => z.2⟩
    rw [this.length_eq]
    refine Nat.lt_of_le_of_lt (List.length_filter_le ..) ?_
    unfold upN
    rw [List.length_map, List.length_range]
    exact hn
  · rw [key ys hp hs]
    exact q p hf
theorem L_dget2 {σ : L2.St} {H : Hp} {Q : VK} {td ty tx : TE} (h : td σ H fun x H1 => ∃ a, x = .ref a ∧ IsD H1 a ∧ ty σ H1 fun y H2 => tx σ H2 fun z H3 => ∃ o, DGet H3 a y o ∧ Q (o.getD z) H3) : tDGet2 td ty tx σ H Q := h
theorem isD_at' {H : Hp} {a : Addr} {kvs : List (Key × V)} (h : H a = some (.dK kvs)) : IsD H a := .inl ⟨kvs, .inl h⟩
/-! ### a chain of three comparisons -/
def tChain3 (r r' r'' : R2) (ta tb tc td : TE) : TE := fun σ H Q => ta σ H fun x H1 => tb σ H1 fun y H2 => r x y H2 fun z H3 => ∃ k, z = .bl k ∧
  (if k = true then tc σ H3 fun w' H4 => r' y w' H4 fun z2 H5 => ∃ k2, z2 = .bl k2 ∧ (if k2 = true then td σ H5 fun u' H6 => r'' w' u' H6 Q else Q (.bl false) H5) else Q (.bl false) H3)
section
variable {X : Cx} {a b c d : Expr} {ta tb tc td : TE} {pos : Pos}
theorem pe_chain3 {op op' op'' : CmpOp} {r r' r'' : R2} (ho : OpR X (compareOp op) r) (ho' : OpR X (compareOp op') r') (ho'' : OpR X (compareOp op'') r'') (ha : PE X a ta) (hb : PE X b tb) (hc : PE X c tc) (hd : PE X d td)
    (hm : lastMarks [op, op', op''] [b, c, d] = false := by with_unfolding_all rfl) : PE X (.Compare a [op, op', op''] [b, c, d] pos) (tChain3 r r' r'' ta tb tc td) := by
  refine ⟨fun pins s σ H Q I h => ?_⟩
  refine Compare_chain (thn (ha.run pins s σ H _ I h) fun v s1 ⟨x, H1, I1, r1, q1⟩ => chain_link (thn (hb.run pins s1 σ H1 _ I1 q1) fun u s2 ⟨y, H2, I2, r2, q2⟩ =>
    thn (ho pins s2 σ H2 x y v u _ I2 r1 r2 q2) fun d s3 ⟨z, H3, I3, r3, k, e, q3⟩ => ?_)) hm
  subst e
  cases r3
  refine wpAny_truthy_bool ?_
  cases k with
  | false => exact ite_ff ⟨.bl false, H3, I3, rfl, q3⟩
  | true =>
    refine ite_tt (chain_link (thn (hc.run pins s3 σ H3 _ I3 q3) fun w' s4 ⟨z', H4, I4, r4, q4⟩ => thn (ho' pins s4 σ H4 y z' u w' _ I4 r2 r4 q4) fun d2 s5 ⟨z2, H5, I5, r5, k2, e2, q5⟩ => ?_))
    subst e2
    cases r5
    refine wpAny_truthy_bool ?_
    cases k2 with
    | false => exact ite_ff ⟨.bl false, H5, I5, rfl, q5⟩
    | true => exact ite_tt (chain_last (thn (hd.run pins s5 σ H5 _ I5 q5) fun u' s6 ⟨z3, H6, I6, r6, q6⟩ => ho'' pins s6 σ H6 z' z3 w' u' Q I6 r4 r6 q6))
theorem L_chain3 {r r' r'' : R2} {σ : L2.St} {H : Hp} {Q : VK} (h : ta σ H fun x H1 => tb σ H1 fun y H2 => r x y H2 fun z H3 => ∃ k, z = .bl k ∧
  (if k = true then tc σ H3 fun w' H4 => r' y w' H4 fun z2 H5 => ∃ k2, z2 = .bl k2 ∧ (if k2 = true then td σ H5 fun u' H6 => r'' w' u' H6 Q else Q (.bl false) H5) else Q (.bl false) H3)) : tChain3 r r' r'' ta tb tc td σ H Q := h
end
/-- the chain's test, as a value's -/
theorem L_catA {K : PySem.W.Frag} {H : Hp} {a b : Addr} {xs ys : List V} {Q : VK} (h1 : SqT K H a xs) (h2 : SqT K H b ys) (n1 : xs ≠ []) (n2 : ys ≠ []) (hl : xs.length + ys.length ≤ sizeLine) (q : ∀ p, H p = none → Q (.ref p) (upd H p (.tup (xs ++ ys)))) : aAdd K (.ref a) (.ref b) H Q :=
  .inr (.inr (.inr ⟨a, b, xs, ys, rfl, rfl, h1, h2, hl, fun e => absurd e n1, fun _ e => absurd e n2, fun _ _ => q⟩))
end Kt
set_option Elab.async false
set_option linter.all false
set_option maxRecDepth 100000
set_option maxHeartbeats 4000000
namespace My
open PySem PySem.Spec PyProof.Rows L2 Kt
/-! one step of a reading; a look at the heap -/
local macro_rules | `(tactic| walk_at "hp") => `(tactic| first
  | assumption
  | exact upd_same
  | (with_reducible apply hp_from; assumption; walk_at "sm"))
local macro_rules | `(tactic| walk_at "hpL") => `(tactic| first | assumption | (with_reducible apply hpL; walk_at "hp"))
local macro_rules | `(tactic| walk_at "hpT") => `(tactic| first | assumption | (with_reducible apply hpT; walk_at "hp"))
local macro_rules | `(tactic| walk_at "st1") => `(tactic| with_reducible first
  | refine L_var rfl ?_
  | refine L_cons ?_
  | refine L_nil ?_
  | refine L_c ?_
  | refine L_op ?_
  | refine L_seq ?_
  | refine L_asg ?_
  | (refine G_gn ?_; refine L_gnameE (by dsimp only [L2.wipe, List.foldl, List.set] <;> rfl) ?_)
  | refine L_k ?_
  | refine L_I0 ?_
  | refine L_addI ?_
  | refine L_tTest ?_
  | refine L_ifS ?_
  | refine L_next ?_
  | refine L_call ?_
  | refine L_callS ?_
  | refine L_T ?_
  | refine L_F ?_
  | refine L_nT ?_
  | refine L_nF ?_
  | refine L_cb ?_
  | refine L_ret ?_
  | refine L_eqI ?_
  | refine L_neI ?_
  | refine L_leI ?_
  | refine L_ltI ?_
  | refine L_or ?_
  | refine L_and ?_
  | refine L_not ?_
  | refine L_tB ?_
  | refine L_drop ?_
  | refine L_bm ?_
  | refine L_tup ?_
  | refine L_lst ?_
  | refine L_fld ?_
  | refine L_chain ?_
  | refine L_chain3 ?_
  | refine L_gname ?_
  | refine L_eqS ?_
  | refine L_neS ?_
  | refine L_eqB ?_
  | refine L_leS ?_
  | refine L_isN ?_
  | refine L_notN ?_
  | refine L_inC ?_
  | refine L_notInC ?_
  | refine L_un ?_
  | refine L_rU ?_
  | refine L_andV ?_
  | refine L_orV ?_
  | refine L_notV ?_
  | refine L_par ?_
  | refine L_par3 ?_
  | refine L_vs2 ?_
  | refine L_vs3 ?_
  | refine L_aug rfl ?_
  | refine L_ipI ?_
  | refine L_retN ?_
  | refine L_brk ?_
  | refine L_cont ?_
  | refine L_tru ?_
  | refine L_truB ?_
  | refine L_truI ?_
  | refine L_abs ?_
  | refine L_max2 ?_
  | refine L_min2 ?_
  | refine L_int1 ?_
  | refine L_int1B ?_
  | refine L_for ?_
  | refine L_iRng1 ?_
  | refine L_iRng2 ?_
  | refine L_iList ?_
  | refine L_iTup ?_
  | refine L_yes ?_
  | refine L_iZip ?_
  | refine L_iEnum ?_
  | refine L_iStr ?_
  | refine L_iRng3 ?_
  | refine L_lc ?_
  | refine L_make ?_
  | refine L_nnT ?_
  | refine L_nnF ?_
  | refine L_disp1 ?_
  | refine L_rng2 ?_
  | refine L_bm0 ?_
  | refine L_neB ?_
  | refine L_dnew ?_
  | refine L_sl ?_
  | refine L_noPart ?_
  | refine L_part ?_
  | refine L_ki ?_
  | refine L_methE ?_
  | refine L_meth ?_
  | refine L_makeE ?_
  | refine L_gCons ?_
  | refine L_gNil ?_
  | refine L_sub ?_
  | refine L_sFld ?_
  | refine L_din ?_
  | refine L_dnin ?_
  | refine L_dget ?_
  | refine L_dput ?_
  | refine L_dget2 ?_
  | refine L_methD ?_)
local macro_rules | `(tactic| walk_at "st") => `(tactic| first | walk_at "st1" | walk_at "op" | with_reducible refine L_ifE ?_)
local macro_rules | `(tactic| walk_at "stn") => `(tactic| repeat first | walk_at "st1" | walk_at "op")
local macro_rules | `(tactic| walk_at "sts") => `(tactic| repeat walk_at "st")
/-! the same, and what is shown by itself: sizes, bounds, what stands in the heap -/
local macro_rules | `(tactic| walk_at "bd") => `(tactic| first | exact bd_mod (by decide) | exact bd_64 (by decide) | exact bd_64 (by omega))
local macro_rules | `(tactic| walk_at "sa1") => `(tactic| first
  | walk_at "st"
  | (with_reducible refine G_mod ?_; with_reducible refine L_I (show _ < _ by first | decide | omega) ?_)
  | (with_reducible refine G_mul ?_; with_reducible refine L_mulI (Bd.cmul (n := 64) (m := 64) (by walk_at "bd") (by walk_at "bd")) ?_)
  | (with_reducible refine G_div ?_; with_reducible refine L_I (cdiv_lit (by first | decide | omega)) ?_)
  | (with_reducible refine G_pow ?_; with_reducible first
    | refine L_powE (i := 10) (j := 9) (n := 1000000000) (cpow_lit (by decide)) (by decide) ?_
    | refine L_powE (i := 10) (j := 6) (n := 1000000) (cpow_lit (by decide)) (by decide) ?_
    | refine L_powE (i := 10) (j := 10) (n := 10000000000) (cpow_lit (by decide)) (by decide) ?_
    | refine L_powE (i := 10) (j := 12) (n := 1000000000000) (cpow_lit (by decide)) (by decide) ?_
    | refine L_powE (i := 10) (j := 13) (n := 10000000000000) (cpow_lit (by decide)) (by decide) ?_
    | refine L_powE (i := 10) (j := 20) (n := 100000000000000000000) (cpow_lit (by decide)) (by decide) ?_
    | refine L_powE (i := 10) (j := 29) (n := 100000000000000000000000000000) (cpow_lit (by decide)) (by decide) ?_
    | refine L_powE (i := 10) (j := 30) (n := 1000000000000000000000000000000) (cpow_lit (by decide)) (by decide) ?_
    | refine L_powE (i := 10) (j := 39) (n := 1000000000000000000000000000000000000000) (cpow_lit (by decide)) (by decide) ?_
    | refine L_powE (i := 10) (j := 40) (n := 10000000000000000000000000000000000000000) (cpow_lit (by decide)) (by decide) ?_
    | refine L_powE (i := 10) (j := 60) (n := 1000000000000000000000000000000000000000000000000000000000000) (cpow_lit (by decide)) (by decide) ?_
    | refine L_powE (i := 2) (j := 3) (n := 8) (cpow_lit (by decide)) (by decide) ?_
    | refine L_powE (i := 2) (j := 40) (n := 1099511627776) (cpow_lit (by decide)) (by decide) ?_)
  | (with_reducible refine G_ix ?_; with_reducible first | refine L_ixT (by walk_at "hpT") (by with_unfolding_all rfl) ?_ | refine L_ixL (by walk_at "hpL") (by with_unfolding_all rfl) ?_)
  | (with_reducible refine G_len ?_; with_reducible first | refine L_lenL (by walk_at "hpL") ?_ | refine L_lenT (by walk_at "hpT") ?_)
  | walk_at "fd"
  | (with_reducible refine G_meth ?_; with_reducible refine L_methv (by walk_at "hp") (by with_unfolding_all rfl) ?_)
  | (with_reducible refine G_isi ?_; with_reducible first | refine L_isi (.base (.int _)) (b := true) (by decide +kernel) ?_ | refine L_isi (.base (.int _)) (b := false) (by decide +kernel) ?_)
  | (with_reducible refine G_d ?_; with_reducible first | refine L_dT (by first | assumption | omega) ?_ | refine L_dF (by first | assumption | omega) ?_)
  | (with_reducible refine G_nd ?_; with_reducible first | refine L_ndT (by first | assumption | omega) ?_ | refine L_ndF (by first | assumption | omega) ?_))
local macro_rules | `(tactic| walk_at "sa") => `(tactic| repeat walk_at "sa1")
/-! what stood stands -/
local macro_rules | `(tactic| walk_at "sm") => `(tactic| first
  | assumption
  | exact Same.refl _
  | (with_reducible apply same_upd'; assumption; walk_at "sm")
  | (with_reducible apply same_mut'; assumption; walk_at "sm")
  | (with_reducible apply same_via; assumption; walk_at "sm"))
/-! a new list or tuple: its place p, hp : H p = none, the heap behind it Hn, that all stands, what stands at p -/
local macro_rules | `(tactic| walk_at "nw") => `(tactic| (
  (refine L_new (by first | decide | exact sz_dec (by simp)) ?_)
  (intro p hp)
  (generalize hg : upd _ p _ = Hn)
  (have sn := same_newE hg hp)
  (have en := upd_at hg)
  (clear hg)))
/-! plain things as data -/
local macro_rules | `(tactic| walk_at "dpa") => `(tactic| first
  | exact .nil
  | (refine .cons (by first | exact .int _ | exact .str _ | exact .bl _ | exact .non | assumption) ?_; walk_at "dpa"))
local macro_rules | `(tactic| walk_at "nwp") => `(tactic| (
  (intro p hp)
  (generalize hg : upd _ p _ = Hn)
  (have sn := same_newE hg hp)
  (have en := upd_at hg)
  (clear hg)))

def top (i : Nat) : Stmt := PySem.Challenge.pw_fewspeak_k82_tables_refused.main.body.getD i (.Pass ⟨0, 0, 0, 0⟩)
abbrev s__law_cell : Stmt := top 19
abbrev s__law_mixed : Stmt := top 20
abbrev s_is_whole : Stmt := top 11
abbrev s_is_row : Stmt := top 14
abbrev s_NoTable___init__ : Stmt := inClass (top 5) 0
abbrev s_need_rows : Stmt := top 15
abbrev s_Looks___init__ : Stmt := inClass (top 17) 0
abbrev s_Looks_word_at : Stmt := inClass (top 17) 1
abbrev s_Looks_need_lot : Stmt := inClass (top 17) 3
abbrev s_sets_of : Stmt := top 16
abbrev s_Looks_endings : Stmt := inClass (top 17) 4
abbrev s_divisor : Stmt := top 8
abbrev s_share : Stmt := top 9
abbrev s_Looks_let_by : Stmt := inClass (top 17) 5
abbrev s_Looks_looked_at : Stmt := inClass (top 17) 6
abbrev s__law_rows : Stmt := top 21
abbrev s__law_odd : Stmt := top 22
abbrev s__law_is_whole : Stmt := top 23
abbrev s__law_good : Stmt := top 24
abbrev s__law_due : Stmt := top 25
abbrev s__law_told : Stmt := top 26
abbrev s__law_no_lot : Stmt := top 27
abbrev s__law_lots : Stmt := top 28
abbrev s_law : Stmt := top 29
theorem sc__law_cell : FnScope ["_law_script", "_law_k"] ["_law_script", "_law_k"] (defScope s__law_cell) := ⟨rfl, rfl, rfl, by decide +kernel, rfl, by decide +kernel, by decide +kernel⟩
theorem sc__law_mixed : FnScope ["_law_cell_here", "_law_k", "_law_number"] ["_law_cell_here", "_law_k"] (defScope s__law_mixed) := ⟨rfl, rfl, rfl, by decide +kernel, rfl, by decide +kernel, by decide +kernel⟩
theorem sc_is_whole : FnScope ["thing", "low", "high"] ["thing", "low", "high"] (defScope s_is_whole) := ⟨rfl, rfl, rfl, by decide +kernel, rfl, by decide +kernel, by decide +kernel⟩
theorem sc_is_row : FnScope ["thing"] ["thing"] (defScope s_is_row) := ⟨rfl, rfl, rfl, by decide +kernel, rfl, by decide +kernel, by decide +kernel⟩
theorem sc_NoTable___init__ : FnScope ["self", "row"] ["self", "row"] (defScope s_NoTable___init__) := ⟨rfl, rfl, rfl, by decide +kernel, rfl, by decide +kernel, by decide +kernel⟩
theorem sc_need_rows : FnScope ["rows", "number", "row", "let", "turn"] ["rows"] (defScope s_need_rows) := ⟨rfl, rfl, rfl, by decide +kernel, rfl, by decide +kernel, by decide +kernel⟩
theorem sc_Looks___init__ : FnScope ["self", "rows"] ["self", "rows"] (defScope s_Looks___init__) := ⟨rfl, rfl, rfl, by decide +kernel, rfl, by decide +kernel, by decide +kernel⟩
theorem sc_Looks_word_at : FnScope ["self", "looked", "found", "let", "turn"] ["self", "looked", "found"] (defScope s_Looks_word_at) := ⟨rfl, rfl, rfl, by decide +kernel, rfl, by decide +kernel, by decide +kernel⟩
theorem sc_Looks_need_lot : FnScope ["self", "lot", "bad"] ["self", "lot", "bad"] (defScope s_Looks_need_lot) := ⟨rfl, rfl, rfl, by decide +kernel, rfl, by decide +kernel, by decide +kernel⟩
theorem sc_sets_of : FnScope ["many", "some", "found", "k"] ["many", "some"] (defScope s_sets_of) := ⟨rfl, rfl, rfl, by decide +kernel, rfl, by decide +kernel, by decide +kernel⟩
theorem sc_Looks_endings : FnScope ["self", "lot", "bad", "told", "ways", "looked", "further", "found", "more", "word"] ["self", "lot", "bad"] (defScope s_Looks_endings) := ⟨rfl, rfl, rfl, by decide +kernel, rfl, by decide +kernel, by decide +kernel⟩
theorem sc_divisor : FnScope ["one", "other"] ["one", "other"] (defScope s_divisor) := ⟨rfl, rfl, rfl, by decide +kernel, rfl, by decide +kernel, by decide +kernel⟩
theorem sc_share : FnScope ["top", "bottom", "many"] ["top", "bottom"] (defScope s_share) := ⟨rfl, rfl, rfl, by decide +kernel, rfl, by decide +kernel, by decide +kernel⟩
theorem sc_Looks_let_by : FnScope ["self", "lot", "bad", "many", "looked", "found", "word", "ways"] ["self", "lot", "bad"] (defScope s_Looks_let_by) := ⟨rfl, rfl, rfl, by decide +kernel, rfl, by decide +kernel, by decide +kernel⟩
theorem sc_Looks_looked_at : FnScope ["self", "lot", "bad", "many", "looked", "found", "word", "ways"] ["self", "lot", "bad"] (defScope s_Looks_looked_at) := ⟨rfl, rfl, rfl, by decide +kernel, rfl, by decide +kernel, by decide +kernel⟩
theorem sc__law_rows : FnScope ["_law_cell_here", "_law_many", "_law_way", "_law_rows_here", "_law_k", "_law_number", "_law_let", "_law_turn"] ["_law_cell_here"] (defScope s__law_rows) := ⟨rfl, rfl, rfl, by decide +kernel, rfl, by decide +kernel, by decide +kernel⟩
theorem sc__law_odd : FnScope ["_law_row", "_law_number", "_law_far", "_law_some"] ["_law_row", "_law_number"] (defScope s__law_odd) := ⟨rfl, rfl, rfl, by decide +kernel, rfl, by decide +kernel, by decide +kernel⟩
theorem sc__law_is_whole : FnScope ["_law_thing"] ["_law_thing"] (defScope s__law_is_whole) := ⟨rfl, rfl, rfl, by decide +kernel, rfl, by decide +kernel, by decide +kernel⟩
theorem sc__law_good : FnScope ["_law_row"] ["_law_row"] (defScope s__law_good) := ⟨rfl, rfl, rfl, by decide +kernel, rfl, by decide +kernel, by decide +kernel⟩
theorem sc__law_due : FnScope ["_law_rows_here", "_law_k", "_law_row"] ["_law_rows_here"] (defScope s__law_due) := ⟨rfl, rfl, rfl, by decide +kernel, rfl, by decide +kernel, by decide +kernel⟩
theorem sc__law_told : FnScope ["_law_rows_here", "_law_told_here", "e"] ["_law_rows_here"] (defScope s__law_told) := ⟨rfl, rfl, rfl, by decide +kernel, rfl, by decide +kernel, by decide +kernel⟩
theorem sc__law_no_lot : FnScope ["_law_looks", "_law_way", "_law_lot", "_law_bad", "_law_error", "e"] ["_law_looks", "_law_way", "_law_lot", "_law_bad"] (defScope s__law_no_lot) := ⟨rfl, rfl, rfl, by decide +kernel, rfl, by decide +kernel, by decide +kernel⟩
theorem sc__law_lots : FnScope ["_law_rows_here", "_law_cell_here", "_law_looks", "_law_number", "_law_lot", "_law_far", "_law_odd_here", "_law_way", "_law_bad"] ["_law_rows_here", "_law_cell_here"] (defScope s__law_lots) := ⟨rfl, rfl, rfl, by decide +kernel, rfl, by decide +kernel, by decide +kernel⟩
theorem sc_law : FnScope ["_law_script", "_law_k", "_law_cell_here", "_law_rows_here", "_law_spoiled", "_law_j", "_law_at", "_law_due_here", "_law_told_here", "_law_things", "_law_thing", "_law_place"] ["_law_script"] (defScope s_law) := ⟨rfl, rfl, rfl, by decide +kernel, rfl, by decide +kernel, by decide +kernel⟩
/-- what the top has written -/
structure Txt (K : PySem.W.Frag) (mg : Str → Option Value) : Prop where
  n_len : mg "len" = none
  n_bool : mg "bool" = none
  n_int : mg "int" = none
  n_isinstance : mg "isinstance" = none
  n_tuple : mg "tuple" = none
  g_MOST_WARES : ∃ u, mg "MOST_WARES" = some u ∧ RelV (.int 24) u
  m_SpeakError : mg "SpeakError" = some (.ref (cA mg "SpeakError"))
  b_SpeakError : BaseI K (cA mg "SpeakError")
  m_NoTable : mg "NoTable" = some (.ref (cA mg "NoTable"))
  o_NoTable : OexC K (cA mg "NoTable")
  na_NoTable_row : PySem.W.findIn K (.ref (cA mg "NoTable")) "row" = some none
  n_enumerate : mg "enumerate" = none
  n_list : mg "list" = none
  m_Looks : mg "Looks" = some (.ref (cA mg "Looks"))
  k_Looks : Cls K (cA mg "Looks")
  na_Looks_looks : NoAttr K (cA mg "Looks") "looks"
  m_NoLot : mg "NoLot" = some (.ref (cA mg "NoLot"))
  x_NoLot : ExcAt K (cA mg "NoLot")
  n_range : mg "range" = none
  n_sorted : mg "sorted" = none
  n_abs : mg "abs" = none
  n_sum : mg "sum" = none
  n_min : mg "min" = none
  n_ValueError : mg "ValueError" = none
  m_NoUnits : mg "NoUnits" = some (.ref (cA mg "NoUnits"))
  m_TooMany : mg "TooMany" = some (.ref (cA mg "TooMany"))
  y_SpeakError : ExcK K (cA mg "SpeakError")
  z_NoTable : L2.ExcC K (cA mg "NoTable")
  n_str : mg "str" = none
  n_max : mg "max" = none
  z_NoLot : L2.ExcC K (cA mg "NoLot")
  y_NoLot : ExcK K (cA mg "NoLot")
  y_NoTable : ExcK K (cA mg "NoTable")
  y_NoUnits : ExcK K (cA mg "NoUnits")
  y_TooMany : ExcK K (cA mg "TooMany")
  e_NoLot_NoLot : PySem.W.subIn K (.ref (cA mg "NoLot")) (.ref (cA mg "NoLot")) = some true
  e_NoLot_SpeakError : PySem.W.subIn K (.ref (cA mg "NoLot")) (.ref (cA mg "SpeakError")) = some true
  e_NoLot_NoTable : PySem.W.subIn K (.ref (cA mg "NoLot")) (.ref (cA mg "NoTable")) = some false
  e_NoLot_NoUnits : PySem.W.subIn K (.ref (cA mg "NoLot")) (.ref (cA mg "NoUnits")) = some false
  e_NoLot_TooMany : PySem.W.subIn K (.ref (cA mg "NoLot")) (.ref (cA mg "TooMany")) = some false
  e_NoTable_NoTable : PySem.W.subIn K (.ref (cA mg "NoTable")) (.ref (cA mg "NoTable")) = some true
  e_NoTable_SpeakError : PySem.W.subIn K (.ref (cA mg "NoTable")) (.ref (cA mg "SpeakError")) = some true
  e_NoTable_NoLot : PySem.W.subIn K (.ref (cA mg "NoTable")) (.ref (cA mg "NoLot")) = some false
  e_NoTable_NoUnits : PySem.W.subIn K (.ref (cA mg "NoTable")) (.ref (cA mg "NoUnits")) = some false
  e_NoTable_TooMany : PySem.W.subIn K (.ref (cA mg "NoTable")) (.ref (cA mg "TooMany")) = some false
  et_NoTable_ValueError : PySem.W.subIn K (.ref (cA mg "NoTable")) (.type "ValueError") = some true
  d__law_cell : DefAt K mg "_law_cell" s__law_cell ["_law_script", "_law_k"]
  d__law_mixed : DefAt K mg "_law_mixed" s__law_mixed ["_law_cell_here", "_law_k"]
  d_is_whole : DefAt K mg "is_whole" s_is_whole ["thing", "low", "high"]
  d_is_row : DefAt K mg "is_row" s_is_row ["thing"]
  xi_NoTable : XIniAt K (cA mg "NoTable") "NoTable.__init__" s_NoTable___init__ ["self", "row"]
  d_need_rows : DefAt K mg "need_rows" s_need_rows ["rows"]
  i_Looks : InitAt K (cA mg "Looks") "Looks.__init__" s_Looks___init__ ["self", "rows"]
  d_Looks_word_at : MethAt K (cA mg "Looks") "word_at" "Looks.word_at" s_Looks_word_at ["self", "looked", "found"]
  d_Looks_need_lot : MethAt K (cA mg "Looks") "need_lot" "Looks.need_lot" s_Looks_need_lot ["self", "lot", "bad"]
  d_sets_of : DefAt K mg "sets_of" s_sets_of ["many", "some"]
  d_Looks_endings : MethAt K (cA mg "Looks") "endings" "Looks.endings" s_Looks_endings ["self", "lot", "bad"]
  d_divisor : DefAt K mg "divisor" s_divisor ["one", "other"]
  d_share : DefAt K mg "share" s_share ["top", "bottom"]
  d_Looks_let_by : MethAt K (cA mg "Looks") "let_by" "Looks.let_by" s_Looks_let_by ["self", "lot", "bad"]
  d_Looks_looked_at : MethAt K (cA mg "Looks") "looked_at" "Looks.looked_at" s_Looks_looked_at ["self", "lot", "bad"]
  d__law_rows : DefAt K mg "_law_rows" s__law_rows ["_law_cell_here"]
  d__law_odd : DefAt K mg "_law_odd" s__law_odd ["_law_row", "_law_number"]
  d__law_is_whole : DefAt K mg "_law_is_whole" s__law_is_whole ["_law_thing"]
  d__law_good : DefAt K mg "_law_good" s__law_good ["_law_row"]
  d__law_due : DefAt K mg "_law_due" s__law_due ["_law_rows_here"]
  d__law_told : DefAt K mg "_law_told" s__law_told ["_law_rows_here"]
  d__law_no_lot : DefAt K mg "_law_no_lot" s__law_no_lot ["_law_looks", "_law_way", "_law_lot", "_law_bad"]
  d__law_lots : DefAt K mg "_law_lots" s__law_lots ["_law_rows_here", "_law_cell_here"]
  d_law : DefAt K mg "law" s_law ["_law_script"]
section
variable {P : Program} {w : World} {K : PySem.W.Frag} {mg : Str → Option Value} {base : Heap}
theorem fd_Looks_looks (T : Txt K mg) {H : Hp} {a dx : Addr} {fs : List (Str × V)} {v : V} {Q : V → Prop} (h : H a = some (.ins (cA mg "Looks") dx fs)) (l : fs.lookup ("looks" : Str) = some v) (q : Q v) : ∃ a1 C dx fs v, V.ref a = V.ref a1 ∧ H a1 = some (.ins C dx fs) ∧ Cls K C ∧ NoAttr K C "looks" ∧ fs.lookup ("looks" : Str) = some v ∧ Q v := L_fldv h T.k_Looks T.na_Looks_looks l q
theorem fg_Looks_looks {H : Hp} {a : Addr} {Q : V → Prop} (h : ∃ a1 C dx fs v, V.ref a = V.ref a1 ∧ H a1 = some (.ins C dx fs) ∧ Cls K C ∧ NoAttr K C "looks" ∧ fs.lookup ("looks" : Str) = some v ∧ Q v) : ∃ a1 C dx fs v, V.ref a = V.ref a1 ∧ H a1 = some (.ins C dx fs) ∧ Cls K C ∧ NoAttr K C "looks" ∧ fs.lookup ("looks" : Str) = some v ∧ Q v := h
local macro_rules | `(tactic| walk_at "fd") => `(tactic| (with_reducible refine fg_Looks_looks ?_; with_reducible refine fd_Looks_looks (by assumption) (by walk_at "hp") (by with_unfolding_all rfl) ?_))
def sp__law_cell (K : PySem.W.Frag) (mg : Str → Option Value) : Sp := fun vs H Q _ => match vs with | [.ref a, .int k] => ∃ ns : List Int, SqL K H a (ns.map V.int) ∧ 0 ≤ k ∧ k < 1000000 ∧ ∀ c, Q (.int c) H | _ => False
theorem q__law_cell {H : Hp} {Q : VK} {E : XK} {a : Addr} {k : Int} (q : ∃ ns : List Int, SqL K H a (ns.map V.int) ∧ 0 ≤ k ∧ k < 1000000 ∧ ∀ c, Q (.int c) H) : sp__law_cell K mg [.ref a, .int k] H Q E := q
local macro_rules | `(tactic| walk_at "op") => `(tactic| with_reducible refine q__law_cell ?_)
theorem c__law_cell (T : Txt K mg) : Cal P w K mg base 1 "_law_cell" (sp__law_cell K mg) := by
  refine T.d__law_cell.cal (k := 0) sc__law_cell (by intro vs H Q E h; unfold sp__law_cell at h; split at h <;> first | rfl | exact h.elim) fun f cdv A outer s H vs Q E hr h => ?_
  refine ⟨_, (pss_cons (ps_if (pt_cmpR op_ltA (pv 1) (pe_callB call_lenA (by rfl) T.n_len (by decide +kernel) (pa_cons (pv 0) pa_nil)) (nomark _))
    (pss_one (ps_ret (pe_ix ix_seq (pv 0) (pv 1) (fun _ _ => rfl))))
    pss_nil)
    (pss_one (ps_ret (pe_op op_addA (pe_op op_mulA pe_int (pv 1)) pe_int)))), ?_⟩
  try simp only [cxOf_K, cxOf_K', cxOf_mg, cxOf_mg']
  unfold sp__law_cell at h
  split at h
  case h_2 => exact h.elim
  rename_i a k
  rw [show L2.start ["_law_script", "_law_k"] [V.ref a, V.int k] = [some (V.ref a), some (V.int k)] from rfl]
  obtain ⟨ns, hS, hk, hk2, q⟩ := h
  walk_at "sts"
  refine L_lenL hS ?_
  walk_at "sts"
  refine L_d (fun c => ?_) (fun c => ?_)
  · walk_at "sts"
    exact L_ixL hS (atI_ints hk (by rw [List.length_map] at c; exact c)) (q _)
  · walk_at "sa"
    exact q _
def sp__law_mixed (K : PySem.W.Frag) (mg : Str → Option Value) : Sp := fun vs H Q _ => match vs with | [.int c, .int k] => 0 ≤ k ∧ k < 1000000 ∧ ∀ r, 0 ≤ r → r < 1099511627776 → Q (.int r) H | _ => False
theorem q__law_mixed {H : Hp} {Q : VK} {E : XK} {c : Int} {k : Int} (q : 0 ≤ k ∧ k < 1000000 ∧ ∀ r, 0 ≤ r → r < 1099511627776 → Q (.int r) H) : sp__law_mixed K mg [.int c, .int k] H Q E := q
local macro_rules | `(tactic| walk_at "op") => `(tactic| with_reducible refine q__law_mixed ?_)
theorem c__law_mixed (T : Txt K mg) : Cal P w K mg base 1 "_law_mixed" (sp__law_mixed K mg) := by
  refine T.d__law_mixed.cal (k := 0) sc__law_mixed (by intro vs H Q E h; unfold sp__law_mixed at h; split at h <;> first | rfl | exact h.elim) fun f cdv A outer s H vs Q E hr h => ?_
  refine ⟨_, (pss_cons (ps_if (pt_cmpR (op_eqA hr) (pe_op op_mod (pv 0) pe_int) pe_int (nomark _))
    (pss_one (ps_ret (pe_op op_mod (pe_op op_shr (pv 0) (pe_op op_addA pe_int (pe_op op_mulA pe_int (pv 1)))) (pe_op op_pow pe_int pe_int))))
    pss_nil)
    (pss_cons (ps_set (i := 2) sc__law_mixed.nd rfl (.inl rfl) (pe_op op_mod (pe_op op_addA (pv 0) (pe_op op_mulA pe_int (pv 1))) pe_int))
    (pss_cons (ps_set (i := 2) sc__law_mixed.nd rfl (.inl rfl) (pe_op op_mod (pe_op op_addA (pe_op op_mulA (pv 2) pe_int) (pv 1)) pe_int))
    (pss_cons (ps_set (i := 2) sc__law_mixed.nd rfl (.inl rfl) (pe_op op_mod (pe_op op_mulA (pv 2) (pe_op op_addA (pv 2) pe_int)) pe_int))
    (pss_one (ps_ret (pe_op op_mod (pe_op op_mulA (pv 2) (pe_op op_addA (pv 2) pe_int)) pe_int))))))), ?_⟩
  try simp only [cxOf_K, cxOf_K', cxOf_mg, cxOf_mg']
  unfold sp__law_mixed at h
  split at h
  case h_2 => exact h.elim
  rename_i c k
  rw [show L2.start ["_law_cell_here", "_law_k", "_law_number"] [V.int c, V.int k] = [some (V.int c), some (V.int k), none] from rfl]
  obtain ⟨hk, hk2, q⟩ := h
  walk_at "sts"
  refine L_I (by decide) ?_
  walk_at "sts"
  refine L_d (fun c => ?_) (fun c => ?_)
  · walk_at "sts"
    refine L_mulI ((bd_64 (by decide)).cmul (bd_64 (by omega))) ?_
    walk_at "sts"
    refine L_I (show 0 ≤ _ by omega) ?_
    walk_at "sa"
    exact q _ (Int.emod_nonneg _ (by decide)) (Int.emod_lt_of_pos _ (by decide))
  · walk_at "sa"
    exact q _ (Int.emod_nonneg _ (by decide)) (Int.lt_of_lt_of_le (Int.emod_lt_of_pos _ (by decide)) (by decide))
def sp_is_whole (K : PySem.W.Frag) (mg : Str → Option Value) : Sp := fun vs H Q _ => match vs with | [v, .int lo, .int hi] => (∃ t, v = .int t ∧ Q (.bl (decide (lo ≤ t) && decide (t ≤ hi))) H) ∨ (NotW K H v ∧ Q (.bl false) H) | _ => False
theorem c_is_whole (T : Txt K mg) : Cal P w K mg base 1 "is_whole" (sp_is_whole K mg) := by
  refine T.d_is_whole.cal (k := 0) sc_is_whole (by intro vs H Q E h; unfold sp_is_whole at h; split at h <;> first | rfl | exact h.elim) fun f cdv A outer s H vs Q E hr h => ?_
  refine ⟨_, (pss_cons (ps_if (PW.pt (pw_or (pt_not (pt_val (pe_callB call_isi (by rfl) T.n_isinstance (by decide +kernel) (pa_cons (pv 0) (pa_cons (pe_ty "int" (by rfl) T.n_int (by decide +kernel)) pa_nil))))) (pw_or1 (pt_val (pe_callB call_isi (by rfl) T.n_isinstance (by decide +kernel) (pa_cons (pv 0) (pa_cons (pe_ty "bool" (by rfl) T.n_bool (by decide +kernel)) pa_nil)))))))
    (pss_one (ps_ret pe_bl))
    pss_nil)
    (pss_one (ps_ret (pe_chain op_leA op_leA (pv 1) (pv 0) (pv 2))))), ?_⟩
  try simp only [cxOf_K, cxOf_K', cxOf_mg, cxOf_mg']
  unfold sp_is_whole at h
  split at h
  case h_2 => exact h.elim
  rename_i v lo hi
  rw [show L2.start ["thing", "low", "high"] [v, V.int lo, V.int hi] = [some (v), some (V.int lo), some (V.int hi)] from rfl]
  rcases h with ⟨t, rfl, q⟩ | ⟨⟨b, rfl⟩ | ⟨ty, h1, h2⟩, q⟩
  · walk_at "sa"
    refine L_d (fun c1 => ?_) (fun c1 => ?_)
    · rw [decide_eq_true c1, Bool.true_and] at q
      walk_at "sts"
      exact q
    · rw [decide_eq_false c1, Bool.false_and] at q
      exact q
  · walk_at "sts"
    refine L_isi (.base (.bl b)) (b := true) (by decide +kernel) ?_
    walk_at "sts"
    refine L_isi (.base (.bl b)) (b := true) (by decide +kernel) ?_
    walk_at "sts"
    exact q
  · walk_at "sts"
    refine L_isi h1 h2 ?_
    walk_at "sts"
    exact q
theorem q_whole {H : Hp} {Q : VK} {E : XK} {t lo hi : Int} (q : Q (.bl (decide (lo ≤ t) && decide (t ≤ hi))) H) : sp_is_whole K mg [.int t, .int lo, .int hi] H Q E := .inl ⟨t, rfl, q⟩
theorem q_wholeT {H : Hp} {Q : VK} {E : XK} {t lo hi : Int} (h : lo ≤ t ∧ t ≤ hi) (q : Q (.bl true) H) : sp_is_whole K mg [.int t, .int lo, .int hi] H Q E := q_whole (by rw [decide_eq_true h.1, decide_eq_true h.2]; exact q)
theorem q_wholeF {H : Hp} {Q : VK} {E : XK} {t lo hi : Int} (h : ¬ (lo ≤ t ∧ t ≤ hi)) (q : Q (.bl false) H) : sp_is_whole K mg [.int t, .int lo, .int hi] H Q E := q_whole (by
  rw [show (decide (lo ≤ t) && decide (t ≤ hi)) = false by simp only [Bool.and_eq_false_iff, decide_eq_false_iff_not]; omega]; exact q)
theorem q_wholeN {H : Hp} {Q : VK} {E : XK} {v : V} {lo hi : Int} (h : NotW K H v) (q : Q (.bl false) H) : sp_is_whole K mg [v, .int lo, .int hi] H Q E := .inr ⟨h, q⟩
theorem q_wholeB {H : Hp} {Q : VK} {E : XK} {v : V} {lo hi : Int} (h : BadW K H v lo hi) (q : Q (.bl false) H) : sp_is_whole K mg [v, .int lo, .int hi] H Q E := by
  rcases h with h | ⟨t, rfl, h⟩
  · exact q_wholeN h q
  · exact q_wholeF h q
theorem q_wholeG {H : Hp} {Q : VK} {E : XK} {t lo hi : Int} (h : sp_is_whole K mg [.int t, .int lo, .int hi] H Q E) : sp_is_whole K mg [.int t, .int lo, .int hi] H Q E := h
local macro_rules | `(tactic| walk_at "op") => `(tactic| with_reducible (refine q_wholeG ?_; first | refine q_wholeT (by omega) ?_ | refine q_wholeF (by omega) ?_ | refine q_whole ?_))
/-- how many sets of k among n -/
def ch : Nat → Nat → Nat
  | _, 0 => 1
  | 0, _ + 1 => 0
  | n + 1, k + 1 => ch n k + ch n (k + 1)
theorem ch_zero (n : Nat) : ch n 0 = 1 := by cases n <;> rfl
theorem ch_step (n k : Nat) : ch (n + 1) (k + 1) = ch n k + ch n (k + 1) := rfl
theorem ch_out : ∀ {n k : Nat}, n < k → ch n k = 0
  | 0, 0, h => absurd h (Nat.lt_irrefl _)
  | 0, _ + 1, _ => rfl
  | n + 1, 0, h => absurd h (Nat.not_lt_zero _)
  | n + 1, k + 1, h => by rw [ch_step, ch_out (by omega), ch_out (by omega)]
theorem ch_up : ∀ n k : Nat, (k + 1) * ch (n + 1) (k + 1) = (n + 1) * ch n k
  | 0, 0 => rfl
  | 0, k + 1 => by rw [ch_step]; rfl
  | n + 1, 0 => by
    have h := ch_up n 0
    rw [ch_step, ch_zero]
    rw [ch_zero] at h
    omega
  | n + 1, k + 1 => by
    have h1 := ch_up n k
    have h2 := ch_up n (k + 1)
    have e : ch (n + 1 + 1) (k + 1 + 1) = ch (n + 1) (k + 1) + ch (n + 1) (k + 1 + 1) := rfl
    have e2 : ch (n + 1) (k + 1) = ch n k + ch n (k + 1) := rfl
    rw [e, Nat.mul_add, h2, show (k + 1 + 1) * ch (n + 1) (k + 1) = (k + 1) * ch (n + 1) (k + 1) + ch (n + 1) (k + 1) by rw [Nat.succ_mul], h1, show (n + 1 + 1) * ch (n + 1) (k + 1) = (n + 1) * ch (n + 1) (k + 1) + ch (n + 1) (k + 1) by rw [Nat.succ_mul], e2, Nat.mul_add]
    omega
theorem ch_next {n k : Nat} (h : k ≤ n) : (k + 1) * ch n (k + 1) = (n - k) * ch n k := by
  have h1 := ch_up n k
  rw [ch_step, Nat.mul_add] at h1
  have e : (n + 1) * ch n k = (n - k) * ch n k + (k + 1) * ch n k := by
    rw [← Nat.add_mul]
    congr 1
    omega
  omega
theorem ch_pos : ∀ {n k : Nat}, k ≤ n → 1 ≤ ch n k
  | _, 0, _ => by rw [ch_zero]; exact Nat.le_refl _
  | 0, _ + 1, h => absurd h (Nat.not_succ_le_zero _)
  | n + 1, k + 1, h => by
    rw [ch_step]
    have := ch_pos (n := n) (k := k) (by omega)
    omega
theorem ch_self : ∀ n : Nat, ch n n = 1
  | 0 => rfl
  | n + 1 => by rw [ch_step, ch_self n, ch_out (Nat.lt_succ_self n)]
def OkR (r : Int × Int) : Prop := -1 ≤ r.1 ∧ r.1 ≤ 24 ∧ 0 ≤ r.2 ∧ r.2 ≤ 25 ∧ r.1 < r.2
/-- a table of looks -/
structure OkT (rows : List (Int × Int)) : Prop where
  len : rows.length ≤ 24
  ok : ∀ r ∈ rows, OkR r
  last : ∃ ini l, rows = ini ++ [l] ∧ l.2 = l.1 + 1
def word (r : Int × Int) (f : Int) : Str := if f ≤ r.1 then Str.ofString "by" else if r.2 ≤ f then Str.ofString "down" else Str.ofString "open"
theorem OkT.lenpos {rows : List (Int × Int)} (h : OkT rows) : 1 ≤ rows.length := by
  obtain ⟨ini, l, rfl, _⟩ := h.last
  simp
/-- a plain thing -/
def scal : PyData → Bool
  | .int _ => true
  | .bool _ => true
  | .none => true
  | .str _ => true
  | _ => false
/-- what may stand in a table -/
def RowD (D : PyData) : Prop := D = .none ∨ (∃ z, D = .str z) ∨ (∃ ds, D = .list ds) ∨ ∃ ds, D = .tuple ds ∧ ∀ d ∈ ds, scal d = true
def wholeD (d : PyData) (lo hi : Int) : Bool := match d with
  | .int i => decide (lo ≤ i) && decide (i ≤ hi)
  | _ => false
def ltD (d e : PyData) : Bool := match d, e with
  | .int i, .int j => decide (i < j)
  | _, _ => false
def goodRow : PyData → Bool
  | .tuple [d, e] => wholeD d (-1) 24 && (wholeD e 0 25 && ltD d e)
  | _ => false
theorem goodRow_len {ds : List PyData} (h : ds.length ≠ 2) : goodRow (.tuple ds) = false := by
  unfold goodRow
  split
  · rename_i d e hh
    cases hh
    exact absurd rfl h
  · rfl
theorem goodRow_d2 (r : Int × Int) : goodRow (d2 r) = true ↔ OkR r := by
  show (decide (-1 ≤ r.1) && decide (r.1 ≤ 24) && (decide (0 ≤ r.2) && decide (r.2 ≤ 25) && decide (r.1 < r.2))) = true ↔ _
  unfold OkR
  simp only [Bool.and_eq_true, decide_eq_true_eq]
  omega
theorem wholeD_int {d : PyData} {lo hi : Int} (h : wholeD d lo hi = true) : ∃ i, d = .int i ∧ lo ≤ i ∧ i ≤ hi := by
  unfold wholeD at h
  split at h
  · rw [Bool.and_eq_true, decide_eq_true_eq, decide_eq_true_eq] at h
    exact ⟨_, rfl, h.1, h.2⟩
  · cases h
theorem goodRow_is {D : PyData} (h : goodRow D = true) : ∃ r, D = d2 r ∧ OkR r := by
  unfold goodRow at h
  split at h
  · rename_i d e
    rw [Bool.and_eq_true, Bool.and_eq_true] at h
    obtain ⟨i, rfl, _⟩ := wholeD_int h.1
    obtain ⟨j, rfl, _⟩ := wholeD_int h.2.1
    exact ⟨(i, j), rfl, (goodRow_d2 (i, j)).mp (by rw [show goodRow (d2 (i, j)) = (wholeD (.int i) (-1) 24 && (wholeD (.int j) 0 25 && ltD (.int i) (.int j))) from rfl, Bool.and_eq_true, Bool.and_eq_true]; exact h)⟩
  · cases h
theorem q_wholeS {K : PySem.W.Frag} {mg : Str → Option Value} {H : Hp} {Q : VK} {E : XK} {v : V} {d : PyData} {lo hi : Int} (hs : scal d = true) (h : Dp K H v d) (q : Q (.bl (wholeD d lo hi)) H) : sp_is_whole K mg [v, .int lo, .int hi] H Q E := by
  cases d with
  | int i =>
    rw [of_int h]
    exact q_whole q
  | bool b =>
    rw [of_bl h]
    exact q_wholeN notw_bl q
  | none =>
    rw [of_non h]
    exact q_wholeN notw_non q
  | str z =>
    rw [of_str h]
    exact q_wholeN notw_str q
  | _ => cases hs
def sp_is_row (K : PySem.W.Frag) (mg : Str → Option Value) : Sp := fun vs H Q _ => match vs with | [v] => ∃ D, Dp K H v D ∧ RowD D ∧ Q (.bl (goodRow D)) H | _ => False
theorem q_is_row {H : Hp} {Q : VK} {E : XK} {v : V} (q : ∃ D, Dp K H v D ∧ RowD D ∧ Q (.bl (goodRow D)) H) : sp_is_row K mg [v] H Q E := q
local macro_rules | `(tactic| walk_at "op") => `(tactic| with_reducible refine q_is_row ?_)
theorem c_is_row (T : Txt K mg) : Cal P w K mg base 2 "is_row" (sp_is_row K mg) := by
  refine T.d_is_row.cal (k := 1) sc_is_row (by intro vs H Q E h; unfold sp_is_row at h; split at h <;> first | rfl | exact h.elim) fun f cdv A outer s H vs Q E hr h => ?_
  refine ⟨_, (pss_cons (ps_if (PW.pt (pw_or (pt_not (pt_val (pe_callB call_isi (by rfl) T.n_isinstance (by decide +kernel) (pa_cons (pv 0) (pa_cons (pe_ty "tuple" (by rfl) T.n_tuple (by decide +kernel)) pa_nil))))) (pw_or1 (pt_cmpR (op_neA hr) (pe_callB call_lenA (by rfl) T.n_len (by decide +kernel) (pa_cons (pv 0) pa_nil)) pe_int (nomark _)))))
    (pss_one (ps_ret pe_bl))
    pss_nil)
    (pss_cons (ps_if (PW.pt (pw_or (pt_not (pt_val (pe_c (c_is_whole T) hr (by decide) (by rfl) (pa_cons (pe_ix ix_seq (pv 0) pe_int (fun _ _ => rfl)) (pa_cons (pe_un un_neg pe_int) (pa_cons (pe_gc (by rfl) T.g_MOST_WARES) pa_nil)))))) (pw_or1 (pt_not (pt_val (pe_c (c_is_whole T) hr (by decide) (by rfl) (pa_cons (pe_ix ix_seq (pv 0) pe_int (fun _ _ => rfl)) (pa_cons pe_int (pa_cons (pe_op op_addA (pe_gc (by rfl) T.g_MOST_WARES) pe_int) pa_nil)))))))))
    (pss_one (ps_ret pe_bl))
    pss_nil)
    (pss_one (ps_ret (pe_cmpR op_ltA (pe_ix ix_seq (pv 0) pe_int (fun _ _ => rfl)) (pe_ix ix_seq (pv 0) pe_int (fun _ _ => rfl)) (nomark _)))))), ?_⟩
  try simp only [cxOf_K, cxOf_K', cxOf_mg, cxOf_mg']
  unfold sp_is_row at h
  split at h
  case h_2 => exact h.elim
  rename_i v
  rw [show L2.start ["thing"] [v] = [some (v)] from rfl]
  obtain ⟨D, hD, hR, q⟩ := h
  rcases hR with rfl | ⟨z, rfl⟩ | ⟨ds, rfl⟩ | ⟨ds, rfl, hs⟩
  · rw [of_non hD]
    walk_at "sts"
    refine L_isi (.base .non) (b := false) (by decide +kernel) ?_
    walk_at "sts"
    exact q
  · rw [of_str hD]
    walk_at "sts"
    refine L_isi (.base (.str _)) (b := false) (by decide +kernel) ?_
    walk_at "sts"
    exact q
  · obtain ⟨a, xs, rfl, hL, _⟩ := of_lst hD
    walk_at "sts"
    refine L_isi (tyx_L hL) (b := false) (by decide +kernel) ?_
    walk_at "sts"
    exact q
  obtain ⟨a, xs, rfl, hT, hA⟩ := of_tup hD
  have hxl := hA.len
  walk_at "sts"
  refine L_isi (tyx_T hT) (b := true) (by decide +kernel) ?_
  walk_at "sts"
  refine L_lenT hT ?_
  walk_at "sts"
  by_cases h2 : ds.length = 2
  · match ds, h2, hA, hs with
    | [d, e], _, hA, hs =>
      obtain ⟨x, y, hx, hy, rfl⟩ : ∃ x y, Dp K H x d ∧ Dp K H y e ∧ xs = [x, y] := by
        cases hA with
        | cons p1 p2 => cases p2 with | cons p3 p4 => cases p4; exact ⟨_, _, p1, p3, rfl⟩
      have sd := hs d (by simp)
      have se := hs e (by simp)
      have q' : Q (.bl (wholeD d (-1) 24 && (wholeD e 0 (24 + 1) && ltD d e))) H := q
      refine L_ndF rfl ?_
      walk_at "sts"
      refine L_ixT hT rfl ?_
      walk_at "sts"
      refine q_wholeS sd hx ?_
      cases h1 : wholeD d (-1) 24 with
      | false =>
        rw [h1, Bool.false_and] at q'
        walk_at "sts"
        exact q'
      | true =>
        rw [h1, Bool.true_and] at q'
        walk_at "sts"
        refine L_ixT hT rfl ?_
        walk_at "sts"
        refine q_wholeS se hy ?_
        cases h2 : wholeD e 0 (24 + 1) with
        | false =>
          rw [h2, Bool.false_and] at q'
          walk_at "sts"
          exact q'
        | true =>
          rw [h2, Bool.true_and] at q'
          obtain ⟨i, rfl, _⟩ := wholeD_int h1
          obtain ⟨j, rfl, _⟩ := wholeD_int h2
          rw [of_int hx, of_int hy] at hT
          walk_at "sts"
          refine L_ixT hT rfl ?_
          walk_at "sts"
          refine L_ixT hT rfl ?_
          refine L_ltI ?_
          exact q'
  · refine L_ndT (by omega) ?_
    rw [goodRow_len h2] at q
    walk_at "sts"
    exact q
def fb : Nat → List PyData → Option Nat
  | _, [] => none
  | k, D :: r => if goodRow D = true then fb (k + 1) r else some k
def shut : PyData → Bool
  | .tuple [.int x, .int y] => decide (y = x + 1)
  | _ => false
def badT (Ds : List PyData) : Option Nat := if Ds.length = 0 then some 0 else if 24 < Ds.length then some 24 else match fb 0 Ds with
  | some k => some k
  | none => if (Ds.getLast?.map shut).getD false = true then none else some (Ds.length - 1)
theorem fb_none {k : Nat} : ∀ {Ds : List PyData}, fb k Ds = none → ∀ D ∈ Ds, goodRow D = true := by
  intro Ds
  induction Ds generalizing k with
  | nil => intro _ D h; cases h
  | cons E r ih =>
    intro h D hD
    unfold fb at h
    split at h
    · rcases List.mem_cons.mp hD with rfl | hD
      · assumption
      · exact ih h D hD
    · cases h
theorem fb_all {k : Nat} : ∀ {Ds : List PyData}, (∀ D ∈ Ds, goodRow D = true) → fb k Ds = none := by
  intro Ds
  induction Ds generalizing k with
  | nil => intro _; rfl
  | cons E r ih =>
    intro h
    unfold fb
    rw [if_pos (h E (List.mem_cons_self ..))]
    exact ih fun D hD => h D (List.mem_cons_of_mem _ hD)
theorem rows_of : ∀ {Ds : List PyData}, (∀ D ∈ Ds, goodRow D = true) → ∃ rows : List (Int × Int), Ds = rows.map d2 ∧ ∀ r ∈ rows, OkR r
  | [], _ => ⟨[], rfl, fun r h => nomatch h⟩
  | D :: Ds, h => by
    obtain ⟨r, rfl, hr⟩ := goodRow_is (h D (List.mem_cons_self ..))
    obtain ⟨rows, rfl, hh⟩ := rows_of fun E hE => h E (List.mem_cons_of_mem _ hE)
    exact ⟨r :: rows, rfl, fun x hx => by
      rcases List.mem_cons.mp hx with rfl | hx
      · exact hr
      · exact hh x hx⟩
theorem badT_none {Ds : List PyData} (h : badT Ds = none) : ∃ rows : List (Int × Int), Ds = rows.map d2 ∧ OkT rows := by
  unfold badT at h
  split at h
  · cases h
  · split at h
    · cases h
    · split at h
      · cases h
      · rename_i h24 _ hf
        split at h
        · rename_i hs
          obtain ⟨rows, rfl, hr⟩ := rows_of (fb_none hf)
          refine ⟨rows, rfl, by rw [List.length_map] at h24; omega, hr, ?_⟩
          rw [List.getLast?_map] at hs
          cases e : rows.getLast? with
          | none => rw [e] at hs; cases hs
          | some l =>
            obtain ⟨ini, rfl⟩ := List.getLast?_eq_some_iff.mp e
            rw [e] at hs
            exact ⟨ini, l, rfl, of_decide_eq_true hs⟩
        · cases h
theorem badT_ok {rows : List (Int × Int)} (h : OkT rows) : badT (rows.map d2) = none := by
  unfold badT
  have h1 := h.lenpos
  have h2 := h.len
  rw [List.length_map, if_neg (by omega), if_neg (by omega), fb_all fun D hD => by
    obtain ⟨r, hr, rfl⟩ := List.mem_map.mp hD
    exact (goodRow_d2 r).mpr (h.ok r hr)]
  obtain ⟨ini, l, rfl, hl⟩ := h.last
  rw [List.getLast?_map, List.getLast?_append]
  show (if decide (l.2 = l.1 + 1) = true then none else _) = none
  rw [if_pos (decide_eq_true hl)]
theorem RowD_d2 (r : Int × Int) : RowD (d2 r) := .inr (.inr (.inr ⟨_, rfl, fun d hd => by
  simp only [List.mem_cons, List.not_mem_nil, or_false] at hd
  rcases hd with rfl | rfl <;> rfl⟩))
/-- what is asked of what is handed in as a table -/
def Tab (K : PySem.W.Frag) (mg : Str → Option Value) (H : Hp) (v : V) (E : XK) (R : Addr → List V → List (Int × Int) → Prop) : Prop :=
  (NotL K H v ∧ ∀ d H', Same H H' → H' d = some (.xd [("row", .int 0)]) → E (.ref (cA mg "NoTable")) (some d) H') ∨
  ∃ a us Ds, v = .ref a ∧ SqL K H a us ∧ DpAll K H us Ds ∧ us.length ≤ 1000 ∧ (∀ D ∈ Ds, RowD D) ∧ (∀ n : Nat, badT Ds = some n → ∀ d H', Same H H' → H' d = some (.xd [("row", .int (n : Int))]) → E (.ref (cA mg "NoTable")) (some d) H') ∧ ∀ rows, Ds = rows.map d2 → OkT rows → R a us rows
def sp_NoTable___init__ (K : PySem.W.Frag) (mg : Str → Option Value) : Sp := fun vs H Q _ => match vs with | [.ref a, v] => XIni1 (cA mg "NoTable") "row" a v H Q | _ => False
theorem q_NoTable___init__ {H : Hp} {Q : VK} {E : XK} {a : Addr} {v : V} (q : XIni1 (cA mg "NoTable") "row" a v H Q) : sp_NoTable___init__ K mg [.ref a, v] H Q E := q
local macro_rules | `(tactic| walk_at "op") => `(tactic| with_reducible refine q_NoTable___init__ ?_)
theorem x_NoTable (T : Txt K mg) : XMak P w K mg base 1 "NoTable" (cA mg "NoTable") (sp_NoTable___init__ K mg) := by
  refine XIniAt.xmak T.m_NoTable T.xi_NoTable (k := 0) sc_NoTable___init__ (by intro vs H Q E h; unfold sp_NoTable___init__ at h; split at h <;> first | rfl | exact h.elim) fun f cdv A outer s H vs Q E hr h => ?_
  refine ⟨_, (pss_cons (ps_expr (pe_baseI (by rfl) T.m_SpeakError T.b_SpeakError (pa_cons (pv 0) (pa_cons pe_str pa_nil))))
    (pss_one (ps_ost (pv 0) (pv 1) rfl))), ?_⟩
  try simp only [cxOf_K, cxOf_K', cxOf_mg, cxOf_mg']
  unfold sp_NoTable___init__ at h
  split at h
  case h_2 => exact h.elim
  rename_i a v
  rw [show L2.start ["self", "row"] [V.ref a, v] = [some (V.ref a), some (v)] from rfl]
  obtain ⟨ha, q⟩ := h
  walk_at "sts"
  refine L_tveI ?_
  walk_at "sts"
  refine L_veI T.o_NoTable ha (by rw [List.length_singleton]; decide) ?_
  walk_at "sts"
  refine L_ost ?_
  walk_at "sts"
  refine L_ost1 T.o_NoTable T.na_NoTable_row ha fun dx nx ne => ?_
  exact q dx nx ne
theorem q_noT {H : Hp} {E : XK} {i : Int} (q : ∀ d H', Same H H' → H' d = some (.xd [("row", .int i)]) → E (.ref (cA mg "NoTable")) (some d) H') : [V.int i].length ≤ 1000 ∧ ∀ a, H a = none → sp_NoTable___init__ K mg (.ref a :: ([V.int i] ++ [])) (upd H a (exo a (cA mg "NoTable") none))
  (fun v H2 => v = .non ∧ ∃ (d : Addr) (fs : List (Str × V)), H2 a = some (exo a (cA mg "NoTable") (some d)) ∧ H2 d = some (exd d fs) ∧ H d = none ∧ E (.ref (cA mg "NoTable")) (some d) (upd (del H2 a) d (.xd fs))) (fun _ _ _ => False) :=
  L_mkO1 (fun _ _ _ _ h => h) fun d nd => q d _ (same_new nd) upd_same
def sp_need_rows (K : PySem.W.Frag) (mg : Str → Option Value) : Sp := fun vs H Q E => match vs with | [v] => Tab K mg H v E (fun _ _ _ => ∀ H', Same H H' → Q .non H') | _ => False
theorem c_need_rows (T : Txt K mg) : CalX P w K mg base 3 "need_rows" (sp_need_rows K mg) := by
  refine T.d_need_rows.calX (k := 2) sc_need_rows (by intro vs H Q E h; unfold sp_need_rows at h; split at h <;> first | rfl | exact h.elim) fun f cdv A outer s H vs Q E hr h => ?_
  refine ⟨_, (pss_cons (ps_if (PW.pt (pw_or (pt_not (pt_val (pe_callB call_isi (by rfl) T.n_isinstance (by decide +kernel) (pa_cons (pv 0) (pa_cons (pe_ty "list" (by rfl) T.n_list (by decide +kernel)) pa_nil))))) (pw_or1 (pt_cmpR (op_eqA hr) (pe_callB call_lenA (by rfl) T.n_len (by decide +kernel) (pa_cons (pv 0) pa_nil)) pe_int (nomark _)))))
    (pss_one (ps_raise rfl (takes_of rfl rfl rfl rfl) (pmk_x (x_NoTable T) T.o_NoTable hr (by decide) (by rfl) (pa_cons pe_int pa_nil))))
    pss_nil)
    (pss_cons (ps_if (pt_cmpR op_gt (pe_callB call_lenA (by rfl) T.n_len (by decide +kernel) (pa_cons (pv 0) pa_nil)) (pe_gc (by rfl) T.g_MOST_WARES) (nomark _))
    (pss_one (ps_raise rfl (takes_of rfl rfl rfl rfl) (pmk_x (x_NoTable T) T.o_NoTable hr (by decide) (by rfl) (pa_cons (pe_gc (by rfl) T.g_MOST_WARES) pa_nil))))
    pss_nil)
    (pss_cons (ps_for (passes_of rfl) rfl (pi_enum (by rfl) T.n_enumerate (pa_cons (pv 0) pa_nil)) (pg_tup rfl (pgs_cons (pg_name (i := 1) sc_need_rows.nd rfl (.inl rfl)) (pgs_cons (pg_name (i := 2) sc_need_rows.nd rfl (.inl rfl)) pgs_nil)))
    (pss_one (ps_if (pt_not (pt_val (pe_c (c_is_row T) hr (by decide) (by rfl) (pa_cons (pv 2) pa_nil))))
    (pss_one (ps_raise rfl (takes_of rfl rfl rfl rfl) (pmk_x (x_NoTable T) T.o_NoTable hr (by decide) (by rfl) (pa_cons (pv 1) pa_nil))))
    pss_nil)))
    (pss_cons (ps_asg (pe_ix ix_seq (pv 0) (pe_un un_neg pe_int) (fun _ _ => rfl)) (pg_tup rfl (pgs_cons (pg_name (i := 3) sc_need_rows.nd rfl (.inl rfl)) (pgs_cons (pg_name (i := 4) sc_need_rows.nd rfl (.inl rfl)) pgs_nil))))
    (pss_one (ps_if (pt_cmpR (op_neA hr) (pv 4) (pe_op op_addA (pv 3) pe_int) (nomark _))
    (pss_one (ps_raise rfl (takes_of rfl rfl rfl rfl) (pmk_x (x_NoTable T) T.o_NoTable hr (by decide) (by rfl) (pa_cons (pe_op op_sub (pe_callB call_lenA (by rfl) T.n_len (by decide +kernel) (pa_cons (pv 0) pa_nil)) pe_int) pa_nil))))
    pss_nil)))))), ?_⟩
  try simp only [cxOf_K, cxOf_K', cxOf_mg, cxOf_mg']
  unfold sp_need_rows at h
  split at h
  case h_2 => exact h.elim
  rename_i v
  rw [show L2.start ["rows", "number", "row", "let", "turn"] [v] = [some (v), none, none, none, none] from rfl]
  rcases h with ⟨⟨ty, h1, h2⟩, q⟩ | ⟨a, us, Ds, rfl, hL, hA, hl, hR, q1, q2⟩
  · walk_at "sts"
    refine L_isi h1 h2 ?_
    walk_at "sts"
    refine L_mkO ?_
    walk_at "sts"
    exact q_noT q
  have hul := hA.len
  walk_at "sts"
  refine L_isi (tyx_L hL) (b := true) (by decide +kernel) ?_
  walk_at "sts"
  refine L_lenL hL ?_
  walk_at "sts"
  refine L_d (fun c1 => ?_) (fun c1 => ?_)
  · walk_at "sts"
    refine L_mkO ?_
    walk_at "sts"
    refine q_noT (q1 0 ?_)
    unfold badT
    rw [if_pos (by omega)]
  walk_at "sts"
  refine L_lenL hL ?_
  walk_at "sts"
  refine L_d (fun c2 => ?_) (fun c2 => ?_)
  · walk_at "sts"
    refine L_mkO ?_
    walk_at "sts"
    refine q_noT (q1 24 ?_)
    unfold badT
    rw [if_neg (by omega), if_pos (by omega)]
  have hbt : badT Ds = match fb 0 Ds with
    | some k => some k
    | none => if (Ds.getLast?.map shut).getD false = true then none else some (Ds.length - 1) := by
    unfold badT
    rw [if_neg (by omega), if_neg (by omega)]
  walk_at "sts"
  refine L_re hL ?_
  refine f_it walk_enum (fun i σ' H' => Same H H' ∧ (∃ v1 v2, σ' = [some (.ref a), v1, v2, none, none]) ∧ fb 0 Ds = fb i (Ds.drop i)) ⟨Same.refl _, ⟨_, _, rfl⟩, by rw [List.drop_zero]⟩ (fun _ _ _ _ p => p.1.seq hL) ?_ ?_
  · rintro i x σ' H4 H4' hi ⟨s4, ⟨v1, v2, rfl⟩, hk⟩ ⟨T1, k0, t0, rfl, hT, rfl, hk0, hx⟩
    cases hk0
    replace hx : us[i]? = some t0 := hx
    obtain ⟨D, h1, h2⟩ := hA.of hx
    have hd : Ds.drop i = D :: Ds.drop (i + 1) := by
      obtain ⟨hlt, e⟩ := List.getElem?_eq_some_iff.mp h1
      rw [← e]
      exact List.drop_eq_getElem_cons hlt
    rw [hd, fb] at hk
    refine L_gTup (.of upd_same) rfl ?_
    have s4b := same_upd (o := HO.tup [V.int (i : Int), t0]) s4 hT
    walk_at "sts"
    refine ⟨D, h2.same s4b, hR D (List.mem_of_getElem? h1), ?_⟩
    cases hg : goodRow D with
    | true =>
      rw [hg, if_pos rfl] at hk
      walk_at "sts"
      exact ⟨s4b, ⟨_, _, rfl⟩, hk⟩
    | false =>
      rw [hg, if_neg Bool.false_ne_true] at hk
      walk_at "sts"
      refine L_mkO ?_
      walk_at "sts"
      refine q_noT (fun d H' s => q1 i ?_ d H' (s4b.trans s))
      rw [hbt, hk]
  · rintro σ' H4 ⟨s4, ⟨v1, v2, rfl⟩, hk⟩
    rw [show Ds.drop us.length = [] from List.drop_eq_nil_of_le (by omega)] at hk
    replace hk : fb 0 Ds = none := hk
    obtain ⟨rows, rfl, hok⟩ := rows_of (fb_none hk)
    rw [List.length_map] at hul
    rw [hk] at hbt
    have hi : us[us.length - 1]? = some us[us.length - 1] := List.getElem?_eq_getElem (by omega)
    obtain ⟨r, t, hr, ht, hRT⟩ := hit2 hA hi
    have hgl : rows.getLast? = some r := by rw [List.getLast?_eq_getElem?, ← hul, hr]
    rw [List.getLast?_map, hgl] at hbt
    replace hbt : badT (rows.map d2) = if decide (r.2 = r.1 + 1) = true then none else some ((rows.map d2).length - 1) := hbt
    walk_at "sts"
    refine L_ixL (s4.seq hL) (v := .ref t) ?_ ?_
    · unfold atI ixN
      rw [if_neg (by decide), if_pos (by omega)]
      show us[((-1 : Int) + us.length).toNat]? = _
      rw [show ((-1 : Int) + us.length).toNat = us.length - 1 by omega, hi, ht]
    refine L_gTup (s4.seqT hRT) rfl ?_
    walk_at "sts"
    refine L_nd (fun c3 => ?_) (fun c3 => ?_)
    · walk_at "sts"
      refine L_mkO ?_
      walk_at "sts"
      refine L_lenL (s4.seq hL) ?_
      walk_at "sts"
      rw [show ((us.length : Nat) : Int) - 1 = ((us.length - 1 : Nat) : Int) by omega]
      refine q_noT (fun d H' s => q1 (us.length - 1) ?_ d H' (s4.trans s))
      rw [hbt, decide_eq_false c3, if_neg Bool.false_ne_true, List.length_map, hul]
    · rw [decide_eq_true c3, if_pos rfl] at hbt
      obtain ⟨rows', he, ho⟩ := badT_none hbt
      exact q2 rows' he ho _ s4
def sp_Looks___init__ (K : PySem.W.Frag) (mg : Str → Option Value) : Sp := fun vs H Q E => match vs with | [.ref x, v] => ∃ dx, H x = some (.ins (cA mg "Looks") dx []) ∧ Tab K mg H v E (fun _ us _ => ∀ p H', H p = none → (∀ b o, H b = some o → b ≠ x → H' b = some o) → H' p = some (.lst us) → H' x = some (.ins (cA mg "Looks") dx [("looks", .ref p)]) → Q .non H') | _ => False
theorem m_Looks (T : Txt K mg) : MakX P w K mg base 4 "Looks" (cA mg "Looks") (sp_Looks___init__ K mg) := by
  refine InitAt.makX T.m_Looks T.i_Looks (k := 3) sc_Looks___init__ (by intro vs H Q E h; unfold sp_Looks___init__ at h; split at h <;> first | rfl | exact h.elim) fun f cdv A outer s H vs Q E hr h => ?_
  refine ⟨_, (pss_cons (ps_expr (pe_xS (c_need_rows T) hr (by decide) (by rfl) (fun σ => passAt (takes_of rfl rfl rfl rfl) σ) (pa_cons (pv 1) pa_nil)))
    (pss_one (ps_fld (pv 0) (pe_callTy call_list1A (by rfl) T.n_list (by decide +kernel) (pa_cons (pv 1) pa_nil)) rfl))), ?_⟩
  try simp only [cxOf_K, cxOf_K', cxOf_mg, cxOf_mg']
  unfold sp_Looks___init__ at h
  split at h
  case h_2 => exact h.elim
  rename_i x v
  rw [show L2.start ["self", "rows"] [V.ref x, v] = [some (V.ref x), some (v)] from rfl]
  obtain ⟨dx, hx, h⟩ := h
  walk_at "sts"
  rcases h with h | ⟨a, us, Ds, rfl, hL, hA, hl, hR, q1, q2⟩
  · exact .inl h
  refine .inr ⟨a, us, Ds, rfl, hL, hA, hl, hR, q1, fun rows e ho H1 s1 => ?_⟩
  have q := q2 rows e ho
  walk_at "sts"
  refine L_list1 (s1.seq hL) ?_
  walk_at "nwp"
  rename_i p2 hp2 H2 s2 e2
  walk_at "sts"
  have hx2 := (s1.trans s2) _ _ hx
  refine L_sFldv hx2 T.k_Looks T.na_Looks_looks (by decide) ?_
  have n2 : p2 ≠ x := ne_new hp2 ⟨_, s1 _ _ hx⟩
  refine q p2 _ (s1.free hp2) (fun b o hb ne => by rw [upd_ne ne]; exact (s1.trans s2) _ _ hb) (by rw [upd_ne n2]; exact e2) ?_
  rw [upd_same]
  rfl
/-- an object of the class, its rows -/
def LK (K : PySem.W.Frag) (mg : Str → Option Value) (H : Hp) (x : Addr) (rows : List (Int × Int)) : Prop := ∃ (dx p : Addr) (us : List V), H x = some (.ins (cA mg "Looks") dx [("looks", .ref p)]) ∧ H p = some (.lst us) ∧ DpAll K H us (rows.map d2) ∧ OkT rows
theorem LK.same {K : PySem.W.Frag} {mg : Str → Option Value} {H H' : Hp} {x : Addr} {rows : List (Int × Int)} (h : LK K mg H x rows) (s : Same H H') : LK K mg H' x rows := by
  obtain ⟨dx, p, us, h1, h2, h3, h4⟩ := h
  exact ⟨dx, p, us, s _ _ h1, s _ _ h2, h3.same s, h4⟩
def sp_Looks_word_at (K : PySem.W.Frag) (mg : Str → Option Value) : Sp := fun vs H Q _ => match vs with | [.ref x, .int k, .int f] => ∃ (rows : List (Int × Int)) (r : Int × Int), LK K mg H x rows ∧ 1 ≤ k ∧ rows[(k - 1).toNat]? = some r ∧ Q (.str (word r f)) H | _ => False
theorem q_Looks_word_at {H : Hp} {Q : VK} {E : XK} {x : Addr} {k : Int} {f : Int} (q : ∃ (rows : List (Int × Int)) (r : Int × Int), LK K mg H x rows ∧ 1 ≤ k ∧ rows[(k - 1).toNat]? = some r ∧ Q (.str (word r f)) H) : sp_Looks_word_at K mg [.ref x, .int k, .int f] H Q E := q
local macro_rules | `(tactic| walk_at "op") => `(tactic| with_reducible refine q_Looks_word_at ?_)
theorem c_Looks_word_at (T : Txt K mg) : Met P w K mg base 1 (cA mg "Looks") "word_at" (sp_Looks_word_at K mg) := by
  refine MethAt.met T.k_Looks T.d_Looks_word_at (k := 0) sc_Looks_word_at (by intro vs H Q E h; unfold sp_Looks_word_at at h; split at h <;> first | rfl | exact h.elim) fun f cdv A outer s H vs Q E hr h => ?_
  refine ⟨_, (pss_cons (ps_asg (pe_ix ix_seq (pe_fld (pv 0) rfl) (pe_op op_sub (pv 1) pe_int) (fun _ _ => rfl)) (pg_tup rfl (pgs_cons (pg_name (i := 3) sc_Looks_word_at.nd rfl (.inl rfl)) (pgs_cons (pg_name (i := 4) sc_Looks_word_at.nd rfl (.inl rfl)) pgs_nil))))
    (pss_cons (ps_if (pt_cmpR op_leA (pv 2) (pv 3) (nomark _))
    (pss_one (ps_ret pe_str))
    pss_nil)
    (pss_cons (ps_if (pt_cmpR op_ge (pv 2) (pv 4) (nomark _))
    (pss_one (ps_ret pe_str))
    pss_nil)
    (pss_one (ps_ret pe_str))))), ?_⟩
  try simp only [cxOf_K, cxOf_K', cxOf_mg, cxOf_mg']
  unfold sp_Looks_word_at at h
  split at h
  case h_2 => exact h.elim
  rename_i x k f
  rw [show L2.start ["self", "looked", "found", "let", "turn"] [V.ref x, V.int k, V.int f] = [some (V.ref x), some (V.int k), some (V.int f), none, none] from rfl]
  obtain ⟨rows, r, ⟨dx, p, us, hx, hp, hA, _⟩, hk, hr, q⟩ := h
  have hul := hA.len
  rw [List.length_map] at hul
  have hi := (List.getElem?_eq_some_iff.mp hr).1
  obtain ⟨r', t, hr', ht, hRT⟩ := hit2 hA (List.getElem?_eq_getElem (show (k - 1).toNat < us.length by omega))
  rw [hr] at hr'
  cases hr'
  walk_at "sa"
  refine L_ixL (.of hp) (atI_int (by omega) (List.getElem?_eq_getElem (show (k - 1).toNat < us.length by omega))) ?_
  rw [ht]
  refine L_gTup hRT rfl ?_
  unfold word at q
  walk_at "sts"
  refine L_d (fun c1 => ?_) (fun c1 => ?_)
  · rw [if_pos c1] at q
    walk_at "sts"
    exact q
  rw [if_neg c1] at q
  walk_at "sts"
  refine L_d (fun c2 => ?_) (fun c2 => ?_)
  · rw [if_pos c2] at q
    walk_at "sts"
    exact q
  rw [if_neg c2] at q
  walk_at "sts"
  exact q
/-- no lot for a table of n rows -/
def BadLot (K : PySem.W.Frag) (H : Hp) (n : Nat) (v w : V) : Prop := BadW K H v (n : Int) 24 ∨ ∃ lot : Int, v = .int lot ∧ (n : Int) ≤ lot ∧ lot ≤ 24 ∧ BadW K H w 0 lot
def Lot (n : Nat) (v w : V) (lot bad : Int) : Prop := v = .int lot ∧ w = .int bad ∧ (n : Int) ≤ lot ∧ lot ≤ 24 ∧ 0 ≤ bad ∧ bad ≤ lot
def sp_Looks_need_lot (K : PySem.W.Frag) (mg : Str → Option Value) : Sp := fun vs H Q E => match vs with | [.ref x, v, w] => ∃ rows, LK K mg H x rows ∧ ((BadLot K H rows.length v w ∧ E (.ref (cA mg "NoLot")) none H) ∨ ∃ lot bad, Lot rows.length v w lot bad ∧ Q .non H) | _ => False
theorem c_Looks_need_lot (T : Txt K mg) : MetX P w K mg base 2 (cA mg "Looks") "need_lot" (sp_Looks_need_lot K mg) := by
  refine MethAt.metX T.k_Looks T.d_Looks_need_lot (k := 1) sc_Looks_need_lot (by intro vs H Q E h; unfold sp_Looks_need_lot at h; split at h <;> first | rfl | exact h.elim) fun f cdv A outer s H vs Q E hr h => ?_
  refine ⟨_, (pss_one (ps_if (PW.pt (pw_or (pt_not (pt_val (pe_c (c_is_whole T) hr (by decide) (by rfl) (pa_cons (pv 1) (pa_cons (pe_callB call_lenA (by rfl) T.n_len (by decide +kernel) (pa_cons (pe_fld (pv 0) rfl) pa_nil)) (pa_cons (pe_gc (by rfl) T.g_MOST_WARES) pa_nil)))))) (pw_or1 (pt_not (pt_val (pe_c (c_is_whole T) hr (by decide) (by rfl) (pa_cons (pv 2) (pa_cons pe_int (pa_cons (pv 1) pa_nil)))))))))
    (pss_one (ps_raise rfl (takes_of rfl rfl rfl rfl) (pmk_own0 T.x_NoLot T.m_NoLot (by rfl))))
    pss_nil)), ?_⟩
  try simp only [cxOf_K, cxOf_K', cxOf_mg, cxOf_mg']
  unfold sp_Looks_need_lot at h
  split at h
  case h_2 => exact h.elim
  rename_i x v w
  rw [show L2.start ["self", "lot", "bad"] [V.ref x, v, w] = [some (V.ref x), some (v), some (w)] from rfl]
  obtain ⟨rows, ⟨dx, p, us, hx, hp, hA, ho⟩, h⟩ := h
  have hul := hA.len
  rw [List.length_map] at hul
  walk_at "sa"
  rw [hul]
  rcases h with ⟨hb | ⟨lot, rfl, l0, l1, hb⟩, q⟩ | ⟨lot, bad, ⟨rfl, rfl, l0, l1, b0, b1⟩, q⟩
  · refine q_wholeB hb ?_
    walk_at "sts"
    exact q
  · refine q_wholeT ⟨l0, l1⟩ ?_
    walk_at "sts"
    refine q_wholeB hb ?_
    walk_at "sts"
    exact q
  · refine q_wholeT ⟨l0, l1⟩ ?_
    walk_at "sts"
    exact q
/-- how many sets, as it is reckoned -/
def chs (many : Int) : Nat → Int
  | 0 => 1
  | k + 1 => chs many k * (many - (k : Int)) / ((k : Int) + 1)
theorem chs_b {many : Int} (h0 : 0 ≤ many) (h1 : many ≤ 24) : ∀ {k : Nat}, (k : Int) ≤ many → 0 ≤ chs many k ∧ chs many k ≤ 24 ^ k
  | 0, _ => ⟨show (0 : Int) ≤ 1 by decide, show (1 : Int) ≤ 24 ^ 0 by decide⟩
  | k + 1, hk => by
    obtain ⟨a, b⟩ := chs_b h0 h1 (k := k) (by omega)
    have e1 : 0 ≤ chs many k * (many - (k : Int)) := Int.mul_nonneg a (by omega)
    have e2 : chs many k * (many - (k : Int)) ≤ 24 ^ k * 24 := Int.mul_le_mul b (by omega) (by omega) (Int.pow_nonneg (by decide))
    show 0 ≤ chs many k * (many - (k : Int)) / ((k : Int) + 1) ∧ chs many k * (many - (k : Int)) / ((k : Int) + 1) ≤ 24 ^ (k + 1)
    refine ⟨Int.ediv_nonneg e1 (by omega), ?_⟩
    rw [Int.pow_succ]
    exact Int.le_trans (Int.ediv_le_self _ e1) e2
theorem pow24 {k : Nat} (h : k ≤ 24) : (24 : Int) ^ k ≤ 2 ^ 120 := by
  have h1 : (24 : Int) ^ k ≤ 32 ^ k := by
    induction k with
    | zero => decide
    | succ k ih =>
      rw [Int.pow_succ, Int.pow_succ]
      exact Int.mul_le_mul (ih (by omega)) (by decide) (by decide) (Int.pow_nonneg (by decide))
  have h2 : (32 : Int) ^ k = 2 ^ (5 * k) := by rw [Int.pow_mul]; rfl
  have h3 : (2 : Nat) ^ (5 * k) ≤ 2 ^ 120 := Nat.pow_le_pow_right (by decide) (by omega)
  have h4 : ((2 : Nat) ^ (5 * k) : Int) ≤ ((2 : Nat) ^ 120 : Int) := by exact_mod_cast h3
  rw [h2] at h1
  exact Int.le_trans h1 h4
theorem chs_ch {n : Nat} : ∀ {k : Nat}, k ≤ n → chs (n : Int) k = (ch n k : Nat)
  | 0, _ => by rw [ch_zero]; rfl
  | k + 1, h => by
    rw [chs, chs_ch (show k ≤ n by omega)]
    have e := ch_next (n := n) (k := k) (by omega)
    have e2 : (((ch n k : Nat) : Int) * ((n : Int) - (k : Int))) = ((k : Int) + 1) * ((ch n (k + 1) : Nat) : Int) := by
      rw [show ((n : Int) - (k : Int)) = ((n - k : Nat) : Int) by omega, show ((k : Int) + 1) = ((k + 1 : Nat) : Int) by omega, Int.mul_comm]
      exact_mod_cast e.symm
    rw [e2, Int.mul_ediv_cancel_left _ (by omega)]
theorem chs_pos {many : Int} (h1 : many ≤ 24) {k : Nat} (hk : (k : Int) ≤ many) : 1 ≤ chs many k ∧ Bd 128 (chs many k) := by
  obtain ⟨n, rfl⟩ : ∃ n : Nat, many = n := ⟨many.toNat, by omega⟩
  have hb := chs_b (by omega) h1 hk
  have p24 := pow24 (show k ≤ 24 by omega)
  refine ⟨?_, bd_128 (by omega)⟩
  rw [chs_ch (by omega)]
  have := ch_pos (n := n) (k := k) (by omega)
  omega
def sp_sets_of (K : PySem.W.Frag) (mg : Str → Option Value) : Sp := fun vs H Q _ => match vs with | [.int many, .int some_] => 0 ≤ some_ ∧ some_ ≤ many ∧ many ≤ 24 ∧ Q (.int (chs many some_.toNat)) H | _ => False
theorem q_sets_of {H : Hp} {Q : VK} {E : XK} {many : Int} {some_ : Int} (q : 0 ≤ some_ ∧ some_ ≤ many ∧ many ≤ 24 ∧ Q (.int (chs many some_.toNat)) H) : sp_sets_of K mg [.int many, .int some_] H Q E := q
local macro_rules | `(tactic| walk_at "op") => `(tactic| with_reducible refine q_sets_of ?_)
theorem c_sets_of (T : Txt K mg) : Cal P w K mg base 1 "sets_of" (sp_sets_of K mg) := by
  refine T.d_sets_of.cal (k := 0) sc_sets_of (by intro vs H Q E h; unfold sp_sets_of at h; split at h <;> first | rfl | exact h.elim) fun f cdv A outer s H vs Q E hr h => ?_
  refine ⟨_, (pss_cons (ps_set (i := 2) sc_sets_of.nd rfl (.inl rfl) pe_int)
    (pss_cons (ps_for PassesOwn.never rfl (pi_range1 (by rfl) T.n_range (pa_cons (pv 1) pa_nil)) (pg_name (i := 3) sc_sets_of.nd rfl (.inl rfl))
    (pss_one (ps_set (i := 2) sc_sets_of.nd rfl (.inl rfl) (pe_op op_fdivW (pe_op op_mulA (pv 2) (pe_op op_sub (pv 0) (pv 3))) (pe_op op_addA (pv 3) pe_int)))))
    (pss_one (ps_ret (pv 2))))), ?_⟩
  try simp only [cxOf_K, cxOf_K', cxOf_mg, cxOf_mg']
  unfold sp_sets_of at h
  split at h
  case h_2 => exact h.elim
  rename_i many some_
  rw [show L2.start ["many", "some", "found", "k"] [V.int many, V.int some_] = [some (V.int many), some (V.int some_), none, none] from rfl]
  obtain ⟨h0, h1, h2, q⟩ := h
  walk_at "sts"
  refine L_r1 (by omega) (by omega) ?_
  refine f_range (fun k σ' H' => H' = H ∧ ∃ v3 : Option V, σ' = [some (.int many), some (.int some_), some (.int (chs many k)), v3]) ⟨rfl, _, rfl⟩ ?_ ?_
  · rintro k σ' H' hk ⟨rfl, v3, rfl⟩
    obtain ⟨a, b⟩ := chs_b (by omega : 0 ≤ many) h2 (k := k) (by omega)
    have p24 := pow24 (show k ≤ 24 by omega)
    have b128 : Bd 128 (chs many k) := bd_128 (by omega)
    walk_at "sts"
    refine L_mulI (b128.cmul (bd_64 (by omega))) ?_
    walk_at "sts"
    refine L_I ((bd_64 (by omega)).cdiv (by omega)) ?_
    walk_at "sts"
    exact ⟨rfl, _, by rw [Int.zero_add]; rfl⟩
  · rintro σ' H' ⟨rfl, v3, rfl⟩
    walk_at "sts"
    exact q
theorem DGr.len {kvs : List (Key × V)} {g : Int → Int} (hg : DGr kvs g) {n : Nat} (hb : ∀ f, g f ≠ 0 → 0 ≤ f ∧ f < n) : kvs.length ≤ n := by
  obtain ⟨ks, h1, h2, h3, h4⟩ := hg
  have : ks.Perm (keysOf n g) := (List.perm_ext_iff_of_nodup h2 ((upN_lt n).imp (fun h => by omega) |>.filter _)).mpr fun x => by
    rw [h3, List.mem_filter, upN_mem, decide_eq_true_eq]
    exact ⟨fun z => ⟨hb x z, z⟩, fun z => z.2⟩
  have e := congrArg List.length h1
  rw [List.length_map, List.length_map, this.length_eq] at e
  have : (keysOf n g).length ≤ (upN n).length := List.length_filter_le ..
  rw [show (upN n).length = n by unfold upN; rw [List.length_map, List.length_range]] at this
  omega
theorem keysOf_mem {n : Nat} {g : Int → Int} {f : Int} : f ∈ keysOf n g ↔ (0 ≤ f ∧ f < n) ∧ g f ≠ 0 := by
  unfold keysOf
  rw [List.mem_filter, upN_mem, decide_eq_true_eq]
theorem keysOf_nodup {n : Nat} {g : Int → Int} : (keysOf n g).Nodup := ((upN_lt n).imp (fun h => by omega) : (upN n).Pairwise (· ≠ ·)).filter _
theorem sum_one {g : Int → Int} {f : Int} : ∀ {l : List Int}, l.Nodup → (l.map fun y => if f = y then g y else 0).sum = if f ∈ l then g f else 0
  | [], _ => by simp
  | y :: l, h => by
    rw [List.nodup_cons] at h
    rw [List.map_cons, List.sum_cons, sum_one h.2]
    by_cases e : f = y
    · subst e
      rw [if_pos rfl, if_neg h.1, if_pos (List.mem_cons_self ..)]
      omega
    · rw [if_neg e, Int.zero_add]
      by_cases hm : f ∈ l
      · rw [if_pos hm, if_pos (List.mem_cons_of_mem _ hm)]
      · rw [if_neg hm, if_neg (fun z => by
          rcases List.mem_cons.mp z with z | z
          · exact e z
          · exact hm z)]
/-- so many found so far may stand -/
def Gat (lot bad k f : Int) : Prop := f ≤ bad ∧ k - f ≤ lot - bad
instance (lot bad k f : Int) : Decidable (Gat lot bad k f) := inferInstanceAs (Decidable (_ ∧ _))
def pre (lot bad k : Int) (g : Int → Int) (f : Int) : Int := if Gat lot bad k f then g f + g (f - 1) else 0
def nx (r : Int × Int) (h : Int → Int) (f : Int) : Int := if word r f = Str.ofString "open" then h f else 0
abbrev Ent := Int × Int × Str × Int
def d4e (e : Ent) : PyData := .tuple [.int e.1, .int e.2.1, .str e.2.2.1, .int e.2.2.2]
def ent1 (lot bad k : Int) (r : Int × Int) (h : Int → Int) (f : Int) : Option Ent := if word r f = Str.ofString "open" then none else some (k, f, word r f, h f * chs (lot - k) (bad - f).toNat)
/-- the endings -/
def ends (lot bad : Int) : Int → (Int → Int) → List (Int × Int) → List Ent
  | _, _, [] => []
  | k, g, r :: rows => (keysOf 25 (pre lot bad k g)).filterMap (ent1 lot bad k r (pre lot bad k g)) ++ ends lot bad (k + 1) (nx r (pre lot bad k g)) rows
def g0 (f : Int) : Int := if f = 0 then 1 else 0
structure Gk (k : Nat) (g : Int → Int) : Prop where
  b : ∀ f, 0 ≤ g f ∧ g f ≤ 2 ^ k
  s : ∀ f, g f ≠ 0 → 0 ≤ f ∧ f ≤ k
theorem Gk.zero : Gk 0 g0 := ⟨fun f => by
  unfold g0
  split <;> decide, fun f h => by
  unfold g0 at h
  split at h
  · omega
  · exact absurd rfl h⟩
theorem Gk.pre {k : Nat} {g : Int → Int} (h : Gk k g) (lot bad c : Int) : Gk (k + 1) (pre lot bad c g) := by
  have e : (2 : Int) ^ (k + 1) = 2 * 2 ^ k := by rw [Int.pow_succ, Int.mul_comm]
  refine ⟨fun f => ?_, fun f hf => ?_⟩
  · have h1 := h.b f
    have h2 := h.b (f - 1)
    unfold My.pre
    rw [e]
    split <;> omega
  · unfold My.pre at hf
    split at hf
    · by_cases z : g f = 0
      · have := h.s (f - 1) (by omega)
        omega
      · have := h.s f z
        omega
    · exact absurd rfl hf
theorem Gk.nx {k : Nat} {h : Int → Int} (g : Gk k h) (r : Int × Int) : Gk k (nx r h) := by
  refine ⟨fun f => ?_, fun f hf => ?_⟩
  · have h1 := g.b f
    unfold My.nx
    split <;> omega
  · unfold My.nx at hf
    split at hf
    · exact g.s f hf
    · exact absurd rfl hf
theorem pow2_24 {k : Nat} (h : k ≤ 24) : (2 : Int) ^ k ≤ 16777216 := by
  have h3 : (2 : Nat) ^ k ≤ 2 ^ 24 := Nat.pow_le_pow_right (by decide) h
  have h4 : ((2 : Nat) ^ k : Int) ≤ ((2 : Nat) ^ 24 : Int) := by exact_mod_cast h3
  exact Int.le_trans h4 (by decide)
/-- what is added up of some keys -/
def sm (g : Int → Int) (l : List Int) (f : Int) : Int := (l.map fun y => if f = y then g y else 0).sum + (l.map fun y => if f - 1 = y then g y else 0).sum
def hj (lot bad c : Int) (g : Int → Int) (l : List Int) (y : Int) (j : Nat) (f : Int) : Int := if Gat lot bad c f then sm g l f + (if 1 ≤ j ∧ f = y then g y else 0) + (if 2 ≤ j ∧ f - 1 = y then g y else 0) else 0
theorem sum_nn {g : Int → Int} (hg : ∀ f, 0 ≤ g f) (f : Int) : ∀ l : List Int, 0 ≤ (l.map fun y => if f = y then g y else 0).sum
  | [] => by simp
  | y :: l => by
    have := sum_nn hg f l
    have := hg y
    rw [List.map_cons, List.sum_cons]
    split <;> omega
theorem hj_nn {lot bad c : Int} {g : Int → Int} (hg : ∀ f, 0 ≤ g f) (l : List Int) (y : Int) (j : Nat) (f : Int) : 0 ≤ hj lot bad c g l y j f := by
  unfold hj sm
  have h1 := sum_nn hg f l
  have h2 := sum_nn hg (f - 1) l
  have h3 := hg y
  split
  · split <;> split <;> omega
  · omega
theorem sm_snoc (g : Int → Int) (l : List Int) (y f : Int) : sm g (l ++ [y]) f = sm g l f + (if f = y then g y else 0) + (if f - 1 = y then g y else 0) := by
  unfold sm
  rw [List.map_append, List.map_append, List.sum_append, List.sum_append]
  simp only [List.map_cons, List.map_nil, List.sum_cons, List.sum_nil, Int.add_zero]
  omega
theorem sm_all {g : Int → Int} {k : Nat} (h : Gk k g) (hk : k ≤ 24) (f : Int) : sm g (keysOf 25 g) f = g f + g (f - 1) := by
  have one_ : ∀ f, (if f ∈ keysOf 25 g then g f else 0) = g f := fun f => by
    by_cases z : g f = 0
    · rw [z]; split <;> rfl
    · rw [if_pos (keysOf_mem.mpr ⟨by have := h.s f z; omega, z⟩)]
  unfold sm
  rw [sum_one keysOf_nodup, sum_one keysOf_nodup, one_, one_]
theorem hj_bd {lot bad c : Int} {g : Int → Int} {k : Nat} (h : Gk k g) {l : List Int} {y : Int} (hy : g y ≠ 0) (hl : ∀ z ∈ l, g z ≠ 0) (j : Nat) (f : Int) (hf : hj lot bad c g l y j f ≠ 0) : 0 ≤ f ∧ f ≤ k + 1 := by
  unfold hj sm at hf
  have hs : ∀ f, (l.map fun y => if f = y then g y else 0).sum ≠ 0 → f ∈ l := fun f => by
    clear hf hl
    induction l with
    | nil => intro h; exact absurd rfl h
    | cons z l ih =>
      intro h
      rw [List.map_cons, List.sum_cons] at h
      by_cases e : f = z
      · rw [e]; exact List.mem_cons_self ..
      · rw [if_neg e, Int.zero_add] at h
        exact List.mem_cons_of_mem _ (ih h)
  split at hf
  · by_cases e1 : (l.map fun y => if f = y then g y else 0).sum = 0
    · by_cases e2 : (l.map fun y => if f - 1 = y then g y else 0).sum = 0
      · rw [e1, e2] at hf
        have hyy := h.s y hy
        by_cases e3 : 1 ≤ j ∧ f = y
        · omega
        · rw [if_neg e3] at hf
          by_cases e4 : 2 ≤ j ∧ f - 1 = y
          · omega
          · rw [if_neg e4] at hf
            exact absurd rfl hf
      · have := h.s _ (hl _ (hs _ e2))
        omega
    · have := h.s _ (hl _ (hs _ e1))
      omega
  · exact absurd rfl hf
theorem hj_next {lot bad c : Int} {g : Int → Int} {l : List Int} {y : Int} {m : Nat} (hm : m < 2) (f : Int) : hj lot bad c g l y (m + 1) f = if f = y + (m : Int) ∧ Gat lot bad c f then hj lot bad c g l y m f + g y else hj lot bad c g l y m f := by
  unfold hj
  by_cases hG : Gat lot bad c f
  · simp only [if_pos hG, hG, and_true, if_true]
    obtain rfl | rfl : m = 0 ∨ m = 1 := by omega
    · simp only [show (1 ≤ 0) = False by simp, show (2 ≤ 0) = False by simp, show (1 ≤ 0 + 1) = True by simp, show (2 ≤ 0 + 1) = False by simp, false_and, true_and, if_false]
      by_cases e : f = y
      · rw [if_pos e, if_pos (by omega)]; omega
      · rw [if_neg e, if_neg (by omega)]
    · simp only [show (1 ≤ 1) = True by simp, show (2 ≤ 1) = False by simp, show (1 ≤ 1 + 1) = True by simp, show (2 ≤ 1 + 1) = True by simp, false_and, true_and, if_false]
      by_cases e : f - 1 = y
      · rw [if_pos e, if_pos (show f = y + ((1 : Nat) : Int) by omega)]; omega
      · rw [if_neg e, if_neg (show ¬ f = y + ((1 : Nat) : Int) by omega)]
  · rw [if_neg hG, if_neg hG, if_neg (fun z => hG z.2)]
theorem hj_put {lot bad c : Int} {g : Int → Int} {l : List Int} {y : Int} {m : Nat} (hm : m < 2) (hG : Gat lot bad c (y + m)) (f : Int) : (if f = y + (m : Int) then hj lot bad c g l y m f + g y else hj lot bad c g l y m f) = hj lot bad c g l y (m + 1) f := by
  rw [hj_next hm]
  by_cases e : f = y + (m : Int)
  · subst e
    rw [if_pos rfl, if_pos ⟨rfl, hG⟩]
  · rw [if_neg e, if_neg fun z => e z.1]
theorem hj_skip {lot bad c : Int} {g : Int → Int} {l : List Int} {y : Int} {m : Nat} (hm : m < 2) (hG : ¬ Gat lot bad c (y + m)) (f : Int) : hj lot bad c g l y m f = hj lot bad c g l y (m + 1) f := by
  rw [hj_next hm, if_neg]
  rintro ⟨rfl, h⟩
  exact hG h
theorem hj_zero {lot bad c : Int} {g : Int → Int} {l : List Int} {y y' f : Int} : hj lot bad c g l y 0 f = hj lot bad c g l y' 0 f := by
  unfold hj
  simp only [show (1 ≤ 0) = False by simp, show (2 ≤ 0) = False by simp, false_and, if_false]
theorem hj_two {lot bad c : Int} {g : Int → Int} {l : List Int} {y y' f : Int} : hj lot bad c g l y 2 f = hj lot bad c g (l ++ [y]) y' 0 f := by
  unfold hj
  simp only [show (1 ≤ 0) = False by simp, show (2 ≤ 0) = False by simp, show (1 ≤ 2) = True by simp, show (2 ≤ 2) = True by simp, true_and, false_and, if_false, sm_snoc, Int.add_zero]
theorem hj_all {lot bad c : Int} {g : Int → Int} {k : Nat} (h : Gk k g) (hk : k ≤ 24) {y f : Int} : hj lot bad c g (keysOf 25 g) y 0 f = pre lot bad c g f := by
  unfold hj pre
  simp only [show (1 ≤ 0) = False by simp, show (2 ≤ 0) = False by simp, false_and, if_false, Int.add_zero, sm_all h hk]
theorem hj_none {lot bad c : Int} {g : Int → Int} {y f : Int} : (0 : Int) = hj lot bad c g [] y 0 f := by
  unfold hj sm
  simp
theorem tp_rs {H : Hp} {p : Addr} {us : List V} (h : H p = some (.lst us)) : Same (tp H) (rs (· ≠ p) H) := rs_same fun a o ⟨xs, e⟩ z => ⟨fun w => (by
  rw [w, h] at e
  cases e), z⟩
theorem tp_grow {K : PySem.W.Frag} {H H' : Hp} {p q : Addr} {us ws xs : List V} {ds es : List PyData} (hA : DpAll K (tp H) us ds) (s : Same H H') (hp : H' p = some (.lst ws)) (hq : H' q = some (.tup xs)) (he : DpAll K (tp H') xs es) (o : HO) : DpAll K (tp (upd H' p o)) (us ++ [.ref q]) (ds ++ [.tuple es]) := by
  have e1 : Same (tp H') (tp (upd H' p o)) := tp_upd fun xs z => by rw [hp] at z; cases z
  exact (hA.same ((tp_of s).trans e1)).snoc ((Dp.tup (.of (tp_at hq)) he).same e1)
def sp_Looks_endings (K : PySem.W.Frag) (mg : Str → Option Value) : Sp := fun vs H Q E => match vs with | [.ref x, v, w] => ∃ rows, LK K mg H x rows ∧ ((BadLot K H rows.length v w ∧ E (.ref (cA mg "NoLot")) none H) ∨ ∃ lot bad, Lot rows.length v w lot bad ∧ ∀ p us H', H p = none → Same H H' → H' p = some (.lst us) → DpAll K (rs (· ≠ p) H') us ((ends lot bad 1 g0 rows).map d4e) → Q (.ref p) H') | _ => False
theorem c_Looks_endings (T : Txt K mg) : MetX P w K mg base 3 (cA mg "Looks") "endings" (sp_Looks_endings K mg) := by
  refine MethAt.metX T.k_Looks T.d_Looks_endings (k := 2) sc_Looks_endings (by intro vs H Q E h; unfold sp_Looks_endings at h; split at h <;> first | rfl | exact h.elim) fun f cdv A outer s H vs Q E hr h => ?_
  refine ⟨_, (pss_cons (ps_expr (pe_xMt (c_Looks_need_lot T) hr (by decide) (fun σ => passAt (takes_of rfl rfl rfl rfl) σ) (pv 0) (pa_cons (pv 1) (pa_cons (pv 2) pa_nil))))
    (pss_cons (ps_set (i := 3) sc_Looks_endings.nd rfl (.inl rfl) (pe_lst pa_nil))
    (pss_cons (ps_set (i := 4) sc_Looks_endings.nd rfl (.inl rfl) (pe_disp (pps_cons pe_int pe_int pps_nil) (by rfl) (by rfl) (fun z => by cases z) (by decide)))
    (pss_cons (ps_for (passes_of rfl) rfl (pi_range2 (by rfl) T.n_range (pa_cons pe_int (pa_cons (pe_op op_addA (pe_callB call_lenA (by rfl) T.n_len (by decide +kernel) (pa_cons (pe_fld (pv 0) rfl) pa_nil)) pe_int) pa_nil))) (pg_name (i := 5) sc_Looks_endings.nd rfl (.inl rfl))
    (pss_cons (ps_set (i := 6) sc_Looks_endings.nd rfl (.inl rfl) pe_dnewK)
    (pss_cons (ps_for (passes_of rfl) rfl (pi_list (pe_callB (cr_sortDI rfl) (by rfl) T.n_sorted (by decide +kernel) (pa_cons (pv 4) pa_nil))) (pg_name (i := 7) sc_Looks_endings.nd rfl (.inl rfl))
    (pss_one (ps_for (passes_of rfl) rfl (pi_tup (pe_tup (pa_cons pe_int (pa_cons pe_int pa_nil)))) (pg_name (i := 8) sc_Looks_endings.nd rfl (.inl rfl))
    (pss_one (ps_if (PW.pt (pw_and (pt_cmpR op_leA (pe_op op_addA (pv 7) (pv 8)) (pv 2) (nomark _)) (pw_and1 (pt_cmpR op_leA (pe_op op_sub (pe_op op_sub (pv 5) (pv 7)) (pv 8)) (pe_op op_sub (pv 1) (pv 2)) (nomark _)))))
    (pss_one (ps_dput (hu_of hr) (pv 6) (pe_op op_addA (pv 7) (pv 8)) (pe_op op_addA (pe_dget2 (hu_of hr) (pv 6) (pe_op op_addA (pv 7) (pv 8)) pe_int ⟨rfl, rfl, rfl, rfl⟩) (pe_dget (hu_of hr) (pv 4) (pv 7) (fun _ _ => rfl))) rfl))
    pss_nil)))))
    (pss_cons (ps_set (i := 4) sc_Looks_endings.nd rfl (.inl rfl) pe_dnewK)
    (pss_one (ps_for (passes_of rfl) rfl (pi_list (pe_callB (cr_sortDI rfl) (by rfl) T.n_sorted (by decide +kernel) (pa_cons (pv 6) pa_nil))) (pg_name (i := 7) sc_Looks_endings.nd rfl (.inl rfl))
    (pss_cons (ps_set (i := 9) sc_Looks_endings.nd rfl (.inl rfl) (pe_mt (c_Looks_word_at T) hr (by decide) (pv 0) (pa_cons (pv 5) (pa_cons (pv 7) pa_nil))))
    (pss_one (ps_if (pt_cmpR (op_eqA hr) (pv 9) pe_str (nomark _))
    (pss_one (ps_dput (hu_of hr) (pv 4) (pv 7) (pe_dget (hu_of hr) (pv 6) (pv 7) (fun _ _ => rfl)) rfl))
    (pss_one (ps_expr (pe_bm PySem.F.plainAttrs_list PySem.F.slot_list_append PySem.F.type_list_append mt_append (pv 3) (pa_cons (pe_tup (pa_cons (pv 5) (pa_cons (pv 7) (pa_cons (pv 9) (pa_cons (pe_op op_mulA (pe_dget (hu_of hr) (pv 6) (pv 7) (fun _ _ => rfl)) (pe_c (c_sets_of T) hr (by decide) (by rfl) (pa_cons (pe_op op_sub (pv 1) (pv 5)) (pa_cons (pe_op op_sub (pv 2) (pv 7)) pa_nil)))) pa_nil))))) pa_nil)))))))))))))
    (pss_one (ps_ret (pv 3))))))), ?_⟩
  try simp only [cxOf_K, cxOf_K', cxOf_mg, cxOf_mg']
  unfold sp_Looks_endings at h
  split at h
  case h_2 => exact h.elim
  rename_i x v w
  rw [show L2.start ["self", "lot", "bad", "told", "ways", "looked", "further", "found", "more", "word"] [V.ref x, v, w] = [some (V.ref x), some (v), some (w), none, none, none, none, none, none, none] from rfl]
  obtain ⟨rows, hx, h⟩ := h
  rcases h with ⟨hb, q⟩ | ⟨lot, bad, hlot, q⟩
  · obtain ⟨dx, p, us, h1, h2, h3, h4⟩ := hx
    walk_at "sts"
    refine L_methv h1 rfl ?_
    walk_at "sts"
    refine ⟨rows, ⟨dx, p, us, h1, h2, h3, h4⟩, .inl ⟨hb, ?_⟩⟩
    exact q
  obtain ⟨dx, p, us, h1, h2, h3, ho⟩ := hx
  have hx : LK K mg H x rows := ⟨dx, p, us, h1, h2, h3, ho⟩
  have hlot' := hlot
  obtain ⟨rfl, rfl, l0, l1, b0, b1⟩ := hlot
  have hul := h3.len
  rw [List.length_map] at hul
  have hrl := ho.len
  walk_at "sts"
  refine L_methv h1 rfl ?_
  walk_at "sts"
  refine ⟨rows, hx, .inr ⟨lot, bad, hlot', ?_⟩⟩
  walk_at "sts"
  walk_at "nw"
  rename_i pt hpt H1 s1 e1
  walk_at "sts"
  intro pw hpw
  walk_at "sts"
  refine ⟨upd_same, [(Sum.inl 0, .int 1)], rfl, by simp, ?_⟩
  rw [show mergeK [] [((Sum.inl 0 : Key), V.int 1)] = [(Sum.inl 0, V.int 1)] from rfl]
  rw [L2.upd_upd]
  have s2 := same_new (o := .dK [(Sum.inl 0, .int 1)]) hpw
  have e2 : (upd H1 pw (.dK [(Sum.inl 0, .int 1)])) pw = _ := upd_same
  generalize upd H1 pw (.dK [(Sum.inl 0, .int 1)]) = H2 at s2 e2
  have hd0 : DGr [(Sum.inl 0, .int 1)] g0 := DGr.one (by decide)
  have npw : pw ≠ pt := ne_new hpw ⟨_, e1⟩
  walk_at "sts"
  refine L_fldv ((s1.trans s2) _ _ h1) T.k_Looks T.na_Looks_looks rfl ?_
  walk_at "sts"
  refine L_lenL (.of ((s1.trans s2) _ _ h2)) ?_
  walk_at "sts"
  rw [hul]
  refine L_r2 (by omega) ?_
  rw [show ((rows.length : Int) + 1 - 1).toNat = rows.length by omega]
  refine f_range (fun i σ' H' => ∃ (us' : List V) (pw' : Addr) (kvs : List (Key × V)) (g : Int → Int) (v5 v6 v7 v8 v9 : Option V) (pr : List Ent), σ' = [some (.ref x), some (.int lot), some (.int bad), some (.ref pt), some (.ref pw'), v5, v6, v7, v8, v9] ∧ Same H H' ∧ H' pt = some (.lst us') ∧ DpAll K (tp H') us' (pr.map d4e) ∧ us'.length ≤ 25 * i ∧ H' pw' = some (.dK kvs) ∧ DGr kvs g ∧ Gk i g ∧ ends lot bad 1 g0 rows = pr ++ ends lot bad (1 + (i : Int)) g (rows.drop i)) ⟨_, pw, _, g0, _, _, _, _, _, [], rfl, s1.trans s2, s2 _ _ e1, .nil, Nat.le_refl _, e2, hd0, Gk.zero, by rw [List.drop_zero, List.nil_append]; rfl⟩ ?_ ?_
  · rintro i σ' H3 hi ⟨us', pw', kvs, g, v5, v6, v7, v8, v9, pr, rfl, s3, e3, hA3, hl3, e4, hd, hgk, hends⟩
    walk_at "sts"
    intro pf hpf
    generalize hg4 : upd H3 pf (.dK []) = H4
    have s4 := same_newE hg4 hpf
    have e5 : H4 pf = some (.dK []) := upd_at hg4
    clear hg4
    have npf : pf ≠ pt := ne_new hpf ⟨_, e3⟩
    have npf' : pf ≠ pw' := ne_new hpf ⟨_, e4⟩
    walk_at "sts"
    refine L_sortDI (n := 25) (by decide) (s4 _ _ e4) hd (fun f hf => by have := hgk.s f hf; omega) ?_
    walk_at "nwp"
    rename_i pl hpl H5 s5 e6
    have npl : pl ≠ pf := ne_new hpl ⟨_, e5⟩
    walk_at "sts"
    refine L_rl (.of e6) ?_
    refine f_it walk_list (fun j σ' H' => ∃ (kv2 : List (Key × V)) (w7 w8 w9 : Option V), σ' = [some (.ref x), some (.int lot), some (.int bad), some (.ref pt), some (.ref pw'), some (.int (1 + (i : Int))), some (.ref pf), w7, w8, w9] ∧ Same H3 H' ∧ H' pl = some (.lst ((keysOf 25 g).map V.int)) ∧ H' pf = some (.dK kv2) ∧ DGr kv2 (hj lot bad (1 + (i : Int)) g ((keysOf 25 g).take j) 0 0)) ⟨_, _, _, _, rfl, s4.trans s5, e6, s5 _ _ e5, DGr.nil.congr fun f => by rw [List.take_zero]; exact hj_none⟩ (fun _ _ H' _ ⟨_, _, _, _, _, _, h, _⟩ => .of h) ?_ ?_
    · rintro j x1 σ' H6 H6' hjl ⟨kv2, w7, w8, w9, rfl, s6, el6, ef6, hd6⟩ ⟨rfl, hx1⟩
      rw [List.getElem?_map] at hx1
      obtain ⟨y, hy, rfl⟩ := Option.map_eq_some_iff.mp hx1
      have hym := List.mem_of_getElem? hy
      have hgy := (keysOf_mem.mp hym).2
      have hlz : ∀ z ∈ (keysOf 25 g).take j, g z ≠ 0 := fun z hz => (keysOf_mem.mp (List.mem_of_mem_take hz)).2
      walk_at "sts"
      walk_at "nw"
      rename_i p7 hp7 H7 s7 e7
      walk_at "sts"
      refine L_rt (.of e7) ?_
      refine f_it walk_tup (fun m σ' H' => ∃ (kv3 : List (Key × V)) (w8 : Option V), σ' = [some (.ref x), some (.int lot), some (.int bad), some (.ref pt), some (.ref pw'), some (.int (1 + (i : Int))), some (.ref pf), some (.int y), w8, w9] ∧ Same H3 H' ∧ H' pl = some (.lst ((keysOf 25 g).map V.int)) ∧ H' p7 = some (.tup [.int 0, .int 1]) ∧ H' pf = some (.dK kv3) ∧ DGr kv3 (hj lot bad (1 + (i : Int)) g ((keysOf 25 g).take j) y m)) ⟨_, _, rfl, s6.trans s7, s7 _ _ el6, e7, s7 _ _ ef6, hd6.congr fun f => hj_zero⟩ (fun _ _ H' _ ⟨_, _, _, _, _, h, _⟩ => .of h) ?_ ?_
      · rintro m x2 σ' H8 H8' hm ⟨kv3, w8, rfl, s8, el8, e78, ef8, hd8⟩ ⟨rfl, hx2⟩
        replace hm : m < 2 := hm
        have hx2' : x2 = .int (m : Int) := by
          obtain rfl | rfl : m = 0 ∨ m = 1 := by omega
          · cases hx2; rfl
          · cases hx2; rfl
        subst hx2'
        have npf7 : p7 ≠ pf := ne_new hp7 ⟨_, ef6⟩
        have hskip : ¬ Gat lot bad (1 + (i : Int)) (y + m) → ∃ (kv3' : List (Key × V)) (w8 : Option V), [some (V.ref x), some (V.int lot), some (V.int bad), some (V.ref pt), some (V.ref pw'), some (V.int (1 + (i : Int))), some (V.ref pf), some (V.int y), some (V.int (m : Int)), w9] = [some (.ref x), some (.int lot), some (.int bad), some (.ref pt), some (.ref pw'), some (.int (1 + (i : Int))), some (.ref pf), some (.int y), w8, w9] ∧ Same H3 H8' ∧ H8' pl = some (.lst ((keysOf 25 g).map V.int)) ∧ H8' p7 = some (.tup [.int 0, .int 1]) ∧ H8' pf = some (.dK kv3') ∧ DGr kv3' (hj lot bad (1 + (i : Int)) g ((keysOf 25 g).take j) y (m + 1)) := fun hG => ⟨_, _, rfl, s8, el8, e78, ef8, hd8.congr (hj_skip hm hG)⟩
        walk_at "sts"
        refine L_d (fun c1 => ?_) (fun c1 => ?_)
        · walk_at "sts"
          refine L_d (fun c2 => ?_) (fun c2 => ?_)
          · have hG : Gat lot bad (1 + (i : Int)) (y + m) := ⟨c1, by omega⟩
            walk_at "sts"
            refine ⟨pf, rfl, isD_at' ef8, ?_⟩
            walk_at "sts"
            refine ⟨_, DGet.k (k := .inl (y + m)) ef8, ?_⟩
            rw [hd8.getD]
            walk_at "sts"
            obtain ⟨ks, k1, k2, k3, k4⟩ := hd
            refine L_dgetv (k := .inl y) rfl (s8 _ _ e4) (k4 y hgy) ?_
            walk_at "sts"
            have hlen := My.DGr.len hd8 (n := 25) fun f hf => by have := hj_bd hgk hgy hlz m f hf; omega
            refine L_dputv (k := .inl (y + m)) rfl ef8 (by omega) ?_
            have hnn := hj_nn (fun f => (hgk.b f).1) ((keysOf 25 g).take j) y m (y + m) (lot := lot) (bad := bad) (c := 1 + (i : Int))
            have hgn := (hgk.b y).1
            refine ⟨_, _, rfl, same_mut s8 hpf, by rw [upd_ne npl]; exact el8, by rw [upd_ne npf7]; exact e78, upd_same, ?_⟩
            refine (hd8.put (y + m) (hj lot bad (1 + (i : Int)) g ((keysOf 25 g).take j) y m (y + m) + g y) (by omega)).congr fun f => ?_
            rw [← hj_put hm hG]
            by_cases e : f = y + (m : Int)
            · rw [if_pos e, if_pos e, e]
            · rw [if_neg e, if_neg e]
          · walk_at "sts"
            exact hskip fun z => c2 (by have := z.2; omega)
        · walk_at "sts"
          exact hskip fun z => c1 z.1
      · rintro σ' H8 ⟨kv3, w8', rfl, s8, el8, e78, ef8, hd8⟩
        walk_at "sts"
        refine ⟨_, _, _, _, rfl, s8, el8, ef8, hd8.congr fun f => ?_⟩
        rw [List.take_succ, hy]
        exact hj_two
    · rintro σ' H6 ⟨kv2, w7, w8, w9, rfl, s6, el6, ef6, hd6⟩
      rw [List.length_map, List.take_of_length_le (Nat.le_refl _)] at hd6
      replace hd6 := hd6.congr fun f => hj_all (y := 0) hgk (by omega)
      clear e6 e5 s5 s4 el6 npl hpl npf npf'
      have hgk' := hgk.pre lot bad (1 + (i : Int))
      walk_at "sts"
      intro pw2 hpw2
      generalize hg7 : upd H6 pw2 (.dK []) = H7
      have s7 := same_newE hg7 hpw2
      have e7 : H7 pw2 = some (.dK []) := upd_at hg7
      clear hg7
      have s37 := s6.trans s7
      generalize hhh : pre lot bad (1 + (i : Int)) g = h at hd6 hgk'
      have npw2f : pw2 ≠ pf := ne_new hpw2 ⟨_, ef6⟩
      have npw2t : pw2 ≠ pt := ne_new hpw2 ⟨_, s6 _ _ e3⟩
      have npft : pf ≠ pt := ne_new hpf ⟨_, e3⟩
      walk_at "sts"
      refine L_sortDI (n := 25) (by decide) (s7 _ _ ef6) hd6 (fun f hf => by have := hgk'.s f hf; omega) ?_
      walk_at "nwp"
      rename_i pl2 hpl2 H8 s8 e8
      have npl2w : pl2 ≠ pw2 := ne_new hpl2 ⟨_, e7⟩
      have npl2t : pl2 ≠ pt := ne_new hpl2 ⟨_, s37 _ _ e3⟩
      have s08 : Same H H8 := s3.trans (s37.trans s8)
      obtain ⟨r, hr⟩ : ∃ r, rows[i]? = some r := ⟨_, List.getElem?_eq_getElem hi⟩
      have hdrop : rows.drop i = r :: rows.drop (i + 1) := by
        obtain ⟨hlt, e⟩ := List.getElem?_eq_some_iff.mp hr
        rw [← e]
        exact List.drop_eq_getElem_cons hlt
      rw [hdrop, ends, hhh] at hends
      have hkl : (keysOf 25 h).length ≤ 25 := by
        refine Nat.le_trans (List.length_filter_le ..) ?_
        unfold upN
        rw [List.length_map, List.length_range]
        exact Nat.le_refl _
      walk_at "sts"
      refine L_rl (.of e8) ?_
      refine f_it walk_list (fun j σ' H' => ∃ (us2 : List V) (kv3 : List (Key × V)) (w7 w8 w9 : Option V), σ' = [some (.ref x), some (.int lot), some (.int bad), some (.ref pt), some (.ref pw2), some (.int (1 + (i : Int))), some (.ref pf), w7, w8, w9] ∧ Same H H' ∧ H' pl2 = some (.lst ((keysOf 25 h).map V.int)) ∧ H' pf = some (.dK kv2) ∧ H' pt = some (.lst us2) ∧ DpAll K (tp H') us2 ((pr ++ ((keysOf 25 h).take j).filterMap (ent1 lot bad (1 + (i : Int)) r h)).map d4e) ∧ us2.length ≤ 25 * i + j ∧ H' pw2 = some (.dK kv3) ∧ DGr kv3 (fun f => if f ∈ (keysOf 25 h).take j then nx r h f else 0)) ⟨us', [], _, _, _, rfl, s08, e8, (s7.trans s8) _ _ ef6, (s37.trans s8) _ _ e3, ?_, by omega, s8 _ _ e7, DGr.nil.congr fun f => by rw [List.take_zero, if_neg (by simp)]⟩ (fun _ _ H' _ ⟨_, _, _, _, _, _, _, h, _⟩ => .of h) ?_ ?_
      · rw [List.take_zero, List.filterMap_nil, List.append_nil]
        exact hA3.same (tp_of (s37.trans s8))
      · rintro j x1 σ' H9 H9' hjl ⟨us2, kv3, w7, w8, w9, rfl, s9, el9, ef9, et9, hA9, hl9, ew9, hd9⟩ ⟨rfl, hx1⟩
        rw [List.length_map] at hjl
        rw [List.getElem?_map] at hx1
        obtain ⟨y, hy, rfl⟩ := Option.map_eq_some_iff.mp hx1
        have hym := keysOf_mem.mp (List.mem_of_getElem? hy)
        have hhy := hym.2
        have htk : (keysOf 25 h).take (j + 1) = (keysOf 25 h).take j ++ [y] := by rw [List.take_succ, hy]; rfl
        have hb := (hgk'.b y)
        have hp24 := pow2_24 (show i + 1 ≤ 24 by omega)
        walk_at "sts"
        refine L_methv (s9 _ _ h1) rfl ?_
        walk_at "sts"
        refine ⟨rows, r, hx.same s9, by omega, by rw [show ((1 : Int) + i - 1).toNat = i by omega]; exact hr, ?_⟩
        walk_at "sts"
        refine L_d (fun c1 => ?_) (fun c1 => ?_)
        · obtain ⟨ks, k1, k2, k3, k4⟩ := hd6
          walk_at "sts"
          refine L_dgetv (k := .inl y) rfl ef9 (k4 y hhy) ?_
          walk_at "sts"
          have hlen := My.DGr.len hd9 (n := 25) fun f hf => by
            by_cases hm : f ∈ (keysOf 25 h).take j
            · exact (keysOf_mem.mp (List.mem_of_mem_take hm)).1
            · rw [if_neg hm] at hf
              exact absurd rfl hf
          refine L_dputv (k := .inl y) rfl ew9 (by omega) ?_
          refine ⟨us2, _, _, _, _, rfl, same_mut s9 (s3.free (s6.free hpw2)), by rw [upd_ne npl2w]; exact el9, by rw [upd_ne npw2f.symm]; exact ef9, by rw [upd_ne npw2t.symm]; exact et9, ?_, by omega, upd_same, ?_⟩
          · rw [htk, List.filterMap_append, show [y].filterMap (ent1 lot bad (1 + (i : Int)) r h) = [] by
              rw [List.filterMap_cons, show ent1 lot bad (1 + (i : Int)) r h y = none from if_pos c1]; rfl, List.append_nil]
            exact hA9.same (tp_upd fun xs z => by rw [ew9] at z; cases z)
          · refine (hd9.put y (h y) hhy).congr fun f => ?_
            by_cases e : f = y
            · subst e
              rw [if_pos rfl, if_pos (by rw [htk]; simp)]
              unfold nx
              rw [if_pos c1]
            · rw [if_neg e]
              by_cases hm : f ∈ (keysOf 25 h).take j
              · rw [if_pos hm, if_pos (by rw [htk]; exact List.mem_append_left _ hm)]
              · rw [if_neg hm, if_neg (by rw [htk]; simp [hm, e])]
        · have hG : Gat lot bad (1 + (i : Int)) y := by
            rw [← hhh] at hhy
            unfold pre at hhy
            by_cases hG : Gat lot bad (1 + (i : Int)) y
            · exact hG
            · rw [if_neg hG] at hhy
              exact absurd rfl hhy
          have hG1 := hG.1
          have hG2 := hG.2
          obtain ⟨ks, k1, k2, k3, k4⟩ := id hd6
          have hc := chs_b (many := lot - (1 + (i : Int))) (by omega) (by omega) (k := (bad - y).toNat) (by omega)
          have p24 := pow24 (show (bad - y).toNat ≤ 24 by omega)
          walk_at "sts"
          refine L_tyL (.of et9) ?_
          walk_at "sts"
          refine L_dgetv (k := .inl y) rfl ef9 (k4 y hhy) ?_
          walk_at "sts"
          refine ⟨by omega, by omega, by omega, ?_⟩
          walk_at "sts"
          refine L_mulI ((bd_64 (by omega)).cmul (bd_128 (by omega))) ?_
          walk_at "sts"
          walk_at "nw"
          rename_i p10 hp10 H10 s10 e10
          walk_at "sts"
          refine L_app (s10 _ _ et9) (sz_lt (by omega)) ?_
          walk_at "sts"
          refine ⟨_, kv3, _, _, _, rfl, same_mut (s9.trans s10) hpt, by rw [upd_ne npl2t]; exact s10 _ _ el9, by rw [upd_ne npft]; exact s10 _ _ ef9, upd_same, ?_, by rw [List.length_append, List.length_singleton]; omega, by rw [upd_ne npw2t]; exact s10 _ _ ew9, ?_⟩
          · rw [htk, List.filterMap_append, show [y].filterMap (ent1 lot bad (1 + (i : Int)) r h) = [(1 + (i : Int), y, word r y, h y * chs (lot - (1 + (i : Int))) (bad - y).toNat)] by
              rw [List.filterMap_cons, show ent1 lot bad (1 + (i : Int)) r h y = some (1 + (i : Int), y, word r y, h y * chs (lot - (1 + (i : Int))) (bad - y).toNat) from if_neg c1]; rfl, ← List.append_assoc, List.map_append]
            exact tp_grow hA9 s10 (s10 _ _ et9) e10 (by walk_at "dpa") _
          · refine hd9.congr fun f => ?_
            by_cases e : f = y
            · subst e
              rw [htk, if_pos (show f ∈ (keysOf 25 h).take j ++ [f] by simp)]
              unfold nx
              rw [if_neg c1]
              split <;> rfl
            · by_cases hm : f ∈ (keysOf 25 h).take j
              · rw [if_pos hm, if_pos (by rw [htk]; exact List.mem_append_left _ hm)]
              · rw [if_neg hm, if_neg (by rw [htk]; simp [hm, e])]
      · rintro σ' H9 ⟨us2, kv3, w7, w8, w9, rfl, s9, el9, ef9, et9, hA9, hl9, ew9, hd9⟩
        rw [List.length_map] at hA9 hl9 hd9
        rw [List.take_of_length_le (Nat.le_refl _)] at hA9 hd9
        refine ⟨us2, pw2, kv3, nx r h, _, _, _, _, _, _, rfl, s9, et9, hA9, by omega, ew9, hd9.congr fun f => ?_, hgk'.nx r, ?_⟩
        · by_cases hm : f ∈ keysOf 25 h
          · rw [if_pos hm]
          · rw [if_neg hm]
            have z : h f = 0 := by
              by_cases z : h f = 0
              · exact z
              · exact absurd (keysOf_mem.mpr ⟨by have := hgk'.s f z; omega, z⟩) hm
            unfold nx
            rw [z]
            split <;> rfl
        · rw [hends, List.append_assoc, show (1 : Int) + i + 1 = 1 + ((i + 1 : Nat) : Int) by omega]
  · rintro σ' H3 ⟨us', pw', kvs, g, v5, v6, v7, v8, v9, pr, rfl, s3, e3, hA3, hl3, e4, hd, hgk, hends⟩
    rw [List.drop_of_length_le (Nat.le_refl _), ends, List.append_nil] at hends
    walk_at "sts"
    exact q pt us' H3 hpt s3 e3 (by rw [hends]; exact hA3.same (tp_rs e3))
def gc (a b : Int) : Int := (Int.gcd a b : Nat)
theorem gc_step {a b : Int} (h : 0 < b) : gc b (a % b) = gc a b := by
  have e : Int.gcd (a % b) b = Int.gcd a b := by
    refine Int.gcd_left_eq_iff.mpr fun c hc => ?_
    have d : c ∣ b * (a / b) := Int.dvd_trans hc (Int.dvd_mul_right b (a / b))
    have e2 : a % b + b * (a / b) = a := Int.emod_add_mul_ediv a b
    constructor
    · intro h; rw [← e2]; exact Int.dvd_add h d
    · intro h
      have : a % b = a - b * (a / b) := by omega
      rw [this]; exact Int.dvd_sub h d
  unfold gc
  rw [Int.gcd_comm, e]
theorem gc_zero {a : Int} : (if a < 0 then -a else a) = gc a 0 := by
  unfold gc
  rw [Int.gcd_zero_right]
  omega
theorem gc_pos {a b : Int} (h : 0 < b) : 0 < gc a b := by
  unfold gc
  have : 0 < Int.gcd a b := Int.gcd_pos_of_ne_zero_right a (by omega)
  omega
theorem gc_le {a b : Int} (h : 0 < b) : gc a b ≤ b := Int.gcd_le_right a h
theorem gc_dl {a b : Int} : gc a b ∣ a := Int.gcd_dvd_left ..
theorem gc_dr {a b : Int} : gc a b ∣ b := Int.gcd_dvd_right ..
/-- lowest terms, for a bottom from 1 on -/
def low (t b : Int) : Int × Int := (t / gc t b, b / gc t b)
theorem low_pos {t b : Int} (h : 0 < b) : 1 ≤ (low t b).2 := by
  have g := gc_pos (a := t) h
  have := Int.ediv_pos_of_pos_of_dvd h (Int.le_of_lt g) (gc_dr (a := t) (b := b))
  show 1 ≤ b / gc t b
  omega
theorem low_gc {t b : Int} (h : 0 < b) : gc (low t b).1 (low t b).2 = 1 := by
  have g := gc_pos (a := t) h
  unfold low gc
  have hh : 0 < Int.gcd t b := Int.gcd_pos_of_ne_zero_right t (by omega)
  have := Int.gcd_ediv_gcd_ediv_gcd (i := t) (j := b) hh
  show ((Int.gcd (t / (Int.gcd t b : Nat)) (b / (Int.gcd t b : Nat)) : Nat) : Int) = 1
  rw [this]; rfl
theorem low_eq {t b : Int} (h : 0 < b) : (low t b).1 * b = t * (low t b).2 := by
  have g := gc_pos (a := t) h
  obtain ⟨u, hu⟩ := gc_dl (a := t) (b := b)
  obtain ⟨v, hv⟩ := gc_dr (a := t) (b := b)
  have e1 : t / gc t b = u := Int.ediv_eq_of_eq_mul_right (by omega) hu
  have e2 : b / gc t b = v := Int.ediv_eq_of_eq_mul_right (by omega) hv
  show t / gc t b * b = t * (b / gc t b)
  rw [e1, e2]
  calc u * b = u * (gc t b * v) := by rw [← hv]
    _ = (gc t b * u) * v := by rw [← Int.mul_assoc, Int.mul_comm u]
    _ = t * v := by rw [← hu]
theorem low_bd {n : Nat} {t b : Int} (h : 0 < b) (ht : Bd n t) (hb : Bd n b) : Bd n (low t b).1 ∧ Bd n (low t b).2 := by
  have g := gc_pos (a := t) h
  constructor
  · exact Nat.lt_of_le_of_lt (Int.natAbs_ediv_le_natAbs t _) ht
  · exact Nat.lt_of_le_of_lt (Int.natAbs_ediv_le_natAbs b _) hb
/-- what share tells -/
def shr (t b : Int) : Int × Int := if b < 0 then low (0 - t) (0 - b) else low t b
theorem shr_ok {t b : Int} (h : b ≠ 0) : 1 ≤ (shr t b).2 ∧ gc (shr t b).1 (shr t b).2 = 1 ∧ (shr t b).1 * b = t * (shr t b).2 := by
  unfold shr
  split
  · have hb : 0 < 0 - b := by omega
    refine ⟨low_pos hb, low_gc hb, ?_⟩
    have e := low_eq (t := 0 - t) hb
    rw [Int.mul_sub, Int.mul_zero, Int.sub_mul, Int.zero_mul] at e
    omega
  · have hb : 0 < b := by omega
    exact ⟨low_pos hb, low_gc hb, low_eq hb⟩
theorem shr_bd {n : Nat} {t b : Int} (h : b ≠ 0) (ht : Bd n t) (hb : Bd n b) : Bd n (shr t b).1 ∧ Bd n (shr t b).2 := by
  have e : ∀ z : Int, 0 - z = -z := fun z => by omega
  unfold shr
  split
  · rw [e, e]; exact low_bd (by omega) ht.neg hb.neg
  · exact low_bd (by omega) ht hb
theorem across {p q t b x y : Int} (hb : b ≠ 0) (e : p * b = t * q) (d : t * y = x * b) : p * y = x * q := by
  refine Int.eq_of_mul_eq_mul_right hb ?_
  calc p * y * b = (p * b) * y := by rw [Int.mul_assoc, Int.mul_comm y b, Int.mul_assoc]
    _ = (t * y) * q := by rw [e, Int.mul_assoc, Int.mul_comm q y, ← Int.mul_assoc]
    _ = x * q * b := by rw [d, Int.mul_assoc, Int.mul_comm b q, ← Int.mul_assoc]
def sp_divisor (K : PySem.W.Frag) (mg : Str → Option Value) : Sp := fun vs H Q _ => match vs with | [.int a, .int b] => 0 ≤ b ∧ Q (.int (gc a b)) H | _ => False
theorem q_divisor {H : Hp} {Q : VK} {E : XK} {a : Int} {b : Int} (q : 0 ≤ b ∧ Q (.int (gc a b)) H) : sp_divisor K mg [.int a, .int b] H Q E := q
local macro_rules | `(tactic| walk_at "op") => `(tactic| with_reducible refine q_divisor ?_)
theorem c_divisor (T : Txt K mg) : Cal P w K mg base 1 "divisor" (sp_divisor K mg) := by
  refine T.d_divisor.cal (k := 0) sc_divisor (by intro vs H Q E h; unfold sp_divisor at h; split at h <;> first | rfl | exact h.elim) fun f cdv A outer s H vs Q E hr h => ?_
  refine ⟨_, (pss_cons (ps_while PassesOwn.never (pt_cmpR (op_neA hr) (pv 1) pe_int (nomark _))
    (pss_one (ps_par (i := 0) (j := 1) rfl sc_divisor.nd rfl rfl (by decide) rfl rfl (pa_cons (pv 1) (pa_cons (pe_op op_mod (pv 0) (pv 1)) pa_nil)) (by rfl))))
    (pss_one (ps_ret (pe_callB call_absA (by rfl) T.n_abs (by decide +kernel) (pa_cons (pv 0) pa_nil))))), ?_⟩
  try simp only [cxOf_K, cxOf_K', cxOf_mg, cxOf_mg']
  unfold sp_divisor at h
  split at h
  case h_2 => exact h.elim
  rename_i a b
  rw [show L2.start ["one", "other"] [V.int a, V.int b] = [some (V.int a), some (V.int b)] from rfl]
  obtain ⟨hb, q⟩ := h
  walk_at "sts"
  refine L_while (fun m σ' H' => ∃ x y : Int, σ' = [some (.int x), some (.int y)] ∧ 0 ≤ y ∧ gc x y = gc a b ∧ m = y.toNat ∧ H' = H) ⟨_, a, b, rfl, hb, rfl, rfl, rfl⟩ ?_
  rintro m σ' H' ⟨x, y, rfl, hy, e, rfl, rfl⟩
  walk_at "sts"
  refine L_nd (fun c => ?_) (fun c => ?_)
  · refine L_N ?_
    walk_at "sts"
    refine L_I (by omega) ?_
    walk_at "sts"
    have h1 := Int.emod_nonneg x c
    have h2 := Int.emod_lt_of_pos x (show 0 < y by omega)
    exact ⟨(x % y).toNat, by omega, y, x % y, rfl, h1, (gc_step (by omega)).trans e, rfl, rfl⟩
  · subst c
    walk_at "sts"
    rw [gc_zero, e]
    exact q
def sp_share (K : PySem.W.Frag) (mg : Str → Option Value) : Sp := fun vs H Q _ => match vs with | [.int t, .int b] => b ≠ 0 ∧ Bd 2000 b ∧ NewT H [.int (shr t b).1, .int (shr t b).2] Q | _ => False
theorem q_share {H : Hp} {Q : VK} {E : XK} {t : Int} {b : Int} (q : b ≠ 0 ∧ Bd 2000 b ∧ NewT H [.int (shr t b).1, .int (shr t b).2] Q) : sp_share K mg [.int t, .int b] H Q E := q
local macro_rules | `(tactic| walk_at "op") => `(tactic| with_reducible refine q_share ?_)
theorem c_share (T : Txt K mg) : Cal P w K mg base 2 "share" (sp_share K mg) := by
  refine T.d_share.cal (k := 1) sc_share (by intro vs H Q E h; unfold sp_share at h; split at h <;> first | rfl | exact h.elim) fun f cdv A outer s H vs Q E hr h => ?_
  refine ⟨_, (pss_cons (ps_if (pt_cmpR op_ltA (pv 1) pe_int (nomark _))
    (pss_one (ps_par (i := 0) (j := 1) rfl sc_share.nd rfl rfl (by decide) rfl rfl (pa_cons (pe_op op_sub pe_int (pv 0)) (pa_cons (pe_op op_sub pe_int (pv 1)) pa_nil)) (by rfl)))
    pss_nil)
    (pss_cons (ps_set (i := 2) sc_share.nd rfl (.inl rfl) (pe_c (c_divisor T) hr (by decide) (by rfl) (pa_cons (pv 0) (pa_cons (pv 1) pa_nil))))
    (pss_one (ps_ret (pe_tup (pa_cons (pe_op op_fdivW (pv 0) (pv 2)) (pa_cons (pe_op op_fdivW (pv 1) (pv 2)) pa_nil))))))), ?_⟩
  try simp only [cxOf_K, cxOf_K', cxOf_mg, cxOf_mg']
  unfold sp_share at h
  split at h
  case h_2 => exact h.elim
  rename_i t b
  rw [show L2.start ["top", "bottom", "many"] [V.int t, V.int b] = [some (V.int t), some (V.int b), none] from rfl]
  obtain ⟨hb, hd, q⟩ := h
  have key : ∀ t' b' : Int, 0 < b' → Bd 2000 b' → low t' b' = shr t b → t / 1 = t → CDivW t' (gc t' b') := fun t' b' h0 h1 _ _ => by
    have g := gc_pos (a := t') h0
    have l := gc_le (a := t') h0
    refine Bd.cdiv (n := 2000) ?_ g
    unfold Bd at *
    omega
  walk_at "sts"
  refine L_d (fun c => ?_) (fun c => ?_)
  · walk_at "sts"
    have e : shr t b = low (0 - t) (0 - b) := if_pos c
    have hd' : Bd 2000 (0 - b) := by unfold Bd at *; omega
    refine ⟨by omega, ?_⟩
    walk_at "sts"
    refine L_I (key _ _ (by omega) hd' e.symm (by simp)) ?_
    walk_at "sts"
    refine L_I (key (0 - t) _ (by omega) hd' e.symm (by simp)) ?_
    walk_at "sts"
    rw [e] at q
    exact L_new (sz_dec (by show 2 ≤ 1000000; decide)) q.at
  · walk_at "sts"
    have e : shr t b = low t b := if_neg c
    refine ⟨by omega, ?_⟩
    walk_at "sts"
    refine L_I (key _ _ (by omega) hd e.symm (by simp)) ?_
    walk_at "sts"
    refine L_I (key t _ (by omega) hd e.symm (by simp)) ?_
    walk_at "sts"
    rw [e] at q
    exact L_new (sz_dec (by show 2 ≤ 1000000; decide)) q.at
/-- the ways that are let by; all that were looked at -/
def bySum (l : List Ent) : Int := ((l.filter fun e => decide (e.2.2.1 = Str.ofString "by")).map fun e => e.2.2.2).sum
def lookSum (l : List Ent) : Int := (l.map fun e => e.1 * e.2.2.2).sum
theorem ends_b {lot bad : Int} (l1 : lot ≤ 24) (b0 : 0 ≤ bad) (b1 : bad ≤ lot) : ∀ {rows : List (Int × Int)} {k : Nat} {g : Int → Int}, Gk k g → k + rows.length ≤ 24 → (k : Int) + rows.length ≤ lot → ∀ e ∈ ends lot bad (k + 1) g rows, 1 ≤ e.1 ∧ e.1 ≤ 24 ∧ 0 ≤ e.2.2.2 ∧ Bd 300 e.2.2.2 := by
  intro rows
  induction rows with
  | nil => intro k g _ _ _ e he; cases he
  | cons r rows ih =>
    intro k g hg hk hk2 e he
    rw [List.length_cons] at hk hk2
    rw [ends] at he
    have hg' := hg.pre lot bad ((k : Int) + 1)
    rcases List.mem_append.mp he with he | he
    · obtain ⟨f, hf, h1⟩ := List.mem_filterMap.mp he
      have hf' := (keysOf_mem.mp hf).2
      unfold ent1 at h1
      split at h1
      · cases h1
      · cases h1
        have hG : Gat lot bad ((k : Int) + 1) f := by
          unfold pre at hf'
          by_cases hG : Gat lot bad ((k : Int) + 1) f
          · exact hG
          · rw [if_neg hG] at hf'
            exact absurd rfl hf'
        have g1 := hG.1
        have g2 := hG.2
        have hb := hg'.b f
        have p2 := pow2_24 (show k + 1 ≤ 24 by omega)
        have hc := chs_b (many := lot - ((k : Int) + 1)) (by omega) (by omega) (k := (bad - f).toNat) (by omega)
        have hc2 := (chs_pos (many := lot - ((k : Int) + 1)) (by omega) (k := (bad - f).toNat) (by omega)).2
        refine ⟨by show 1 ≤ (k : Int) + 1; omega, by show (k : Int) + 1 ≤ 24; omega, Int.mul_nonneg hb.1 hc.1, ?_⟩
        exact ((bd_64 (by omega)).mul hc2).mono (by decide)
    · exact ih (hg'.nx r) (by omega) (by omega) e (by rw [show ((k + 1 : Nat) : Int) + 1 = (k : Int) + 1 + 1 by omega]; exact he)
theorem ends_len {lot bad : Int} : ∀ {rows : List (Int × Int)} {k : Int} {g : Int → Int}, (ends lot bad k g rows).length ≤ 25 * rows.length := by
  intro rows
  induction rows with
  | nil => intro k g; exact Nat.le_refl _
  | cons r rows ih =>
    intro k g
    rw [ends, List.length_append, List.length_cons]
    have h1 := ih (k := k + 1) (g := nx r (pre lot bad k g))
    have h2 : ((keysOf 25 (pre lot bad k g)).filterMap (ent1 lot bad k r (pre lot bad k g))).length ≤ 25 := by
      refine Nat.le_trans (List.length_filterMap_le ..) (Nat.le_trans (List.length_filter_le ..) ?_)
      unfold upN
      rw [List.length_map, List.length_range]
      exact Nat.le_refl _
    omega
theorem of_d4e {K : PySem.W.Frag} {H : Hp} {v : V} {e : Ent} (h : Dp K H v (d4e e)) : ∃ a, v = .ref a ∧ SqT K H a [.int e.1, .int e.2.1, .str e.2.2.1, .int e.2.2.2] := by
  obtain ⟨a, x, y, z, w, rfl, h1, h2, h3, h4, h5⟩ := of_t4 h
  rw [of_int h2, of_int h3, of_str h4, of_int h5] at h1
  exact ⟨a, rfl, h1⟩
theorem hit4e {K : PySem.W.Frag} {H : Hp} {us : List V} {es : List Ent} (hA : DpAll K H us (es.map d4e)) {i : Nat} {x : V} (hx : us[i]? = some x) : ∃ e t, es[i]? = some e ∧ x = V.ref t ∧ SqT K H t [.int e.1, .int e.2.1, .str e.2.2.1, .int e.2.2.2] := by
  obtain ⟨d, h1, h2⟩ := hA.of hx
  rw [List.getElem?_map] at h1
  obtain ⟨r, h3, rfl⟩ := Option.map_eq_some_iff.mp h1
  obtain ⟨t, rfl, h4⟩ := of_d4e h2
  exact ⟨r, t, h3, rfl, h4⟩
def sp_Looks_let_by (K : PySem.W.Frag) (mg : Str → Option Value) : Sp := fun vs H Q E => match vs with | [.ref x, v, w] => ∃ rows, LK K mg H x rows ∧ ((BadLot K H rows.length v w ∧ E (.ref (cA mg "NoLot")) none H) ∨ ∃ lot bad, Lot rows.length v w lot bad ∧ ∀ H1, Same H H1 → NewT H1 [.int (shr (bySum (ends lot bad 1 g0 rows)) (chs lot bad.toNat)).1, .int (shr (bySum (ends lot bad 1 g0 rows)) (chs lot bad.toNat)).2] Q) | _ => False
theorem c_Looks_let_by (T : Txt K mg) : MetX P w K mg base 4 (cA mg "Looks") "let_by" (sp_Looks_let_by K mg) := by
  refine MethAt.metX T.k_Looks T.d_Looks_let_by (k := 3) sc_Looks_let_by (by intro vs H Q E h; unfold sp_Looks_let_by at h; split at h <;> first | rfl | exact h.elim) fun f cdv A outer s H vs Q E hr h => ?_
  refine ⟨_, (pss_cons (ps_set (i := 3) sc_Looks_let_by.nd rfl (.inl rfl) (pe_callB (cr_sum rfl) (by rfl) T.n_sum (by decide +kernel) (pa_cons (pe_lc (own := [("looked", 4), ("found", 5), ("word", 6), ("ways", 7)]) (g := (gTup K 4 (gCons (gName 4) (gCons (gName 5) (gCons (gName 6) (gCons (gName 7) gNil)))))) (tt := (tTest (tOp (aEq K) (tVar 6) (tC (.str "by"))))) (te := (tVar 7)) rfl sc_Looks_let_by.nd (pi_list (pe_xMt (c_Looks_endings T) hr (by decide) (fun σ => passAt (takes_of rfl rfl rfl rfl) σ) (pv 0) (pa_cons (pv 1) (pa_cons (pv 2) pa_nil)))) (blkOk_by (N := ["self", "lot", "bad", "many", "looked", "found", "word", "ways"]) (sc := defScope s_Looks_let_by) (by decide +kernel)) (fun _ _ _ _ _ => by exact (pg_tup rfl (pgs_cons (pg_name (i := 4) sc_Looks_let_by.nd rfl (.inl rfl)) (pgs_cons (pg_name (i := 5) sc_Looks_let_by.nd rfl (.inl rfl)) (pgs_cons (pg_name (i := 6) sc_Looks_let_by.nd rfl (.inl rfl)) (pgs_cons (pg_name (i := 7) sc_Looks_let_by.nd rfl (.inl rfl)) pgs_nil)))))) (fun _ _ _ _ _ => by exact pts_one (pt_cmpR (op_eqA hr) (pv 6) pe_str (nomark _))) (fun _ _ _ _ _ => by exact (pv 7))) pa_nil)))
    (pss_one (ps_ret (pe_c (c_share T) hr (by decide) (by rfl) (pa_cons (pv 3) (pa_cons (pe_c (c_sets_of T) hr (by decide) (by rfl) (pa_cons (pv 1) (pa_cons (pv 2) pa_nil))) pa_nil)))))), ?_⟩
  try simp only [cxOf_K, cxOf_K', cxOf_mg, cxOf_mg']
  unfold sp_Looks_let_by at h
  split at h
  case h_2 => exact h.elim
  rename_i x v w
  rw [show L2.start ["self", "lot", "bad", "many", "looked", "found", "word", "ways"] [V.ref x, v, w] = [some (V.ref x), some (v), some (w), none, none, none, none, none] from rfl]
  obtain ⟨rows, hx, h⟩ := h
  rcases h with ⟨hb, q⟩ | ⟨lot, bad, hlot, q⟩
  · obtain ⟨dx, p, us, h1, h2, h3, h4⟩ := hx
    walk_at "sts"
    refine L_methv h1 rfl ?_
    walk_at "sts"
    exact ⟨rows, ⟨dx, p, us, h1, h2, h3, h4⟩, .inl ⟨hb, q⟩⟩
  obtain ⟨dx, p, us, h1, h2, h3, ho⟩ := hx
  have hx : LK K mg H x rows := ⟨dx, p, us, h1, h2, h3, ho⟩
  have hlot' := hlot
  obtain ⟨rfl, rfl, l0, l1, b0, b1⟩ := hlot
  walk_at "sts"
  refine L_methv h1 rfl ?_
  walk_at "sts"
  refine ⟨rows, hx, .inr ⟨lot, bad, hlot', fun pe ue H1 hpe s1 ee hAe => ?_⟩⟩
  replace hAe := hAe.same rs_sub
  refine L_rl (.of ee) ?_
  refine lc_fm walk_list (fun i => (ends lot bad 1 g0 rows)[i]?.bind fun e => if decide (e.2.2.1 = Str.ofString "by") = true then some (.int e.2.2.2) else none) ?_ (fun H' e => .of (e _ _ ee)) ?_ ?_
  · have := hAe.len
    have := ends_len (lot := lot) (bad := bad) (k := 1) (g := g0) (rows := rows)
    have := ho.len
    rw [List.length_map] at *
    omega
  · rintro i x1 Ha Hb R R' hi sm ⟨rfl, hx1⟩ q1 q2
    obtain ⟨e, t, he, rfl, hT⟩ := hit4e hAe hx1
    refine L_gTup (sm.seqT hT) rfl ?_
    walk_at "sts"
    refine ⟨rfl, ?_⟩
    walk_at "sts"
    by_cases c : e.2.2.1 = Str.ofString "by"
    · refine L_dT c ?_
      walk_at "sts"
      exact q1 _ _ (by rw [he]; exact if_pos (decide_eq_true c)) (Same.refl _)
    · refine L_dF c ?_
      exact q2 _ (by rw [he]; exact if_neg (by rw [decide_eq_false c]; decide)) (Same.refl _)
  intro p2 H2 hp2 s2 e2
  have hue := hAe.len
  rw [List.length_map] at hue
  rw [hue, fm_flt (fun e : Ent => decide (e.2.2.1 = Str.ofString "by")) (fun e : Ent => V.int e.2.2.2)] at e2
  replace e2 : H2 p2 = some (.lst ((((ends lot bad 1 g0 rows).filter fun e => decide (e.2.2.1 = Str.ofString "by")).map fun e => e.2.2.2).map V.int)) := by rw [List.map_map]; exact e2
  walk_at "sts"
  refine L_sum (.of e2) ?_
  walk_at "sts"
  refine ⟨b0, b1, l1, ?_⟩
  have hc := chs_pos l1 (k := bad.toNat) (by omega)
  walk_at "sts"
  refine ⟨by omega, hc.2.mono (by decide), ?_⟩
  exact q _ (s1.trans s2)
def sp_Looks_looked_at (K : PySem.W.Frag) (mg : Str → Option Value) : Sp := fun vs H Q E => match vs with | [.ref x, v, w] => ∃ rows, LK K mg H x rows ∧ ((BadLot K H rows.length v w ∧ E (.ref (cA mg "NoLot")) none H) ∨ ∃ lot bad, Lot rows.length v w lot bad ∧ ∀ H1, Same H H1 → NewT H1 [.int (shr (lookSum (ends lot bad 1 g0 rows)) (chs lot bad.toNat)).1, .int (shr (lookSum (ends lot bad 1 g0 rows)) (chs lot bad.toNat)).2] Q) | _ => False
theorem c_Looks_looked_at (T : Txt K mg) : MetX P w K mg base 4 (cA mg "Looks") "looked_at" (sp_Looks_looked_at K mg) := by
  refine MethAt.metX T.k_Looks T.d_Looks_looked_at (k := 3) sc_Looks_looked_at (by intro vs H Q E h; unfold sp_Looks_looked_at at h; split at h <;> first | rfl | exact h.elim) fun f cdv A outer s H vs Q E hr h => ?_
  refine ⟨_, (pss_cons (ps_set (i := 3) sc_Looks_looked_at.nd rfl (.inl rfl) (pe_callB (cr_sum rfl) (by rfl) T.n_sum (by decide +kernel) (pa_cons (pe_lc (own := [("looked", 4), ("found", 5), ("word", 6), ("ways", 7)]) (g := (gTup K 4 (gCons (gName 4) (gCons (gName 5) (gCons (gName 6) (gCons (gName 7) gNil)))))) (tt := tYes) (te := (tOp aMul (tVar 4) (tVar 7))) rfl sc_Looks_looked_at.nd (pi_list (pe_xMt (c_Looks_endings T) hr (by decide) (fun σ => passAt (takes_of rfl rfl rfl rfl) σ) (pv 0) (pa_cons (pv 1) (pa_cons (pv 2) pa_nil)))) (blkOk_by (N := ["self", "lot", "bad", "many", "looked", "found", "word", "ways"]) (sc := defScope s_Looks_looked_at) (by decide +kernel)) (fun _ _ _ _ _ => by exact (pg_tup rfl (pgs_cons (pg_name (i := 4) sc_Looks_looked_at.nd rfl (.inl rfl)) (pgs_cons (pg_name (i := 5) sc_Looks_looked_at.nd rfl (.inl rfl)) (pgs_cons (pg_name (i := 6) sc_Looks_looked_at.nd rfl (.inl rfl)) (pgs_cons (pg_name (i := 7) sc_Looks_looked_at.nd rfl (.inl rfl)) pgs_nil)))))) (fun _ _ _ _ _ => pts_nil) (fun _ _ _ _ _ => by exact (pe_op op_mulA (pv 4) (pv 7)))) pa_nil)))
    (pss_one (ps_ret (pe_c (c_share T) hr (by decide) (by rfl) (pa_cons (pv 3) (pa_cons (pe_c (c_sets_of T) hr (by decide) (by rfl) (pa_cons (pv 1) (pa_cons (pv 2) pa_nil))) pa_nil)))))), ?_⟩
  try simp only [cxOf_K, cxOf_K', cxOf_mg, cxOf_mg']
  unfold sp_Looks_looked_at at h
  split at h
  case h_2 => exact h.elim
  rename_i x v w
  rw [show L2.start ["self", "lot", "bad", "many", "looked", "found", "word", "ways"] [V.ref x, v, w] = [some (V.ref x), some (v), some (w), none, none, none, none, none] from rfl]
  obtain ⟨rows, hx, h⟩ := h
  rcases h with ⟨hb, q⟩ | ⟨lot, bad, hlot, q⟩
  · obtain ⟨dx, p, us, h1, h2, h3, h4⟩ := hx
    walk_at "sts"
    refine L_methv h1 rfl ?_
    walk_at "sts"
    exact ⟨rows, ⟨dx, p, us, h1, h2, h3, h4⟩, .inl ⟨hb, q⟩⟩
  obtain ⟨dx, p, us, h1, h2, h3, ho⟩ := hx
  have hx : LK K mg H x rows := ⟨dx, p, us, h1, h2, h3, ho⟩
  have hlot' := hlot
  obtain ⟨rfl, rfl, l0, l1, b0, b1⟩ := hlot
  walk_at "sts"
  refine L_methv h1 rfl ?_
  walk_at "sts"
  refine ⟨rows, hx, .inr ⟨lot, bad, hlot', fun pe ue H1 hpe s1 ee hAe => ?_⟩⟩
  replace hAe := hAe.same rs_sub
  have hrl := ho.len
  refine L_rl (.of ee) ?_
  refine lc_fm walk_list (fun i => (ends lot bad 1 g0 rows)[i]?.map fun e => .int (e.1 * e.2.2.2)) ?_ (fun H' e => .of (e _ _ ee)) ?_ ?_
  · have := hAe.len
    have := ends_len (lot := lot) (bad := bad) (k := 1) (g := g0) (rows := rows)
    rw [List.length_map] at *
    omega
  · rintro i x1 Ha Hb R R' hi sm ⟨rfl, hx1⟩ q1 q2
    obtain ⟨e, t, he, rfl, hT⟩ := hit4e hAe hx1
    have hb := ends_b l1 b0 b1 (rows := rows) Gk.zero (by omega) (by omega) e (by
      rw [show ((0 : Nat) : Int) + 1 = 1 by rfl]
      exact List.mem_of_getElem? he)
    refine L_gTup (sm.seqT hT) rfl ?_
    walk_at "sts"
    refine ⟨rfl, ?_⟩
    walk_at "sts"
    refine L_mulI ((bd_64 (by omega)).cmul hb.2.2.2) ?_
    exact q1 _ _ (by rw [he]; rfl) (Same.refl _)
  intro p2 H2 hp2 s2 e2
  have hue := hAe.len
  rw [List.length_map] at hue
  rw [hue, fm_get (fun e : Ent => V.int (e.1 * e.2.2.2))] at e2
  replace e2 : H2 p2 = some (.lst (((ends lot bad 1 g0 rows).map fun e => e.1 * e.2.2.2).map V.int)) := by rw [List.map_map]; exact e2
  walk_at "sts"
  refine L_sum (.of e2) ?_
  walk_at "sts"
  refine ⟨b0, b1, l1, ?_⟩
  have hc := chs_pos l1 (k := bad.toNat) (by omega)
  walk_at "sts"
  refine ⟨by omega, hc.2.mono (by decide), ?_⟩
  exact q _ (s1.trans s2)
def sp__law_rows (K : PySem.W.Frag) (mg : Str → Option Value) : Sp := fun vs H Q _ => match vs with | [.int c] => ∀ rows us p H', OkT rows → H p = none → Same H H' → H' p = some (.lst us) → DpAll K (rs (· ≠ p) H') us (rows.map d2) → Q (.ref p) H' | _ => False
theorem q__law_rows {H : Hp} {Q : VK} {E : XK} {c : Int} (q : ∀ rows us p H', OkT rows → H p = none → Same H H' → H' p = some (.lst us) → DpAll K (rs (· ≠ p) H') us (rows.map d2) → Q (.ref p) H') : sp__law_rows K mg [.int c] H Q E := q
local macro_rules | `(tactic| walk_at "op") => `(tactic| with_reducible refine q__law_rows ?_)
theorem c__law_rows (T : Txt K mg) : Cal P w K mg base 2 "_law_rows" (sp__law_rows K mg) := by
  refine T.d__law_rows.cal (k := 1) sc__law_rows (by intro vs H Q E h; unfold sp__law_rows at h; split at h <;> first | rfl | exact h.elim) fun f cdv A outer s H vs Q E hr h => ?_
  refine ⟨_, (pss_cons (ps_set (i := 1) sc__law_rows.nd rfl (.inl rfl) (pe_op op_addA pe_int (pe_op op_mod (pe_c (c__law_mixed T) hr (by decide) (by rfl) (pa_cons (pv 0) (pa_cons pe_int pa_nil))) pe_int)))
    (pss_cons (ps_set (i := 2) sc__law_rows.nd rfl (.inl rfl) (pe_op op_mod (pe_c (c__law_mixed T) hr (by decide) (by rfl) (pa_cons (pv 0) (pa_cons pe_int pa_nil))) pe_int))
    (pss_cons (ps_set (i := 3) sc__law_rows.nd rfl (.inl rfl) (pe_lst pa_nil))
    (pss_cons (ps_for PassesOwn.never rfl (pi_range1 (by rfl) T.n_range (pa_cons (pv 1) pa_nil)) (pg_name (i := 4) sc__law_rows.nd rfl (.inl rfl))
    (pss_cons (ps_set (i := 5) sc__law_rows.nd rfl (.inl rfl) (pe_c (c__law_mixed T) hr (by decide) (by rfl) (pa_cons (pv 0) (pa_cons (pe_op op_addA pe_int (pv 4)) pa_nil))))
    (pss_cons (ps_set (i := 6) sc__law_rows.nd rfl (.inl rfl) (pe_op op_sub (pe_op op_mod (pv 5) pe_int) pe_int))
    (Evl.pss_cut (ps_if (pt_cmpR op_gt (pv 2) pe_int (nomark _))
    (pss_one (ps_set (i := 6) sc__law_rows.nd rfl (.inl rfl) (pe_callB (call_min2A rfl) (by rfl) T.n_min (by decide +kernel) (pa_cons pe_int (pa_cons (pe_op op_addA (pe_op op_sub (pe_op op_fdivW (pv 4) (pe_op op_addA pe_int (pe_op op_mod (pe_op op_fdivW (pe_c (c__law_mixed T) hr (by decide) (by rfl) (pa_cons (pv 0) (pa_cons pe_int pa_nil))) pe_int) pe_int))) pe_int) (pe_op op_mod (pv 5) pe_int)) pa_nil)))))
    pss_nil)
    (pss_cons (ps_set (i := 7) sc__law_rows.nd rfl (.inl rfl) (pe_op op_addA (pe_op op_addA (pv 6) pe_int) (pe_op op_mod (pe_op op_fdivW (pv 5) pe_int) (pe_op op_sub pe_int (pv 6)))))
    (Evl.pss_cut (ps_if (pt_cmpR op_gt (pv 2) pe_int (nomark _))
    (pss_one (ps_set (i := 7) sc__law_rows.nd rfl (.inl rfl) (pe_callB (call_min2A rfl) (by rfl) T.n_min (by decide +kernel) (pa_cons pe_int (pa_cons (pe_op op_addA (pe_op op_addA (pv 6) pe_int) (pe_op op_mod (pe_op op_fdivW (pv 5) pe_int) pe_int)) pa_nil)))))
    pss_nil)
    (pss_one (ps_expr (pe_bm PySem.F.plainAttrs_list PySem.F.slot_list_append PySem.F.type_list_append mt_append (pv 3) (pa_cons (pe_tup (pa_cons (pv 6) (pa_cons (pv 7) pa_nil))) pa_nil))))))))))
    (pss_cons (ps_asg (pe_tup (pa_cons (pe_ix ix_seq (pe_ix ix_seq (pv 3) (pe_un un_neg pe_int) (fun _ _ => rfl)) pe_int (fun _ _ => rfl)) (pa_cons (pe_op op_addA (pe_ix ix_seq (pe_ix ix_seq (pv 3) (pe_un un_neg pe_int) (fun _ _ => rfl)) pe_int (fun _ _ => rfl)) pe_int) pa_nil))) (pg_sub (pv 3) (pe_un un_neg pe_int) set_list))
    (pss_one (ps_ret (pv 3)))))))), ?_⟩
  try simp only [cxOf_K, cxOf_K', cxOf_mg, cxOf_mg']
  unfold sp__law_rows at h
  split at h
  case h_2 => exact h.elim
  rename_i c
  rw [show L2.start ["_law_cell_here", "_law_many", "_law_way", "_law_rows_here", "_law_k", "_law_number", "_law_let", "_law_turn"] [V.int c] = [some (V.int c), none, none, none, none, none, none, none] from rfl]
  walk_at "sts"
  refine ⟨by decide, by decide, fun r0 a0 a1 => ?_⟩
  walk_at "sa"
  refine ⟨by decide, by decide, fun r1 b0 b1 => ?_⟩
  walk_at "sa"
  walk_at "nw"
  rename_i p hp H1 s1 e1
  walk_at "sa"
  refine L_r1 (by omega) (by omega) ?_
  generalize hn : (1 + r0 % 24).toNat = n
  have hn1 : 1 ≤ n ∧ n ≤ 24 := by omega
  refine f_range (fun i σ' H' => ∃ (rows : List (Int × Int)) (us : List V) (v4 v5 v6 v7 : Option V), σ' = [some (.int c), some (.int (1 + r0 % 24)), some (.int (r1 % 3)), some (.ref p), v4, v5, v6, v7] ∧ Same H H' ∧ H' p = some (.lst us) ∧ DpAll K (rs (· ≠ p) H') us (rows.map d2) ∧ rows.length = i ∧ ∀ r ∈ rows, OkR r) ⟨[], [], _, _, _, _, rfl, s1, e1, .nil, rfl, by simp⟩ ?_ ?_
  · rintro i σ' H2 hi ⟨rows, us, v4, v5, v6, v7, rfl, s2, e2, hA, hl, hok⟩
    walk_at "sts"
    refine ⟨by omega, by omega, fun r2 c0 c1 => ?_⟩
    walk_at "sa"
    refine L_cut (Mid := fun σ' H' => H' = H2 ∧ ∃ lt : Int, -1 ≤ lt ∧ lt ≤ 24 ∧ σ' = [some (.int c), some (.int (1 + r0 % 24)), some (.int (r1 % 3)), some (.ref p), some (.int (0 + (i : Int))), some (.int r2), some (.int lt), v7]) ?_ ?_
    · walk_at "sts"
      refine L_d (fun _ => ?_) (fun _ => ?_)
      · walk_at "sts"
        refine ⟨by decide, by decide, fun r3 d0 d1 => ?_⟩
        have e0 := Int.emod_nonneg (r3 / 3) (show (4 : Int) ≠ 0 by decide)
        have f0 : 0 ≤ (0 + (i : Int)) / (2 + r3 / 3 % 4) := Int.ediv_nonneg (by omega) (by omega)
        walk_at "sa"
        exact ⟨rfl, _, by omega, by omega, rfl⟩
      · walk_at "sts"
        exact ⟨rfl, _, by omega, by omega, rfl⟩
    · rintro σ' H3 ⟨rfl, lt, l0, l1, rfl⟩
      walk_at "sa"
      have g0 := Int.emod_nonneg (r2 / 32) (show (25 - lt : Int) ≠ 0 by omega)
      have g1 := Int.emod_lt_of_pos (r2 / 32) (show (0 : Int) < 25 - lt by omega)
      generalize r2 / 32 % (25 - lt) = y at g0 g1
      refine L_cut (Mid := fun σ' H' => H' = H3 ∧ ∃ tn : Int, lt < tn ∧ tn ≤ 25 ∧ σ' = [some (.int c), some (.int (1 + r0 % 24)), some (.int (r1 % 3)), some (.ref p), some (.int (0 + (i : Int))), some (.int r2), some (.int lt), some (.int tn)]) ?_ ?_
      · walk_at "sts"
        refine L_d (fun _ => ?_) (fun _ => ?_)
        · walk_at "sa"
          exact ⟨rfl, _, by omega, by omega, rfl⟩
        · walk_at "sts"
          exact ⟨rfl, _, by omega, by omega, rfl⟩
      · rintro σ' H4 ⟨rfl, tn, t0, t1, rfl⟩
        walk_at "sts"
        refine L_tyL (.of e2) ?_
        walk_at "sts"
        walk_at "nw"
        rename_i p5 hp5 H5 s5 e5
        walk_at "sts"
        have hul := hA.len
        rw [List.length_map] at hul
        refine L_app (s5 _ _ e2) (sz_lt (by omega)) ?_
        walk_at "sts"
        refine ⟨rows ++ [(lt, tn)], _, _, _, _, _, rfl, same_mut (s2.trans s5) hp, upd_same, ?_, by simp [hl], fun r hr => ?_⟩
        · rw [List.map_append]
          exact dp_grow hA s5 (dp_tupN e5 (ne_new hp5 ⟨_, e2⟩) (by walk_at "dpa"))
        · rcases List.mem_append.mp hr with hr | hr
          · exact hok r hr
          · rw [List.mem_singleton.mp hr]
            exact ⟨l0, l1, by show 0 ≤ tn; omega, t1, t0⟩
  · rintro σ' H2 ⟨rows, us, v4, v5, v6, v7, rfl, s2, e2, hA, hl, hok⟩
    have hul := hA.len
    rw [List.length_map] at hul
    obtain ⟨ini, l, rfl⟩ : ∃ ini l, rows = ini ++ [l] := ⟨rows.dropLast, rows.getLast (by intro z; rw [z] at hl; simp at hl; omega), (List.dropLast_concat_getLast _).symm⟩
    have hin : ini.length + 1 = n := by rw [← hl]; simp
    obtain ⟨ui, ul, rfl⟩ : ∃ ui ul, us = ui ++ [ul] := ⟨us.dropLast, us.getLast (by intro z; rw [z] at hul; simp at hul), (List.dropLast_concat_getLast _).symm⟩
    have hui : ui.length = ini.length := by simpa using hul
    obtain ⟨r', t, hr', ht, hRT⟩ := hit2 hA (i := ui.length) (x := ul) (by simp)
    have hrl : r' = l := by
      rw [hui] at hr'
      simpa using hr'.symm
    subst hrl
    subst ht
    have hRT2 : SqT K H2 t [.int r'.1, .int r'.2] := rs_sub.seqT hRT
    have ol := hok r' (by simp)
    walk_at "sts"
    refine L_ixL (.of e2) (atI_last ui _) ?_
    walk_at "sts"
    refine L_ixT hRT2 (by rfl) ?_
    walk_at "sts"
    refine L_ixL (.of e2) (atI_last ui _) ?_
    walk_at "sts"
    refine L_ixT hRT2 (by rfl) ?_
    walk_at "sts"
    walk_at "nw"
    rename_i p5 hp5 H5 s5 e5
    walk_at "sts"
    refine L_setL (s5 _ _ e2) (j := ui.length) ?_ ?_
    · unfold ixN
      rw [if_neg (by decide), if_pos (by simp; omega)]
      simp
      omega
    walk_at "sts"
    have hset : (ui ++ [V.ref t]).set ui.length (V.ref p5) = ui ++ [V.ref p5] := by simp
    rw [hset]
    have hA' : DpAll K (rs (· ≠ p) H2) ui (ini.map d2) := by
      rw [List.map_append] at hA
      exact (dpa_app hA (by simp [hui])).1
    refine h (ini ++ [(r'.1, r'.1 + 1)]) _ p _ ⟨by simp; omega, fun r hr => ?_, ini, _, rfl, rfl⟩ hp (same_mut (s2.trans s5) hp) upd_same ?_
    · rcases List.mem_append.mp hr with hr | hr
      · exact hok r (List.mem_append_left _ hr)
      · rw [List.mem_singleton.mp hr]
        obtain ⟨o1, o2, o3, o4, o5⟩ := ol
        exact ⟨o1, o2, by show 0 ≤ r'.1 + 1; omega, by show r'.1 + 1 ≤ 25; omega, by show r'.1 < r'.1 + 1; omega⟩
    · rw [List.map_append]
      exact dp_grow hA' s5 (dp_tupN e5 (ne_new hp5 ⟨_, e2⟩) (by walk_at "dpa"))
theorem same_made {H : Hp} {x dx C : Addr} (nx : H x = none) (nd : H dx = none) (ne : dx ≠ x) : Same H (upd (upd H dx (.own x)) x (.ins C dx [])) :=
  (same_new nd).trans (same_new (by rw [upd_ne ne.symm]; exact nx))
/-- new, as data -/
def NewD (K : PySem.W.Frag) (H H' : Hp) (v : V) (D : PyData) : Prop := Dp K (rs (fun b => H b = none) H') v D
theorem NewD.full {K : PySem.W.Frag} {H H' : Hp} {v : V} {D : PyData} (h : NewD K H H' v D) : Dp K H' v D := Dp.same h rs_sub
theorem newT {K : PySem.W.Frag} {H H1 H' : Hp} {p : Addr} {xs : List V} {ds : List PyData} (hp : H1 p = none) (s : Same H H1) (e : H' p = some (.tup xs)) (h : DpAll K (rs (fun b => H b = none) H') xs ds) : NewD K H H' (.ref p) (.tuple ds) := .tup (.of (rs_at (s.free hp) e)) h
theorem newL {K : PySem.W.Frag} {H H1 H' : Hp} {p : Addr} {xs : List V} {ds : List PyData} (hp : H1 p = none) (s : Same H H1) (e : H' p = some (.lst xs)) (h : DpAll K (rs (fun b => H b = none) H') xs ds) : NewD K H H' (.ref p) (.list ds) := .lst (.of (rs_at (s.free hp) e)) h
theorem rowT {ds : List PyData} (h : ∀ d ∈ ds, scal d = true) : RowD (.tuple ds) := .inr (.inr (.inr ⟨ds, rfl, h⟩))
def sp__law_odd (K : PySem.W.Frag) (mg : Str → Option Value) : Sp := fun vs H Q _ => match vs with | [.ref t, .int n] => ∃ r : Int × Int, SqT K H t [.int r.1, .int r.2] ∧ 0 ≤ n ∧ n < 1099511627776 ∧ ∀ v D H', Same H H' → NewD K H H' v D → RowD D → Q v H' | _ => False
theorem q__law_odd {H : Hp} {Q : VK} {E : XK} {t : Addr} {n : Int} (q : ∃ r : Int × Int, SqT K H t [.int r.1, .int r.2] ∧ 0 ≤ n ∧ n < 1099511627776 ∧ ∀ v D H', Same H H' → NewD K H H' v D → RowD D → Q v H') : sp__law_odd K mg [.ref t, .int n] H Q E := q
local macro_rules | `(tactic| walk_at "op") => `(tactic| with_reducible refine q__law_odd ?_)
theorem c__law_odd (T : Txt K mg) : Cal P w K mg base 1 "_law_odd" (sp__law_odd K mg) := by
  refine T.d__law_odd.cal (k := 0) sc__law_odd (by intro vs H Q E h; unfold sp__law_odd at h; split at h <;> first | rfl | exact h.elim) fun f cdv A outer s H vs Q E hr h => ?_
  refine ⟨_, (pss_cons (ps_set (i := 2) sc__law_odd.nd rfl (.inl rfl) (pe_op op_addA (pe_op op_pow pe_int pe_int) (pv 1)))
    (pss_cons (ps_set (i := 3) sc__law_odd.nd rfl (.inl rfl) (pe_lst (pa_cons pe_non (pa_cons (pe_callTy call_list1A (by rfl) T.n_list (by decide +kernel) (pa_cons (pv 0) pa_nil)) (pa_cons (pe_slice sl_tupA (pv 0) po_none (po_some pe_int)) (pa_cons (pe_op op_addA (pv 0) (pe_tup (pa_cons pe_int pa_nil))) (pa_cons pe_str (pa_cons (pe_tup (pa_cons (pe_ix ix_seq (pv 0) pe_int (fun _ _ => rfl)) (pa_cons (pe_ix ix_seq (pv 0) pe_int (fun _ _ => rfl)) pa_nil))) (pa_cons (pe_tup (pa_cons (pe_ix ix_seq (pv 0) pe_int (fun _ _ => rfl)) (pa_cons (pe_ix ix_seq (pv 0) pe_int (fun _ _ => rfl)) pa_nil))) (pa_cons (pe_tup (pa_cons (pe_un un_neg pe_int) (pa_cons pe_int pa_nil))) (pa_cons (pe_tup (pa_cons pe_int (pa_cons pe_int pa_nil))) pa_nil)))))))))))
    (pss_cons (ps_set (i := 3) sc__law_odd.nd rfl (.inl rfl) (pe_op op_addA (pv 3) (pe_lst (pa_cons (pe_tup (pa_cons (pe_ix ix_seq (pv 0) pe_int (fun _ _ => rfl)) (pa_cons pe_int pa_nil))) (pa_cons (pe_tup (pa_cons pe_bl (pa_cons pe_int pa_nil))) (pa_cons (pe_tup (pa_cons pe_int (pa_cons pe_bl pa_nil))) (pa_cons (pe_tup (pa_cons pe_int (pa_cons pe_non pa_nil))) (pa_cons (pe_tup (pa_cons pe_str (pa_cons pe_int pa_nil))) (pa_cons (pe_tup (pa_cons (pe_op op_sub pe_int (pv 2)) (pa_cons pe_int pa_nil))) (pa_cons (pe_tup (pa_cons pe_int (pa_cons (pv 2) pa_nil))) (pa_cons (pe_tup (pa_cons pe_int (pa_cons pe_int pa_nil))) (pa_cons (pe_tup (pa_cons (pe_un un_neg pe_int) (pa_cons pe_int pa_nil))) pa_nil))))))))))))
    (pss_one (ps_ret (pe_ix ix_seq (pv 3) (pe_op op_mod (pv 1) (pe_callB call_lenA (by rfl) T.n_len (by decide +kernel) (pa_cons (pv 3) pa_nil))) (fun _ _ => rfl))))))), ?_⟩
  try simp only [cxOf_K, cxOf_K', cxOf_mg, cxOf_mg']
  unfold sp__law_odd at h
  split at h
  case h_2 => exact h.elim
  rename_i t n
  rw [show L2.start ["_law_row", "_law_number", "_law_far", "_law_some"] [V.ref t, V.int n] = [some (V.ref t), some (V.int n), none, none] from rfl]
  obtain ⟨r, hT, n0, n1, q⟩ := h
  walk_at "sa"
  refine ⟨t, _, rfl, .inr hT, ?_⟩
  walk_at "nwp"
  rename_i p1 hp1 H1 s1 e1
  walk_at "sts"
  refine ⟨t, _, rfl, s1.seqT hT, fun z => absurd z.2 (show ¬ HT.sIx 2 2 (some 1) = 2 by decide), fun _ => ?_⟩
  walk_at "nwp"
  rename_i p2 hp2 H2 s2 e2
  walk_at "sts"
  walk_at "nw"
  rename_i p3 hp3 H3 s3 e3
  refine L_catA ((s1.trans (s2.trans s3)).seqT hT) (.of e3) (by simp) (by simp) (sz_dec (by simp)) ?_
  walk_at "nwp"
  rename_i p4 hp4 H4 s4 e4
  have s04 := s1.trans (s2.trans (s3.trans s4))
  walk_at "sts"
  refine L_ixT (s04.seqT hT) rfl ?_
  walk_at "sts"
  refine L_ixT (s04.seqT hT) rfl ?_
  walk_at "sts"
  walk_at "nw"
  rename_i p5 hp5 H5 s5 e5
  walk_at "sts"
  refine L_ixT ((s04.trans s5).seqT hT) rfl ?_
  walk_at "sts"
  refine L_ixT ((s04.trans s5).seqT hT) rfl ?_
  walk_at "sts"
  walk_at "nw"
  rename_i p6 hp6 H6 s6 e6
  walk_at "sts"
  walk_at "nw"
  rename_i p7 hp7 H7 s7 e7
  walk_at "sts"
  walk_at "nw"
  rename_i p8 hp8 H8 s8 e8
  walk_at "sts"
  walk_at "nw"
  rename_i p9 hp9 H9 s9 e9
  have s49 : Same H4 H9 := s5.trans (s6.trans (s7.trans (s8.trans s9)))
  have s09 := s04.trans s49
  walk_at "sts"
  refine L_ixT (s09.seqT hT) rfl ?_
  walk_at "sts"
  walk_at "nw"
  rename_i q1 hq1 G1 t1 f1
  walk_at "sts"
  walk_at "nw"
  rename_i q2 hq2 G2 t2 f2
  walk_at "sts"
  walk_at "nw"
  rename_i q3 hq3 G3 t3 f3
  walk_at "sts"
  walk_at "nw"
  rename_i q4 hq4 G4 t4 f4
  walk_at "sts"
  walk_at "nw"
  rename_i q5 hq5 G5 t5 f5
  walk_at "sts"
  walk_at "nw"
  rename_i q6 hq6 G6 t6 f6
  walk_at "sts"
  walk_at "nw"
  rename_i q7 hq7 G7 t7 f7
  walk_at "sts"
  walk_at "nw"
  rename_i q8 hq8 G8 t8 f8
  walk_at "sts"
  walk_at "nw"
  rename_i q9 hq9 G9 t9 f9
  walk_at "sts"
  walk_at "nw"
  rename_i q0 hq0 G0 t0 f0
  have t90 := t9.trans t0
  have t80 := t8.trans t90
  have t70 := t7.trans t80
  have t60 := t6.trans t70
  have t50 := t5.trans t60
  have t40 := t4.trans t50
  have t30 := t3.trans t40
  have t20 := t2.trans t30
  have t10 := t1.trans t20
  walk_at "sts"
  refine L_addL (t10 _ _ e9) f0 (sz_dec (by simp)) ?_
  walk_at "nwp"
  rename_i pf hpf Hf sf ef
  walk_at "sts"
  refine L_lenL (.of ef) ?_
  walk_at "sts"
  refine L_I (by simp) ?_
  refine L_menuV (.of ef) (Int.emod_nonneg _ (by simp)) (Int.emod_lt_of_pos _ (by simp)) fun v hv => ?_
  have s9f := t10.trans sf
  have s8f := s9.trans s9f
  have s7f := s8.trans s8f
  have s6f := s7.trans s7f
  have s5f := s6.trans s6f
  have s4f := s5.trans s5f
  have s3f := s4.trans s4f
  have s2f := s3.trans s3f
  have s1f := s2.trans s2f
  have s0f := s1.trans s1f
  simp only [List.cons_append, List.nil_append, List.mem_cons, List.not_mem_nil, or_false] at hv
  rcases hv with rfl | rfl | rfl | rfl | rfl | rfl | rfl | rfl | rfl | rfl | rfl | rfl | rfl | rfl | rfl | rfl | rfl | rfl
  · exact q _ .none _ s0f .non (.inl rfl)
  · exact q _ _ _ s0f (newL (ds := [.int r.1, .int r.2]) hp1 (Same.refl _) (s1f _ _ e1) (by walk_at "dpa")) (.inr (.inr (.inl ⟨_, rfl⟩)))
  · exact q _ _ _ s0f (newT (ds := [.int r.1]) hp2 s1 (s2f _ _ e2) (by walk_at "dpa")) (rowT (by simp [scal]))
  · exact q _ _ _ s0f (newT (ds := [.int r.1, .int r.2, .int 25]) hp4 (s1.trans (s2.trans s3)) (s4f _ _ e4) (by walk_at "dpa")) (rowT (by simp [scal]))
  · exact q _ (.str "ab") _ s0f (.str _) (.inr (.inl ⟨_, rfl⟩))
  · exact q _ _ _ s0f (newT (ds := [.int r.2, .int r.1]) hp5 s04 (s5f _ _ e5) (by walk_at "dpa")) (rowT (by simp [scal]))
  · exact q _ _ _ s0f (newT (ds := [.int r.1, .int r.1]) hp6 (s04.trans s5) (s6f _ _ e6) (by walk_at "dpa")) (rowT (by simp [scal]))
  · exact q _ _ _ s0f (newT (ds := [.int (-2), .int 1]) hp7 (s04.trans (s5.trans s6)) (s7f _ _ e7) (by walk_at "dpa")) (rowT (by simp [scal]))
  · exact q _ _ _ s0f (newT (ds := [.int 25, .int 26]) hp8 (s04.trans (s5.trans (s6.trans s7))) (s8f _ _ e8) (by walk_at "dpa")) (rowT (by simp [scal]))
  · exact q _ _ _ s0f (newT (ds := [.int r.1, .int 26]) hq1 s09 ((t20.trans sf) _ _ f1) (by walk_at "dpa")) (rowT (by simp [scal]))
  · exact q _ _ _ s0f (newT (ds := [.bool true, .int 2]) hq2 (s09.trans t1) ((t30.trans sf) _ _ f2) (by walk_at "dpa")) (rowT (by simp [scal]))
  · exact q _ _ _ s0f (newT (ds := [.int 0, .bool true]) hq3 (s09.trans (t1.trans t2)) ((t40.trans sf) _ _ f3) (by walk_at "dpa")) (rowT (by simp [scal]))
  · exact q _ _ _ s0f (newT (ds := [.int 0, .none]) hq4 (s09.trans (t1.trans (t2.trans t3))) ((t50.trans sf) _ _ f4) (by walk_at "dpa")) (rowT (by simp [scal]))
  · exact q _ _ _ s0f (newT (ds := [.str "0", .int 1]) hq5 (s09.trans (t1.trans (t2.trans (t3.trans t4)))) ((t60.trans sf) _ _ f5) (by walk_at "dpa")) (rowT (by simp [scal]))
  · exact q _ _ _ s0f (newT (ds := [.int (0 - (100000000000000000000 + n)), .int 1]) hq6 (s09.trans (t1.trans (t2.trans (t3.trans (t4.trans t5))))) ((t70.trans sf) _ _ f6) (by walk_at "dpa")) (rowT (by simp [scal]))
  · exact q _ _ _ s0f (newT (ds := [.int 0, .int (100000000000000000000 + n)]) hq7 (s09.trans (t1.trans (t2.trans (t3.trans (t4.trans (t5.trans t6)))))) ((t80.trans sf) _ _ f7) (by walk_at "dpa")) (rowT (by simp [scal]))
  · exact q _ _ _ s0f (newT (ds := [.int 0, .int 25]) hq8 (s09.trans (t1.trans (t2.trans (t3.trans (t4.trans (t5.trans (t6.trans t7))))))) ((t90.trans sf) _ _ f8) (by walk_at "dpa")) (rowT (by simp [scal]))
  · exact q _ _ _ s0f (newT (ds := [.int (-1), .int 0]) hq9 (s09.trans (t1.trans (t2.trans (t3.trans (t4.trans (t5.trans (t6.trans (t7.trans t8)))))))) ((t0.trans sf) _ _ f9) (by walk_at "dpa")) (rowT (by simp [scal]))
def sp__law_is_whole (K : PySem.W.Frag) (mg : Str → Option Value) : Sp := fun vs H Q _ => match vs with | [v] => ∃ d, Dp K H v d ∧ scal d = true ∧ Q (.bl (match d with | .int _ => true | _ => false)) H | _ => False
theorem c__law_is_whole (T : Txt K mg) : Cal P w K mg base 1 "_law_is_whole" (sp__law_is_whole K mg) := by
  refine T.d__law_is_whole.cal (k := 0) sc__law_is_whole (by intro vs H Q E h; unfold sp__law_is_whole at h; split at h <;> first | rfl | exact h.elim) fun f cdv A outer s H vs Q E hr h => ?_
  refine ⟨_, (pss_one (ps_ret (pe_and (pe_callB call_isi (by rfl) T.n_isinstance (by decide +kernel) (pa_cons (pv 0) (pa_cons (pe_ty "int" (by rfl) T.n_int (by decide +kernel)) pa_nil))) (pe_one (pe_not (pe_callB call_isi (by rfl) T.n_isinstance (by decide +kernel) (pa_cons (pv 0) (pa_cons (pe_ty "bool" (by rfl) T.n_bool (by decide +kernel)) pa_nil)))))))), ?_⟩
  try simp only [cxOf_K, cxOf_K', cxOf_mg, cxOf_mg']
  unfold sp__law_is_whole at h
  split at h
  case h_2 => exact h.elim
  rename_i v
  rw [show L2.start ["_law_thing"] [v] = [some (v)] from rfl]
  obtain ⟨d, hd, hs, q⟩ := h
  cases d with
  | int i =>
    rw [of_int hd]
    walk_at "sa"
    exact q
  | bool b =>
    rw [of_bl hd]
    walk_at "sts"
    refine L_isi (.base (.bl b)) (b := true) (by decide +kernel) ?_
    walk_at "sts"
    refine L_isi (.base (.bl b)) (b := true) (by decide +kernel) ?_
    walk_at "sts"
    exact q
  | none =>
    rw [of_non hd]
    walk_at "sts"
    refine L_isi (.base .non) (b := false) (by decide +kernel) ?_
    walk_at "sts"
    exact q
  | str z =>
    rw [of_str hd]
    walk_at "sts"
    refine L_isi (.base (.str _)) (b := false) (by decide +kernel) ?_
    walk_at "sts"
    exact q
  | _ => cases hs
def sp__law_good (K : PySem.W.Frag) (mg : Str → Option Value) : Sp := fun vs H Q _ => match vs with | [v] => ∃ D, Dp K H v D ∧ RowD D ∧ Q (.bl (goodRow D)) H | _ => False
theorem q__law_good {H : Hp} {Q : VK} {E : XK} {v : V} (q : ∃ D, Dp K H v D ∧ RowD D ∧ Q (.bl (goodRow D)) H) : sp__law_good K mg [v] H Q E := q
local macro_rules | `(tactic| walk_at "op") => `(tactic| with_reducible refine q__law_good ?_)
theorem c__law_good (T : Txt K mg) : Cal P w K mg base 2 "_law_good" (sp__law_good K mg) := by
  refine T.d__law_good.cal (k := 1) sc__law_good (by intro vs H Q E h; unfold sp__law_good at h; split at h <;> first | rfl | exact h.elim) fun f cdv A outer s H vs Q E hr h => ?_
  refine ⟨_, (pss_cons (ps_if (PW.pt (pw_or (pt_not (pt_val (pe_callB call_isi (by rfl) T.n_isinstance (by decide +kernel) (pa_cons (pv 0) (pa_cons (pe_ty "tuple" (by rfl) T.n_tuple (by decide +kernel)) pa_nil))))) (pw_or (pt_cmpR (op_neA hr) (pe_callB call_lenA (by rfl) T.n_len (by decide +kernel) (pa_cons (pv 0) pa_nil)) pe_int (nomark _)) (pw_or (pt_not (pt_val (pe_c (c__law_is_whole T) hr (by decide) (by rfl) (pa_cons (pe_ix ix_seq (pv 0) pe_int (fun _ _ => rfl)) pa_nil)))) (pw_or1 (pt_not (pt_val (pe_c (c__law_is_whole T) hr (by decide) (by rfl) (pa_cons (pe_ix ix_seq (pv 0) pe_int (fun _ _ => rfl)) pa_nil)))))))))
    (pss_one (ps_ret pe_bl))
    pss_nil)
    (pss_one (ps_ret (pe_and (pe_chain3 op_leA op_ltA op_leA (pe_un un_neg pe_int) (pe_ix ix_seq (pv 0) pe_int (fun _ _ => rfl)) (pe_ix ix_seq (pv 0) pe_int (fun _ _ => rfl)) pe_int) (pe_one (pe_cmpR op_leA (pe_ix ix_seq (pv 0) pe_int (fun _ _ => rfl)) pe_int (nomark _))))))), ?_⟩
  try simp only [cxOf_K, cxOf_K', cxOf_mg, cxOf_mg']
  unfold sp__law_good at h
  split at h
  case h_2 => exact h.elim
  rename_i v
  rw [show L2.start ["_law_row"] [v] = [some (v)] from rfl]
  obtain ⟨D, hD, hR, q⟩ := h
  rcases hR with rfl | ⟨z, rfl⟩ | ⟨ds, rfl⟩ | ⟨ds, rfl, hs⟩
  · rw [of_non hD]
    walk_at "sts"
    refine L_isi (.base .non) (b := false) (by decide +kernel) ?_
    walk_at "sts"
    exact q
  · rw [of_str hD]
    walk_at "sts"
    refine L_isi (.base (.str _)) (b := false) (by decide +kernel) ?_
    walk_at "sts"
    exact q
  · obtain ⟨a, xs, rfl, hL, _⟩ := of_lst hD
    walk_at "sts"
    refine L_isi (tyx_L hL) (b := false) (by decide +kernel) ?_
    walk_at "sts"
    exact q
  obtain ⟨a, xs, rfl, hT, hA⟩ := of_tup hD
  have hxl := hA.len
  walk_at "sts"
  refine L_isi (tyx_T hT) (b := true) (by decide +kernel) ?_
  walk_at "sts"
  refine L_lenT hT ?_
  walk_at "sts"
  by_cases h2 : ds.length = 2
  · match ds, h2, hA, hs with
    | [d, e], _, hA, hs =>
      obtain ⟨x, y, hx, hy, rfl⟩ : ∃ x y, Dp K H x d ∧ Dp K H y e ∧ xs = [x, y] := by
        cases hA with
        | cons p1 p2 => cases p2 with | cons p3 p4 => cases p4; exact ⟨_, _, p1, p3, rfl⟩
      have sd := hs d (by simp)
      have se := hs e (by simp)
      have q' : Q (.bl (wholeD d (-1) 24 && (wholeD e 0 25 && ltD d e))) H := q
      refine L_ndF rfl ?_
      walk_at "sts"
      refine L_ixT hT rfl ?_
      walk_at "sts"
      refine ⟨d, hx, sd, ?_⟩
      cases d with
      | int i =>
        walk_at "sts"
        refine L_ixT hT rfl ?_
        walk_at "sts"
        refine ⟨e, hy, se, ?_⟩
        cases e with
        | int j =>
          rw [of_int hx, of_int hy] at hT
          have q'' : Q (.bl (decide (-1 ≤ i) && decide (i ≤ 24) && (decide (0 ≤ j) && decide (j ≤ 25) && decide (i < j)))) H := q'
          walk_at "sts"
          refine L_ixT hT rfl ?_
          walk_at "sts"
          refine L_d (fun c1 => ?_) (fun c1 => ?_)
          · walk_at "sts"
            refine L_ixT hT rfl ?_
            walk_at "sts"
            refine L_d (fun c2 => ?_) (fun c2 => ?_)
            · walk_at "sts"
              by_cases c3 : j ≤ 25
              · rw [decide_eq_true c3]
                walk_at "sts"
                refine L_ixT hT rfl ?_
                walk_at "sts"
                rw [decide_eq_true c1, decide_eq_true c2, decide_eq_true c3, decide_eq_true (show 0 ≤ j by omega), Bool.true_and, Bool.true_and, Bool.true_and, Bool.and_true] at q''
                exact q''
              · rw [decide_eq_false c3]
                walk_at "sts"
                rw [decide_eq_false c3, Bool.and_false, Bool.false_and, Bool.and_false] at q''
                exact q''
            · walk_at "sts"
              rw [decide_eq_false c2, Bool.and_false, Bool.and_false] at q''
              exact q''
          · walk_at "sts"
            rw [decide_eq_false c1, Bool.false_and, Bool.false_and] at q''
            exact q''
        | list _ => cases se
        | tuple _ => cases se
        | _ =>
          walk_at "sts"
          have q2 : Q (.bl (wholeD (.int i) (-1) 24 && false)) H := q'
          rw [Bool.and_false] at q2
          exact q2
      | list _ => cases sd
      | tuple _ => cases sd
      | _ =>
        walk_at "sts"
        exact q'
  · refine L_ndT (by omega) ?_
    rw [goodRow_len h2] at q
    walk_at "sts"
    exact q
def dueV : Option Nat → V
  | some n => .int (n : Int)
  | none => .non
theorem dpa_set {K : PySem.W.Frag} {H : Hp} {v : V} {d : PyData} (h : Dp K H v d) : ∀ {ds : List PyData} {vs : List V} (i : Nat), DpAll K H vs ds → DpAll K H (vs.set i v) (ds.set i d)
  | [], _, i, hA => by cases hA; exact .nil
  | e :: ds, _, 0, hA => by
    cases hA with
    | cons h1 h2 => exact .cons h h2
  | e :: ds, _, i + 1, hA => by
    cases hA with
    | cons h1 h2 => exact .cons h1 (dpa_set h i h2)
theorem dpa_take {K : PySem.W.Frag} {H : Hp} : ∀ {ds : List PyData} {vs : List V} (i : Nat), DpAll K H vs ds → DpAll K H (vs.take i) (ds.take i)
  | ds, vs, 0, _ => by rw [List.take_zero, List.take_zero]; exact .nil
  | [], _, i + 1, hA => by cases hA; exact .nil
  | e :: ds, _, i + 1, hA => by
    cases hA with
    | cons h1 h2 => exact .cons h1 (dpa_take i h2)
theorem dpa_rep {K : PySem.W.Frag} {H : Hp} {ds : List PyData} {vs : List V} (h : DpAll K H vs ds) : ∀ n : Nat, DpAll K H (List.replicate n vs).flatten (List.replicate n ds).flatten
  | 0 => .nil
  | n + 1 => by
    rw [List.replicate_succ, List.replicate_succ, List.flatten_cons, List.flatten_cons]
    exact h.app (dpa_rep h n)
/-- a thing that Looks refuses, or takes -/
def TabV (K : PySem.W.Frag) (H : Hp) (v : V) (o : Option Nat) : Prop := (NotL K H v ∧ o = some 0) ∨ ∃ a us Ds, v = .ref a ∧ SqL K H a us ∧ DpAll K H us Ds ∧ us.length ≤ 1000 ∧ (∀ D ∈ Ds, RowD D) ∧ badT Ds = o
theorem TabV.same {K : PySem.W.Frag} {H H' : Hp} {v : V} {o : Option Nat} (h : TabV K H v o) (s : Same H H') : TabV K H' v o := by
  rcases h with ⟨h, e⟩ | ⟨a, us, Ds, h1, h2, h3, h4, h5, h6⟩
  · exact .inl ⟨h.same s, e⟩
  · exact .inr ⟨a, us, Ds, h1, s.seq h2, h3.same s, h4, h5, h6⟩
theorem tab_of {K : PySem.W.Frag} {mg : Str → Option Value} {H : Hp} {v : V} {o : Option Nat} {E : XK} {R : Addr → List V → List (Int × Int) → Prop} (h : TabV K H v o) (q1 : ∀ n : Nat, o = some n → ∀ d H', Same H H' → H' d = some (.xd [("row", .int (n : Int))]) → E (.ref (cA mg "NoTable")) (some d) H')
    (q2 : o = none → ∀ a us rows, R a us rows) : Tab K mg H v E R := by
  rcases h with ⟨h, e⟩ | ⟨a, us, Ds, h1, h2, h3, h4, h5, h6⟩
  · exact .inl ⟨h, q1 0 e⟩
  · refine .inr ⟨a, us, Ds, h1, h2, h3, h4, h5, fun n e => q1 n (h6.symm.trans e), fun rows e ho => q2 ?_ a us rows⟩
    rw [← h6, e]
    exact badT_ok ho
def sp__law_due (K : PySem.W.Frag) (mg : Str → Option Value) : Sp := fun vs H Q _ => match vs with | [.ref a] => ∃ us Ds, SqL K H a us ∧ DpAll K H us Ds ∧ 1 ≤ us.length ∧ us.length ≤ 24 ∧ (∀ D ∈ Ds, RowD D) ∧ ∀ H', Same H H' → Q (dueV (badT Ds)) H' | _ => False
theorem q__law_due {H : Hp} {Q : VK} {E : XK} {a : Addr} (q : ∃ us Ds, SqL K H a us ∧ DpAll K H us Ds ∧ 1 ≤ us.length ∧ us.length ≤ 24 ∧ (∀ D ∈ Ds, RowD D) ∧ ∀ H', Same H H' → Q (dueV (badT Ds)) H') : sp__law_due K mg [.ref a] H Q E := q
local macro_rules | `(tactic| walk_at "op") => `(tactic| with_reducible refine q__law_due ?_)
theorem c__law_due (T : Txt K mg) : Cal P w K mg base 3 "_law_due" (sp__law_due K mg) := by
  refine T.d__law_due.cal (k := 2) sc__law_due (by intro vs H Q E h; unfold sp__law_due at h; split at h <;> first | rfl | exact h.elim) fun f cdv A outer s H vs Q E hr h => ?_
  refine ⟨_, (pss_cons (ps_for PassesOwn.never rfl (pi_enum (by rfl) T.n_enumerate (pa_cons (pv 0) pa_nil)) (pg_tup rfl (pgs_cons (pg_name (i := 1) sc__law_due.nd rfl (.inl rfl)) (pgs_cons (pg_name (i := 2) sc__law_due.nd rfl (.inl rfl)) pgs_nil)))
    (pss_cons (ps_if (pt_not (pt_val (pe_c (c__law_good T) hr (by decide) (by rfl) (pa_cons (pv 2) pa_nil))))
    (pss_one (ps_ret (pv 1)))
    pss_nil)
    (pss_one (ps_if (PW.pt (pw_and (pt_cmpR (op_eqA hr) (pv 1) (pe_op op_sub (pe_callB call_lenA (by rfl) T.n_len (by decide +kernel) (pa_cons (pv 0) pa_nil)) pe_int) (nomark _)) (pw_and1 (pt_cmpR (op_neA hr) (pe_ix ix_seq (pv 2) pe_int (fun _ _ => rfl)) (pe_op op_addA (pe_ix ix_seq (pv 2) pe_int (fun _ _ => rfl)) pe_int) (nomark _)))))
    (pss_one (ps_ret (pv 1)))
    pss_nil))))
    (pss_one (ps_ret pe_non))), ?_⟩
  try simp only [cxOf_K, cxOf_K', cxOf_mg, cxOf_mg']
  unfold sp__law_due at h
  split at h
  case h_2 => exact h.elim
  rename_i a
  rw [show L2.start ["_law_rows_here", "_law_k", "_law_row"] [V.ref a] = [some (V.ref a), none, none] from rfl]
  obtain ⟨us, Ds, hL, hA, hl1, hl24, hR, q⟩ := h
  have hul := hA.len
  have hbt : badT Ds = match fb 0 Ds with
    | some k => some k
    | none => if (Ds.getLast?.map shut).getD false = true then none else some (Ds.length - 1) := by
    unfold badT
    rw [if_neg (by omega), if_neg (by omega)]
  walk_at "sts"
  refine L_re hL ?_
  refine f_it walk_enum (fun i σ' H' => Same H H' ∧ (∃ v1 v2, σ' = [some (.ref a), v1, v2]) ∧ fb 0 Ds = fb i (Ds.drop i) ∧ (i = us.length → (Ds.getLast?.map shut).getD false = true)) ⟨Same.refl _, ⟨_, _, rfl⟩, by rw [List.drop_zero], fun z => by omega⟩ (fun _ _ _ _ p => p.1.seq hL) ?_ ?_
  · rintro i x σ' H4 H4' hi ⟨s4, ⟨v1, v2, rfl⟩, hk, _⟩ ⟨T1, k0, t0, rfl, hT, rfl, hk0, hx⟩
    cases hk0
    replace hx : us[i]? = some t0 := hx
    obtain ⟨D, h1, h2⟩ := hA.of hx
    have hd : Ds.drop i = D :: Ds.drop (i + 1) := by
      obtain ⟨hlt, e⟩ := List.getElem?_eq_some_iff.mp h1
      rw [← e]
      exact List.drop_eq_getElem_cons hlt
    rw [hd, fb] at hk
    refine L_gTup (.of upd_same) rfl ?_
    have s4b := same_upd (o := HO.tup [V.int (i : Int), t0]) s4 hT
    walk_at "sts"
    refine ⟨D, h2.same s4b, hR D (List.mem_of_getElem? h1), ?_⟩
    cases hg : goodRow D with
    | true =>
      rw [hg, if_pos rfl] at hk
      obtain ⟨r, rfl, hok⟩ := goodRow_is hg
      obtain ⟨tt, rfl, hRT⟩ := of_d2 h2
      walk_at "sts"
      refine L_lenL (s4b.seq hL) ?_
      walk_at "sts"
      refine L_d (fun c1 => ?_) (fun c1 => ?_)
      · walk_at "sts"
        refine L_ixT (s4b.seqT hRT) rfl ?_
        walk_at "sts"
        refine L_ixT (s4b.seqT hRT) rfl ?_
        walk_at "sts"
        have hgl : Ds.getLast? = some (d2 r) := by rw [List.getLast?_eq_getElem?, ← h1]; congr 1; omega
        refine L_nd (fun c2 => ?_) (fun c2 => ?_)
        · walk_at "sts"
          have e := q _ s4b
          rw [hbt, hk, show Ds.drop (i + 1) = [] from List.drop_eq_nil_of_le (by omega)] at e
          rw [hgl] at e
          replace e : Q (dueV (if decide (r.2 = r.1 + 1) = true then none else some (Ds.length - 1))) _ := e
          rw [decide_eq_false c2, if_neg Bool.false_ne_true] at e
          replace e : Q (.int ((Ds.length - 1 : Nat) : Int)) _ := e
          rw [show ((Ds.length - 1 : Nat) : Int) = (i : Int) by omega] at e
          exact e
        · walk_at "sts"
          refine ⟨s4b, ⟨_, _, rfl⟩, hk, fun _ => ?_⟩
          rw [hgl]
          exact decide_eq_true c2
      · walk_at "sts"
        exact ⟨s4b, ⟨_, _, rfl⟩, hk, fun z => absurd (show (i : Int) = us.length - 1 by omega) c1⟩
    | false =>
      rw [hg, if_neg Bool.false_ne_true] at hk
      walk_at "sts"
      have e := q _ s4b
      rw [hbt, hk] at e
      exact e
  · rintro σ' H4 ⟨s4, ⟨v1, v2, rfl⟩, hk, hs⟩
    rw [show Ds.drop us.length = [] from List.drop_eq_nil_of_le (by omega)] at hk
    replace hk : fb 0 Ds = none := hk
    have e := q _ s4
    rw [hbt, hk] at e
    replace e : Q (dueV (if (Ds.getLast?.map shut).getD false = true then none else some (Ds.length - 1))) _ := e
    rw [if_pos (hs rfl)] at e
    walk_at "sts"
    exact e
def sp__law_told (K : PySem.W.Frag) (mg : Str → Option Value) : Sp := fun vs H Q _ => match vs with | [v] => ∃ o, TabV K H v o ∧ ∀ H', Same H H' → Q (dueV o) H' | _ => False
theorem q__law_told {H : Hp} {Q : VK} {E : XK} {v : V} (q : ∃ o, TabV K H v o ∧ ∀ H', Same H H' → Q (dueV o) H') : sp__law_told K mg [v] H Q E := q
local macro_rules | `(tactic| walk_at "op") => `(tactic| with_reducible refine q__law_told ?_)
theorem c__law_told (T : Txt K mg) : Cal P w K mg base 6 "_law_told" (sp__law_told K mg) := by
  refine T.d__law_told.cal (k := 5) sc__law_told (by intro vs H Q E h; unfold sp__law_told at h; split at h <;> first | rfl | exact h.elim) fun f cdv A outer s H vs Q E hr h => ?_
  refine ⟨_, (pss_cons (ps_set (i := 1) sc__law_told.nd rfl (.inl rfl) pe_non)
    (pss_cons (ps_try_asT (i := 2) (tb := fun W => (tDrop (tMakeE (cA mg "Looks") (sp_Looks___init__ K mg) (fun σ => WE W σ) (tCons (tVar 0) tNil)))) (ts := fun xa xcls xd => (tSeq (tAsg (tC (.str "other")) (gName 1)) (tIfS (tAnd (tB (tCB (rIsS K xa xcls xd) (tCons (tVar 2) (tCons (tC (.ref (cA mg "NoTable"))) tNil)))) (tAnd (tNot (tB (tCB (rIsST K xa xcls xd) (tCons (tVar 2) (tCons (tTup (tCons (tC (.ref (cA mg "NoLot"))) (tCons (tC (.ref (cA mg "NoUnits"))) (tCons (tC (.ref (cA mg "TooMany"))) tNil)))) tNil))))) (tB (tCB (rIsS K xa xcls xd) (tCons (tVar 2) (tCons (tC (.ty "ValueError")) tNil)))))) (tAsg (tXf xa xcls xd (cA mg "NoTable") "row" (tVar 2)) (gName 1)) tNext))) rfl rfl sc__law_told.nd rfl rfl rfl ⟨rfl, by decide, .inl T.m_SpeakError⟩ takes0 (fun W pn xe tk po => by exact (pss_one (ps_expr (pe_xMk (m_Looks T) hr (by decide) (by rfl) (fun σ => passAt tk σ) (pa_cons (pv 0) pa_nil))))) (fun a oe cls d pn hz hf => by exact (pss_cons (ps_set (i := 1) sc__law_told.nd rfl (.inl rfl) pe_str)
    (pss_one (ps_if (PW.pt (pw_and (pt_val (pe_callB (call_isS hz hf) (by rfl) T.n_isinstance (by decide +kernel) (pa_cons (pv 2) (pa_cons (pe_glob (v := .ref (cA mg "NoTable")) (by rfl) T.m_NoTable rfl) pa_nil)))) (pw_and (pt_not (pt_val (pe_callB (call_isST hz hf) (by rfl) T.n_isinstance (by decide +kernel) (pa_cons (pv 2) (pa_cons (pe_tup (pa_cons (pe_glob (v := .ref (cA mg "NoLot")) (by rfl) T.m_NoLot rfl) (pa_cons (pe_glob (v := .ref (cA mg "NoUnits")) (by rfl) T.m_NoUnits rfl) (pa_cons (pe_glob (v := .ref (cA mg "TooMany")) (by rfl) T.m_TooMany rfl) pa_nil)))) pa_nil))))) (pw_and1 (pt_val (pe_callB (call_isS hz hf) (by rfl) T.n_isinstance (by decide +kernel) (pa_cons (pv 2) (pa_cons (pe_ty "ValueError" (by rfl) T.n_ValueError (by decide +kernel)) pa_nil))))))))
    (pss_one (ps_set (i := 1) sc__law_told.nd rfl (.inl rfl) (pe_xf (ExcC.xf T.z_NoTable) T.na_NoTable_row hz hf (pv 2))))
    pss_nil)))))
    (pss_one (ps_ret (pv 1))))), ?_⟩
  try simp only [cxOf_K, cxOf_K', cxOf_mg, cxOf_mg']
  unfold sp__law_told at h
  split at h
  case h_2 => exact h.elim
  rename_i v
  rw [show L2.start ["_law_rows_here", "_law_told_here", "e"] [v] = [some (v), none, none] from rfl]
  obtain ⟨o, h, q⟩ := h
  walk_at "sts"
  intro x dx nx nd ne
  have sx := same_made (C := cA mg "Looks") nx nd ne
  refine ⟨dx, upd_same, tab_of (h.same sx) (fun n e d H' s' e' => ?_) fun e a us rows => ?_⟩
  · subst e
    refine L_asT (T.y_SpeakError.exm T.e_NoTable_SpeakError) fun a na => ?_
    walk_at "sts"
    refine L_isS (fun dd z => ⟨_, by cases z; exact e'⟩) T.z_NoTable (.own _) (kit_ref T.e_NoTable_NoTable T.y_NoTable T.e_NoTable_NoTable) ?_
    walk_at "sts"
    walk_at "nw"
    rename_i p1 hp1 H1 s1 e1
    walk_at "sts"
    refine L_isST (fun dd z => ⟨_, by cases z; exact s1 _ _ e'⟩) T.z_NoTable e1 (.cons (.own _) (.cons (.own _) (.cons (.own _) .nil))) (kit_none fun u hu => ?_) ?_
    · simp only [List.mem_cons, List.not_mem_nil, or_false] at hu
      rcases hu with rfl | rfl | rfl
      · exact kit_ref T.e_NoTable_NoTable T.y_NoLot T.e_NoTable_NoLot
      · exact kit_ref T.e_NoTable_NoTable T.y_NoUnits T.e_NoTable_NoUnits
      · exact kit_ref T.e_NoTable_NoTable T.y_TooMany T.e_NoTable_TooMany
    walk_at "sts"
    refine L_isS (fun dd z => ⟨_, by cases z; exact s1 _ _ e'⟩) T.z_NoTable (.ty _) (kit_typ (by decide +kernel) T.et_NoTable_ValueError) ?_
    walk_at "sts"
    refine L_xf ?_
    walk_at "sts"
    refine ⟨rfl, rfl, d, _, _, rfl, s1 _ _ e', rfl, ?_⟩
    walk_at "sts"
    intro na1
    walk_at "sts"
    exact q _ (sx.trans (s'.trans (s1.trans (same_new na1))))
  · subst e
    refine fun p H' hp k ep ex => ⟨rfl, ?_⟩
    walk_at "sts"
    exact q _ (Same.made nx nd k)
def sp__law_no_lot (K : PySem.W.Frag) (mg : Str → Option Value) : Sp := fun vs H Q _ => match vs with | [.ref x, .int way, v, w] => ∃ rows, LK K mg H x rows ∧ 0 ≤ way ∧ way ≤ 2 ∧ BadLot K H rows.length v w ∧ ∀ H', Same H H' → Q (.bl true) H' | _ => False
theorem q__law_no_lot {H : Hp} {Q : VK} {E : XK} {x : Addr} {way : Int} {v : V} {w : V} (q : ∃ rows, LK K mg H x rows ∧ 0 ≤ way ∧ way ≤ 2 ∧ BadLot K H rows.length v w ∧ ∀ H', Same H H' → Q (.bl true) H') : sp__law_no_lot K mg [.ref x, .int way, v, w] H Q E := q
local macro_rules | `(tactic| walk_at "op") => `(tactic| with_reducible refine q__law_no_lot ?_)
theorem c__law_no_lot (T : Txt K mg) : Cal P w K mg base 5 "_law_no_lot" (sp__law_no_lot K mg) := by
  refine T.d__law_no_lot.cal (k := 4) sc__law_no_lot (by intro vs H Q E h; unfold sp__law_no_lot at h; split at h <;> first | rfl | exact h.elim) fun f cdv A outer s H vs Q E hr h => ?_
  refine ⟨_, (pss_cons (ps_set (i := 4) sc__law_no_lot.nd rfl (.inl rfl) pe_non)
    (pss_cons (ps_try_asT (i := 5) (tb := fun W => (tIfS (tTest (tOp (aEq K) (tVar 1) (tC (.int 0)))) (tDrop (tMethE (cA mg "Looks") "endings" (sp_Looks_endings K mg) (fun σ => WE W σ) (tVar 0) (tCons (tVar 2) (tCons (tVar 3) tNil)))) (tIfS (tTest (tOp (aEq K) (tVar 1) (tC (.int 1)))) (tDrop (tMethE (cA mg "Looks") "let_by" (sp_Looks_let_by K mg) (fun σ => WE W σ) (tVar 0) (tCons (tVar 2) (tCons (tVar 3) tNil)))) (tDrop (tMethE (cA mg "Looks") "looked_at" (sp_Looks_looked_at K mg) (fun σ => WE W σ) (tVar 0) (tCons (tVar 2) (tCons (tVar 3) tNil))))))) (ts := fun xa xcls xd => (tAsg (tVar 5) (gName 4))) rfl rfl sc__law_no_lot.nd rfl rfl rfl ⟨rfl, by decide, .inl T.m_SpeakError⟩ takes0 (fun W pn xe tk po => by exact (pss_one (ps_if (pt_cmpR (op_eqA hr) (pv 1) pe_int (nomark _))
    (pss_one (ps_expr (pe_xMt (c_Looks_endings T) hr (by decide) (fun σ => passAt tk σ) (pv 0) (pa_cons (pv 2) (pa_cons (pv 3) pa_nil)))))
    (pss_one (ps_if (pt_cmpR (op_eqA hr) (pv 1) pe_int (nomark _))
    (pss_one (ps_expr (pe_xMt (c_Looks_let_by T) hr (by decide) (fun σ => passAt tk σ) (pv 0) (pa_cons (pv 2) (pa_cons (pv 3) pa_nil)))))
    (pss_one (ps_expr (pe_xMt (c_Looks_looked_at T) hr (by decide) (fun σ => passAt tk σ) (pv 0) (pa_cons (pv 2) (pa_cons (pv 3) pa_nil)))))))))) (fun a oe cls d pn hz hf => by exact (pss_one (ps_set (i := 4) sc__law_no_lot.nd rfl (.inl rfl) (pv 5)))))
    (pss_one (ps_ret (pe_and (pe_callB call_isX (by rfl) T.n_isinstance (by decide +kernel) (pa_cons (pv 4) (pa_cons (pe_glob (v := .ref (cA mg "NoLot")) (by rfl) T.m_NoLot rfl) pa_nil))) (pe_one (pe_not (pe_callB call_isXT (by rfl) T.n_isinstance (by decide +kernel) (pa_cons (pv 4) (pa_cons (pe_tup (pa_cons (pe_glob (v := .ref (cA mg "NoTable")) (by rfl) T.m_NoTable rfl) (pa_cons (pe_glob (v := .ref (cA mg "NoUnits")) (by rfl) T.m_NoUnits rfl) (pa_cons (pe_glob (v := .ref (cA mg "TooMany")) (by rfl) T.m_TooMany rfl) pa_nil)))) pa_nil)))))))))), ?_⟩
  try simp only [cxOf_K, cxOf_K', cxOf_mg, cxOf_mg']
  unfold sp__law_no_lot at h
  split at h
  case h_2 => exact h.elim
  rename_i x way v w
  rw [show L2.start ["_law_looks", "_law_way", "_law_lot", "_law_bad", "_law_error", "e"] [V.ref x, V.int way, v, w] = [some (V.ref x), some (V.int way), some (v), some (w), none, none] from rfl]
  obtain ⟨rows, hx, w0, w2, hb, q⟩ := h
  have hx' := hx
  obtain ⟨dx, p, us, h1, h2, h3, h4⟩ := hx'
  obtain rfl | rfl | rfl : way = 0 ∨ way = 1 ∨ way = 2 := by omega
  all_goals
    walk_at "sa"
    refine ⟨rows, hx, .inl ⟨hb, ?_⟩⟩
    refine L_asT (T.y_SpeakError.exm T.e_NoLot_SpeakError) fun a na => ?_
    walk_at "sts"
    intro na2
    have s1 := same_new (o := ExI (.ref (cA mg "NoLot")) none a) na2
    have e1 : (upd H a (ExI (.ref (cA mg "NoLot")) none a)) a = some (ExI (.ref (cA mg "NoLot")) none a) := upd_same
    generalize upd H a (ExI (.ref (cA mg "NoLot")) none a) = H1 at s1 e1
    walk_at "sts"
    refine L_isX e1 T.z_NoLot (.own _) (kit_ref T.e_NoLot_NoLot T.y_NoLot T.e_NoLot_NoLot) ?_
    walk_at "sts"
    walk_at "nw"
    rename_i p2 hp2 H2 s2 e2
    walk_at "sts"
    refine L_isXT (s2 _ _ e1) T.z_NoLot e2 (.cons (.own _) (.cons (.own _) (.cons (.own _) .nil))) (kit_none fun u hu => ?_) ?_
    · simp only [List.mem_cons, List.not_mem_nil, or_false] at hu
      rcases hu with rfl | rfl | rfl
      · exact kit_ref T.e_NoLot_NoLot T.y_NoTable T.e_NoLot_NoTable
      · exact kit_ref T.e_NoLot_NoLot T.y_NoUnits T.e_NoLot_NoUnits
      · exact kit_ref T.e_NoLot_NoLot T.y_TooMany T.e_NoLot_TooMany
    walk_at "sts"
    exact q _ (s1.trans s2)
def sp__law_lots (K : PySem.W.Frag) (mg : Str → Option Value) : Sp := fun vs H Q _ => match vs with | [.ref a, .int c] => ∃ us rows, H a = some (.lst us) ∧ DpAll K H us (rows.map d2) ∧ OkT rows ∧ ∀ H', Same H H' → Q (.bl true) H' | _ => False
theorem q__law_lots {H : Hp} {Q : VK} {E : XK} {a : Addr} {c : Int} (q : ∃ us rows, H a = some (.lst us) ∧ DpAll K H us (rows.map d2) ∧ OkT rows ∧ ∀ H', Same H H' → Q (.bl true) H') : sp__law_lots K mg [.ref a, .int c] H Q E := q
local macro_rules | `(tactic| walk_at "op") => `(tactic| with_reducible refine q__law_lots ?_)
theorem c__law_lots (T : Txt K mg) : Cal P w K mg base 6 "_law_lots" (sp__law_lots K mg) := by
  refine T.d__law_lots.cal (k := 5) sc__law_lots (by intro vs H Q E h; unfold sp__law_lots at h; split at h <;> first | rfl | exact h.elim) fun f cdv A outer s H vs Q E hr h => ?_
  refine ⟨_, (pss_cons (ps_set (i := 2) sc__law_lots.nd rfl (.inl rfl) (pe_xMk (m_Looks T) hr (by decide) (by rfl) (fun σ => passN σ) (pa_cons (pe_callTy call_list1A (by rfl) T.n_list (by decide +kernel) (pa_cons (pv 0) pa_nil)) pa_nil)))
    (pss_cons (ps_set (i := 3) sc__law_lots.nd rfl (.inl rfl) (pe_c (c__law_mixed T) hr (by decide) (by rfl) (pa_cons (pv 1) (pa_cons pe_int pa_nil))))
    (pss_cons (ps_set (i := 4) sc__law_lots.nd rfl (.inl rfl) (pe_op op_addA (pe_callB call_lenA (by rfl) T.n_len (by decide +kernel) (pa_cons (pv 0) pa_nil)) (pe_op op_mod (pv 3) (pe_op op_sub pe_int (pe_callB call_lenA (by rfl) T.n_len (by decide +kernel) (pa_cons (pv 0) pa_nil))))))
    (pss_cons (ps_set (i := 5) sc__law_lots.nd rfl (.inl rfl) (pe_op op_addA (pe_op op_pow pe_int pe_int) (pv 3)))
    (pss_cons (ps_set (i := 6) sc__law_lots.nd rfl (.inl rfl) (pe_lst (pa_cons (pe_op op_sub (pe_callB call_lenA (by rfl) T.n_len (by decide +kernel) (pa_cons (pv 0) pa_nil)) pe_int) (pa_cons pe_int (pa_cons (pe_op op_sub pe_int (pv 5)) (pa_cons (pv 5) (pa_cons pe_non (pa_cons pe_bl (pa_cons (pe_callTy call_str1A (by rfl) T.n_str (by decide +kernel) (pa_cons (pv 4) pa_nil)) (pa_cons (pe_lst (pa_cons (pv 4) pa_nil)) pa_nil))))))))))
    (pss_cons (ps_for PassesOwn.never rfl (pi_range1 (by rfl) T.n_range (pa_cons pe_int pa_nil)) (pg_name (i := 7) sc__law_lots.nd rfl (.inl rfl))
    (pss_cons (ps_if (pt_not (pt_val (pe_c (c__law_no_lot T) hr (by decide) (by rfl) (pa_cons (pv 2) (pa_cons (pv 7) (pa_cons (pe_ix ix_seq (pv 6) (pe_op op_mod (pe_op op_fdivW (pv 3) pe_int) pe_int) (fun _ _ => rfl)) (pa_cons pe_int pa_nil)))))))
    (pss_one (ps_ret pe_bl))
    pss_nil)
    (pss_one (ps_for PassesOwn.never rfl (pi_list (pe_lst (pa_cons (pe_un un_neg pe_int) (pa_cons (pe_op op_addA (pv 4) pe_int) (pa_cons (pv 5) (pa_cons pe_non (pa_cons pe_bl (pa_cons pe_str (pa_cons (pe_tup (pa_cons pe_int pa_nil)) pa_nil))))))))) (pg_name (i := 8) sc__law_lots.nd rfl (.inl rfl))
    (pss_one (ps_if (pt_not (pt_val (pe_c (c__law_no_lot T) hr (by decide) (by rfl) (pa_cons (pv 2) (pa_cons (pv 7) (pa_cons (pv 4) (pa_cons (pv 8) pa_nil)))))))
    (pss_one (ps_ret pe_bl))
    pss_nil))))))
    (pss_cons (ps_expr (pe_xMt (c_Looks_endings T) hr (by decide) (fun σ => passN σ) (pv 2) (pa_cons (pv 4) (pa_cons (pe_op op_mod (pe_op op_fdivW (pv 3) pe_int) (pe_op op_addA (pv 4) pe_int)) pa_nil))))
    (pss_one (ps_ret pe_bl))))))))), ?_⟩
  try simp only [cxOf_K, cxOf_K', cxOf_mg, cxOf_mg']
  unfold sp__law_lots at h
  split at h
  case h_2 => exact h.elim
  rename_i a c
  rw [show L2.start ["_law_rows_here", "_law_cell_here", "_law_looks", "_law_number", "_law_lot", "_law_far", "_law_odd_here", "_law_way", "_law_bad"] [V.ref a, V.int c] = [some (V.ref a), some (V.int c), none, none, none, none, none, none, none] from rfl]
  obtain ⟨us, rows, ha, hA, ho, q⟩ := h
  have hul := hA.len
  rw [List.length_map] at hul
  have hl1 := ho.lenpos
  have hl24 := ho.len
  walk_at "sts"
  refine L_list1 (.of ha) ?_
  walk_at "nwp"
  rename_i p1 hp1 H1 s1 e1
  walk_at "sts"
  intro x dx nx nd ne
  have sx := same_made (C := cA mg "Looks") nx nd ne
  have hA1 := hA.same (s1.trans sx)
  refine ⟨dx, upd_same, .inr ⟨p1, us, _, rfl, .of (sx _ _ e1), hA1, by omega, fun D hD => ?_, fun n e => ?_, fun rows' e ho' p H' hp k ep ex => ⟨rfl, ?_⟩⟩⟩
  · obtain ⟨r, _, rfl⟩ := List.mem_map.mp hD
    exact RowD_d2 r
  · rw [badT_ok ho] at e
    cases e
  have s2 : Same H1 H' := Same.made nx nd k
  have s02 := s1.trans s2
  have hx : LK K mg H' x rows := ⟨dx, p, us, ex, ep, hA.same s02, ho⟩
  walk_at "sts"
  refine ⟨by decide, by decide, fun num n0 n1 => ?_⟩
  walk_at "sts"
  refine L_lenL (.of (s02 _ _ ha)) ?_
  walk_at "sts"
  refine L_lenL (.of (s02 _ _ ha)) ?_
  walk_at "sts"
  rw [hul]
  refine L_I (by omega) ?_
  have g0 := Int.emod_nonneg num (show (25 - (rows.length : Int)) ≠ 0 by omega)
  have g1 := Int.emod_lt_of_pos num (show (0 : Int) < 25 - (rows.length : Int) by omega)
  generalize num % (25 - (rows.length : Int)) = z at g0 g1
  walk_at "sa"
  refine L_str1 (by omega) ?_
  walk_at "sts"
  walk_at "nw"
  rename_i p2 hp2 H2 t2 e2
  walk_at "sts"
  walk_at "nw"
  rename_i p3 hp3 H3 t3 e3
  have t23 := t2.trans t3
  rw [hul] at e3
  walk_at "sts"
  refine L_r1 (by decide) (by decide) ?_
  have badV : ∀ v ∈ [V.int ((rows.length : Int) - 1), V.int 25, V.int (0 - (100000000000000000000 + num)), V.int (100000000000000000000 + num), V.non, V.bl true, V.str (toString ((rows.length : Int) + z)), V.ref p2], ∀ Hx, Same H3 Hx → BadLot K Hx rows.length v (.int 0) := fun v hv Hx s => by
    refine .inl ?_
    simp only [List.mem_cons, List.not_mem_nil, or_false] at hv
    rcases hv with rfl | rfl | rfl | rfl | rfl | rfl | rfl | rfl
    · exact badw_int (by omega)
    · exact badw_int (by omega)
    · exact badw_int (by omega)
    · exact badw_int (by omega)
    · exact notw_non.bad
    · exact notw_bl.bad
    · exact notw_str.bad
    · exact (notw_lst ((t3.trans s) _ _ e2)).bad
  refine f_range (fun i σ' Hx => ∃ v7 v8 : Option V, Same H3 Hx ∧ σ' = [some (.ref a), some (.int c), some (.ref x), some (.int num), some (.int ((rows.length : Int) + z)), some (.int (100000000000000000000 + num)), some (.ref p3), v7, v8]) ⟨_, _, Same.refl _, rfl⟩ ?_ ?_
  · rintro i σ' H4 hi ⟨v7, v8, s4, rfl⟩
    walk_at "sa"
    refine L_menuV (.of (s4 _ _ e3)) (Int.emod_nonneg _ (by decide)) (Int.emod_lt_of_pos _ (by decide)) fun v hv => ?_
    have w0 : 0 ≤ 0 + (i : Int) := by omega
    have w2 : 0 + (i : Int) ≤ 2 := by have : i < 3 := hi; omega
    walk_at "sts"
    refine ⟨rows, hx.same (t23.trans s4), w0, w2, badV v hv _ s4, fun H5 s5 => ?_⟩
    walk_at "sts"
    walk_at "nw"
    rename_i p6 hp6 H6 s6 e6
    walk_at "sts"
    walk_at "nw"
    rename_i p7 hp7 H7 s7 e7
    have s47 : Same H3 H7 := s4.trans (s5.trans (s6.trans s7))
    refine L_rl (.of e7) ?_
    refine f_it walk_list (fun j σ' Hx => ∃ v8 : Option V, Same H7 Hx ∧ σ' = [some (.ref a), some (.int c), some (.ref x), some (.int num), some (.int ((rows.length : Int) + z)), some (.int (100000000000000000000 + num)), some (.ref p3), some (.int (0 + (i : Int))), v8]) ⟨_, Same.refl _, rfl⟩ (fun _ _ _ _ ⟨_, p, _⟩ => p.seq (.of e7)) ?_ ?_
    · rintro j y σ' H8 H8' hj ⟨v8, s8, rfl⟩ ⟨rfl, hy⟩
      have hbad : BadLot K H8' rows.length (.int ((rows.length : Int) + z)) y := by
        refine .inr ⟨_, rfl, by omega, by omega, ?_⟩
        have hm := List.mem_of_getElem? hy
        simp only [List.mem_cons, List.not_mem_nil, or_false] at hm
        rcases hm with rfl | rfl | rfl | rfl | rfl | rfl | rfl
        · exact badw_int (by omega)
        · exact badw_int (by omega)
        · exact badw_int (by omega)
        · exact notw_non.bad
        · exact notw_bl.bad
        · exact notw_str.bad
        · exact (notw_tup ((s7.trans s8) _ _ e6)).bad
      walk_at "sts"
      refine ⟨rows, hx.same (t23.trans (s47.trans s8)), w0, w2, hbad, fun H9 s9 => ?_⟩
      walk_at "sts"
      exact ⟨_, s8.trans s9, rfl⟩
    · rintro σ' H8 ⟨v8, s8, rfl⟩
      walk_at "sts"
      exact ⟨_, _, s47.trans s8, rfl⟩
  · rintro σ' H4 ⟨v7, v8, s4, rfl⟩
    have s24 := t23.trans s4
    walk_at "sts"
    have hx4 := hx.same s24
    obtain ⟨dx', p', us', h1', _⟩ := id hx4
    refine L_methv h1' rfl ?_
    walk_at "sts"
    refine L_I (cdiv_lit (by decide)) ?_
    walk_at "sts"
    refine L_I (by omega) ?_
    have b0 := Int.emod_nonneg (num / 32) (show (rows.length : Int) + z + 1 ≠ 0 by omega)
    have b1 := Int.emod_lt_of_pos (num / 32) (show (0 : Int) < (rows.length : Int) + z + 1 by omega)
    refine ⟨rows, hx4, .inr ⟨_, _, ⟨rfl, rfl, by omega, by omega, b0, by omega⟩, fun pe ue H5 hpe s5 ee _ => ?_⟩⟩
    walk_at "sts"
    exact q _ (s02.trans (s24.trans s5))
def sp_law (K : PySem.W.Frag) (mg : Str → Option Value) : Sp := fun vs H Q _ => match vs with | [.ref a] => ∃ ns : List Int, SqL K H a (ns.map V.int) ∧ ns.length ≤ 63 ∧ (∀ z ∈ ns, Builtin.Int.intBits z ≤ 1048576) ∧ ∀ H', Q (.bl true) H' | _ => False
theorem q_law {H : Hp} {Q : VK} {E : XK} {a : Addr} (q : ∃ ns : List Int, SqL K H a (ns.map V.int) ∧ ns.length ≤ 63 ∧ (∀ z ∈ ns, Builtin.Int.intBits z ≤ 1048576) ∧ ∀ H', Q (.bl true) H') : sp_law K mg [.ref a] H Q E := q
local macro_rules | `(tactic| walk_at "op") => `(tactic| with_reducible refine q_law ?_)
theorem c_law (T : Txt K mg) {f : Addr} {fd : FuncData} (F : Fun K "law" "law" s_law f fd) : FnOk P w K mg base CX0 7 f fd ["_law_script"] (sp_law K mg) := by
  refine F.ok (k := 6) sc_law (by intro vs H Q E h; unfold sp_law at h; split at h <;> first | rfl | exact h.elim) fun cdv A outer s H vs Q E hr h => ?_
  refine ⟨_, (pss_cons (ps_for PassesOwn.never rfl (pi_range1 (by rfl) T.n_range (pa_cons (pe_callB (call_max2A rfl) (by rfl) T.n_max (by decide +kernel) (pa_cons pe_int (pa_cons (pe_callB (call_min2A rfl) (by rfl) T.n_min (by decide +kernel) (pa_cons pe_int (pa_cons (pe_callB call_lenA (by rfl) T.n_len (by decide +kernel) (pa_cons (pv 0) pa_nil)) pa_nil))) pa_nil))) pa_nil)) (pg_name (i := 1) sc_law.nd rfl (.inl rfl))
    (pss_cons (ps_set (i := 2) sc_law.nd rfl (.inl rfl) (pe_c (c__law_cell T) hr (by decide) (by rfl) (pa_cons (pv 0) (pa_cons (pv 1) pa_nil))))
    (pss_cons (ps_set (i := 3) sc_law.nd rfl (.inl rfl) (pe_c (c__law_rows T) hr (by decide) (by rfl) (pa_cons (pv 2) pa_nil)))
    (pss_cons (ps_if (PW.pt (pw_or (pt_cmpR op_notNA (pe_c (c__law_told T) hr (by decide) (by rfl) (pa_cons (pe_callTy call_list1A (by rfl) T.n_list (by decide +kernel) (pa_cons (pv 3) pa_nil)) pa_nil)) pe_non (nomark _)) (pw_or1 (pt_not (pt_val (pe_c (c__law_lots T) hr (by decide) (by rfl) (pa_cons (pv 3) (pa_cons (pv 2) pa_nil))))))))
    (pss_one (ps_ret pe_bl))
    pss_nil)
    (pss_cons (ps_set (i := 4) sc_law.nd rfl (.inl rfl) (pe_callTy call_list1A (by rfl) T.n_list (by decide +kernel) (pa_cons (pv 3) pa_nil)))
    (pss_cons (ps_for PassesOwn.never rfl (pi_range1 (by rfl) T.n_range (pa_cons (pe_op op_addA pe_int (pe_op op_mod (pe_c (c__law_mixed T) hr (by decide) (by rfl) (pa_cons (pv 2) (pa_cons pe_int pa_nil))) pe_int)) pa_nil)) (pg_name (i := 5) sc_law.nd rfl (.inl rfl))
    (pss_cons (ps_set (i := 6) sc_law.nd rfl (.inl rfl) (pe_op op_mod (pe_c (c__law_mixed T) hr (by decide) (by rfl) (pa_cons (pv 2) (pa_cons (pe_op op_addA pe_int (pv 5)) pa_nil))) (pe_callB call_lenA (by rfl) T.n_len (by decide +kernel) (pa_cons (pv 3) pa_nil))))
    (pss_one (ps_asg (pe_c (c__law_odd T) hr (by decide) (by rfl) (pa_cons (pe_ix ix_seq (pv 3) (pv 6) (fun _ _ => rfl)) (pa_cons (pe_c (c__law_mixed T) hr (by decide) (by rfl) (pa_cons (pv 2) (pa_cons (pe_op op_addA pe_int (pv 5)) pa_nil))) pa_nil))) (pg_sub (pv 4) (pv 6) set_list)))))
    (pss_cons (ps_set (i := 7) sc_law.nd rfl (.inl rfl) (pe_c (c__law_due T) hr (by decide) (by rfl) (pa_cons (pv 4) pa_nil)))
    (pss_cons (ps_set (i := 8) sc_law.nd rfl (.inl rfl) (pe_c (c__law_told T) hr (by decide) (by rfl) (pa_cons (pv 4) pa_nil)))
    (pss_cons (ps_if (PW.pt (pw_or (pt_val (pe_callB call_isi (by rfl) T.n_isinstance (by decide +kernel) (pa_cons (pv 8) (pa_cons (pe_ty "bool" (by rfl) T.n_bool (by decide +kernel)) pa_nil)))) (pw_or1 (pt_cmpR (op_neA hr) (pv 8) (pv 7) (nomark _)))))
    (pss_one (ps_ret pe_bl))
    pss_nil)
    (pss_cons (ps_set (i := 9) sc_law.nd rfl (.inl rfl) (pe_lst (pa_cons (pe_tup (pa_cons (pe_lst pa_nil) (pa_cons pe_int pa_nil))) (pa_cons (pe_tup (pa_cons pe_non (pa_cons pe_int pa_nil))) (pa_cons (pe_tup (pa_cons (pe_callTy call_tuple1A (by rfl) T.n_tuple (by decide +kernel) (pa_cons (pv 3) pa_nil)) (pa_cons pe_int pa_nil))) (pa_cons (pe_tup (pa_cons pe_str (pa_cons pe_int pa_nil))) (pa_cons (pe_tup (pa_cons (pe_slice sl_list (pe_op op_mulA (pv 3) pe_int) po_none (po_some pe_int)) (pa_cons pe_int pa_nil))) (pa_cons (pe_tup (pa_cons (pe_op op_mulA (pe_lst (pa_cons pe_non pa_nil)) pe_int) (pa_cons pe_int pa_nil))) pa_nil))))))))
    (pss_one (ps_for PassesOwn.never rfl (pi_list (pv 9)) (pg_tup rfl (pgs_cons (pg_name (i := 10) sc_law.nd rfl (.inl rfl)) (pgs_cons (pg_name (i := 11) sc_law.nd rfl (.inl rfl)) pgs_nil)))
    (pss_one (ps_if (pt_cmpR (op_neA hr) (pe_c (c__law_told T) hr (by decide) (by rfl) (pa_cons (pv 10) pa_nil)) (pv 11) (nomark _))
    (pss_one (ps_ret pe_bl))
    pss_nil))))))))))))))
    (pss_one (ps_ret pe_bl))), ?_⟩
  try simp only [cxOf_K, cxOf_K', cxOf_mg, cxOf_mg']
  unfold sp_law at h
  split at h
  case h_2 => exact h.elim
  rename_i a
  rw [show L2.start ["_law_script", "_law_k", "_law_cell_here", "_law_rows_here", "_law_spoiled", "_law_j", "_law_at", "_law_due_here", "_law_told_here", "_law_things", "_law_thing", "_law_place"] [V.ref a] = [some (V.ref a), none, none, none, none, none, none, none, none, none, none, none] from rfl]
  obtain ⟨ns, hS, hl, hbits, q⟩ := h
  walk_at "sts"
  refine L_lenL hS ?_
  walk_at "sts"
  rw [List.length_map]
  refine L_r1 (by omega) (by omega) ?_
  refine f_range (fun i σ' H' => Same H H' ∧ ∃ v1 v2 v3 v4 v5 v6 v7 v8 v9 v10 v11 : Option V, σ' = [some (.ref a), v1, v2, v3, v4, v5, v6, v7, v8, v9, v10, v11]) ⟨Same.refl _, _, _, _, _, _, _, _, _, _, _, _, rfl⟩ ?_ ?_
  · rintro i σ' H0 hi ⟨s0, v1, v2, v3, v4, v5, v6, v7, v8, v9, v10, v11, rfl⟩
    walk_at "sts"
    refine ⟨ns, s0.seq hS, by omega, by omega, fun c => ?_⟩
    walk_at "sts"
    intro rows us pr H1 ho hpr s1 er hA0
    have hA : DpAll K H1 us (rows.map d2) := hA0.same rs_sub
    walk_at "sts"
    have hul := hA.len
    rw [List.length_map] at hul
    have hl1 := ho.lenpos
    have hl24 := ho.len
    have hrd : ∀ D ∈ rows.map d2, RowD D := fun D hD => by
      obtain ⟨r, _, rfl⟩ := List.mem_map.mp hD
      exact RowD_d2 r
    refine L_list1 (.of er) ?_
    walk_at "nwp"
    rename_i p2 hp2 H2 s2 e2
    walk_at "sts"
    refine ⟨none, .inr ⟨p2, us, _, rfl, .of e2, hA.same s2, by omega, hrd, badT_ok ho⟩, fun H3 s3 => ?_⟩
    rw [show dueV none = V.non from rfl]
    walk_at "sts"
    refine L_ndF rfl ?_
    walk_at "sts"
    have s13 := s2.trans s3
    refine ⟨us, rows, s13 _ _ er, hA.same s13, ho, fun H4 s4 => ?_⟩
    walk_at "sts"
    have s14 := s13.trans s4
    refine L_list1 (.of (s14 _ _ er)) ?_
    walk_at "nwp"
    rename_i p5 hp5 H5 s5 e5
    have s15 := s14.trans s5
    walk_at "sts"
    refine ⟨by decide, by decide, fun r42 r420 r421 => ?_⟩
    walk_at "sa"
    refine L_r1 (by omega) (by omega) ?_
    refine f_range (fun j σ' H' => ∃ (us3 : List V) (Ds3 : List PyData) (w5 w6 : Option V), σ' = [some (.ref a), some (.int (0 + (i : Int))), some (.int c), some (.ref pr), some (.ref p5), w5, w6, v7, v8, v9, v10, v11] ∧ Same H4 H' ∧ H' p5 = some (.lst us3) ∧ DpAll K (rs (· ≠ p5) H') us3 Ds3 ∧ us3.length = rows.length ∧ ∀ D ∈ Ds3, RowD D) ⟨us, rows.map d2, _, _, rfl, s5, e5, dpA_old (hA.same s14) hp5 s5, hul, hrd⟩ ?_ ?_
    · rintro j σ' H6 hj ⟨us3, Ds3, w5, w6, rfl, s6, e6, hA6, hl6, hR6⟩
      have s16 := s14.trans s6
      walk_at "sts"
      refine ⟨by omega, by omega, fun r43 r430 r431 => ?_⟩
      walk_at "sts"
      refine L_lenL (.of (s16 _ _ er)) ?_
      walk_at "sts"
      rw [hul]
      refine L_I (by omega) ?_
      have at0 := Int.emod_nonneg r43 (show (rows.length : Int) ≠ 0 by omega)
      have at1 := Int.emod_lt_of_pos r43 (show (0 : Int) < rows.length by omega)
      generalize r43 % (rows.length : Int) = at_ at at0 at1
      have hti : at_.toNat < us.length := by omega
      obtain ⟨r, t, hr, ht, hRT⟩ := hit2 (hA.same s16) (List.getElem?_eq_getElem hti)
      walk_at "sts"
      refine L_ixL (.of (s16 _ _ er)) (atI_int at0 ((List.getElem?_eq_getElem hti).trans (by rw [ht]))) ?_
      walk_at "sts"
      refine ⟨by omega, by omega, fun r45 r450 r451 => ?_⟩
      walk_at "sts"
      refine ⟨r, hRT, r450, r451, fun v D H7 s7 hv hD => ?_⟩
      walk_at "sts"
      refine L_setL (s7 _ _ e6) (ixN_of at0 (by omega)) ?_
      have hv' : Dp K (rs (· ≠ p5) H7) v D := Dp.same hv (rs_same fun b o hb e => ⟨fun z => (by rw [z, e6] at hb; cases hb), e⟩)
      refine ⟨us3.set at_.toNat v, Ds3.set at_.toNat D, _, _, rfl, same_mut (s6.trans s7) hp5, upd_same, ?_, by rw [List.length_set]; exact hl6, fun E hE => ?_⟩
      · refine dpa_set (hv'.same ?_) _ (hA6.same ?_)
        · exact rs_same fun b o hb e => ⟨hb, by rw [upd_ne hb]; exact e⟩
        · exact rs_same fun b o hb e => ⟨hb, by rw [upd_ne hb]; exact s7 _ _ e⟩
      · rcases List.mem_or_eq_of_mem_set hE with hE | rfl
        · exact hR6 E hE
        · exact hD
    rintro σ' H6 ⟨us3, Ds3, w5, w6, rfl, s6, e6, hA6, hl6, hR6⟩
    have hA6' : DpAll K H6 us3 Ds3 := hA6.same rs_sub
    have hl6' := hA6.len
    walk_at "sts"
    refine ⟨us3, Ds3, .of e6, hA6', by omega, by omega, hR6, fun H7 s7 => ?_⟩
    walk_at "sts"
    refine ⟨badT Ds3, .inr ⟨p5, us3, Ds3, rfl, .of (s7 _ _ e6), hA6'.same s7, by omega, hR6, rfl⟩, fun H8 s8 => ?_⟩
    walk_at "sts"
    have s18 : Same H1 H8 := s14.trans (s6.trans (s7.trans s8))
    have hb : ∀ {Q : VK}, Q (.bl false) H8 → rIsi K [dueV (badT Ds3), .ty "bool"] H8 Q := fun {Q} q => by
      cases badT Ds3 with
      | none => exact L_isi (.base .non) (b := false) (by decide +kernel) q
      | some n => exact L_isi (.base (.int _)) (b := false) (by decide +kernel) q
    refine hb ?_
    walk_at "sts"
    have hn : ∀ {Q : VK}, Q (.bl false) H8 → aNe K (dueV (badT Ds3)) (dueV (badT Ds3)) H8 Q := fun {Q} q => by
      cases badT Ds3 with
      | none => exact .inl ⟨rfl, q⟩
      | some n => exact L_neI (by rw [decide_eq_true rfl]; exact q)
    refine hn ?_
    walk_at "sts"
    walk_at "nw"
    rename_i p9 hp9 H9 s9 e9
    walk_at "sts"
    walk_at "nw"
    rename_i q1 hq1 G1 t1 f1
    walk_at "sts"
    walk_at "nw"
    rename_i q2 hq2 G2 t2 f2
    walk_at "sts"
    refine L_tuple1 (.of ((s18.trans (s9.trans (t1.trans t2))) _ _ er)) ?_
    walk_at "nwp"
    rename_i q3 hq3 G3 t3 f3
    walk_at "sts"
    walk_at "nw"
    rename_i q4 hq4 G4 t4 f4
    walk_at "sts"
    walk_at "nw"
    rename_i q5 hq5 G5 t5 f5
    walk_at "sts"
    have s1g5 : Same H1 G5 := s18.trans (s9.trans (t1.trans (t2.trans (t3.trans (t4.trans t5)))))
    refine L_repL (s1g5 _ _ er) (by decide) (by decide) (sz_dec (by rw [show ((25 : Int)).toNat = 25 from rfl]; omega)) ?_
    walk_at "nwp"
    rename_i q6 hq6 G6 t6 f6
    walk_at "sts"
    refine L_slL (.of f6) ?_
    walk_at "nwp"
    rename_i q7 hq7 G7 t7 f7
    rw [show (25 : Int) = ((25 : Nat) : Int) from rfl, show ∀ xs : List V, cutV xs none (some ((25 : Nat) : Int)) = xs.take 25 from fun xs => cutG_take xs 25, show ((25 : Nat) : Int).toNat = 25 from rfl] at f7
    walk_at "sts"
    walk_at "nw"
    rename_i q8 hq8 G8 t8 f8
    walk_at "sts"
    walk_at "nw"
    rename_i q9 hq9 G9 t9 f9
    walk_at "sts"
    refine L_repL f9 (by decide) (by decide) (sz_dec (by decide)) ?_
    walk_at "nwp"
    rename_i g1 hg1 J1 u1 d1
    walk_at "sts"
    walk_at "nw"
    rename_i g2 hg2 J2 u2 d2'
    walk_at "sts"
    walk_at "nw"
    rename_i g3 hg3 J3 u3 d3
    walk_at "sts"
    have k2 := u2.trans u3
    have k1 := u1.trans k2
    have m9 := t9.trans k1
    have m8 := t8.trans m9
    have m7 := t7.trans m8
    have m6 := t6.trans m7
    have m5 := t5.trans m6
    have m4 := t4.trans m5
    have m3 := t3.trans m4
    have m2 := t2.trans m3
    have m1 := t1.trans m2
    have key : ∀ y ∈ [V.ref q1, V.ref q2, V.ref q4, V.ref q5, V.ref q8, V.ref g2], ∃ (t : Addr) (v : V) (n : Nat), y = .ref t ∧ J3 t = some (.tup [v, .int (n : Int)]) ∧ TabV K J3 v (some n) := fun y hy => by
      simp only [List.mem_cons, List.not_mem_nil, or_false] at hy
      rcases hy with rfl | rfl | rfl | rfl | rfl | rfl
      · exact ⟨q1, _, 0, rfl, m2 _ _ f1, .inr ⟨p9, [], [], rfl, .of (m1 _ _ e9), .nil, by simp, (fun D hD => nomatch hD), rfl⟩⟩
      · exact ⟨q2, _, 0, rfl, m3 _ _ f2, .inl ⟨notl_non, rfl⟩⟩
      · exact ⟨q4, _, 0, rfl, m5 _ _ f4, .inl ⟨notl_tup (.of (m4 _ _ f3)), rfl⟩⟩
      · exact ⟨q5, _, 0, rfl, m6 _ _ f5, .inl ⟨notl_str, rfl⟩⟩
      · have hD1 := dpa_take 25 (dpa_rep (hA.same (s1g5.trans m6)) 25)
        refine ⟨q8, _, 24, rfl, m9 _ _ f8, .inr ⟨q7, _, _, rfl, .of (m8 _ _ f7), hD1, by rw [List.length_take]; omega, fun D hD => ?_, ?_⟩⟩
        · obtain ⟨l, hl, hD⟩ := List.mem_flatten.mp (List.mem_of_mem_take hD)
          rw [(List.mem_replicate.mp hl).2] at hD
          exact hrd D hD
        · have hln : ((List.replicate 25 (rows.map d2)).flatten.take 25).length = 25 := by rw [List.length_take, rep_len, List.length_map]; omega
          unfold badT
          rw [hln, if_neg (by decide), if_pos (by decide)]
      · have hD0 : DpAll K J3 [V.non] [PyData.none] := .cons .non .nil
        have hD1 := dpa_rep hD0 30
        refine ⟨g2, _, 24, rfl, u3 _ _ d2', .inr ⟨g1, _, _, rfl, .of (k2 _ _ d1), hD1, by rw [rep_len]; decide, fun D hD => ?_, ?_⟩⟩
        · obtain ⟨l, hl, hD⟩ := List.mem_flatten.mp hD
          rw [(List.mem_replicate.mp hl).2, List.mem_singleton] at hD
          exact .inl hD
        · unfold badT
          rw [rep_len, if_neg (by decide), if_pos (by decide)]
    refine L_rl (.of d3) ?_
    refine f_it walk_list (fun j σ' Hx => ∃ w10 w11 : Option V, Same J3 Hx ∧ σ' = [some (.ref a), some (.int (0 + (i : Int))), some (.int c), some (.ref pr), some (.ref p5), w5, w6, some (dueV (badT Ds3)), some (dueV (badT Ds3)), some (.ref g3), w10, w11]) ⟨_, _, Same.refl _, rfl⟩ (fun _ _ _ _ ⟨_, _, p, _⟩ => p.seq (.of d3)) ?_ ?_
    · rintro j y σ' H10 H10' hj ⟨w10, w11, s10, rfl⟩ ⟨rfl, hy⟩
      obtain ⟨t, v, n, rfl, ht, hv⟩ := key y (List.mem_of_getElem? hy)
      refine L_gTup (.of (s10 _ _ ht)) rfl ?_
      walk_at "sts"
      refine ⟨some n, hv.same s10, fun H11 s11 => ?_⟩
      rw [show dueV (some n) = V.int (n : Int) from rfl]
      walk_at "sts"
      rw [decide_eq_true rfl]
      walk_at "sts"
      exact ⟨_, _, s10.trans s11, rfl⟩
    · rintro σ' H10 ⟨w10, w11, s10, rfl⟩
      walk_at "sts"
      exact ⟨s0.trans (s1.trans (s1g5.trans (m6.trans s10))), _, _, _, _, _, _, _, _, _, _, _, rfl⟩
  · rintro σ' H0 ⟨s0, v1, v2, v3, v4, v5, v6, v7, v8, v9, v10, v11, rfl⟩
    walk_at "sts"
    exact q _
end
theorem txt_mk {K : PySem.W.Frag} {h : Heap} {mg : Str → Option Value} (X : K.In h) (G : h.Ns mainGlobals mg)
    (z_n_len : PySem.W.nsIn K mainGlobals "len" = some none)
    (z_n_bool : PySem.W.nsIn K mainGlobals "bool" = some none)
    (z_n_int : PySem.W.nsIn K mainGlobals "int" = some none)
    (z_n_isinstance : PySem.W.nsIn K mainGlobals "isinstance" = some none)
    (z_n_tuple : PySem.W.nsIn K mainGlobals "tuple" = some none)
    {u_g_MOST_WARES : Value} (z_g_MOST_WARES : PySem.W.nsIn K mainGlobals "MOST_WARES" = some (some u_g_MOST_WARES)) (y_g_MOST_WARES : RelV (.int 24) u_g_MOST_WARES)
    {C_SpeakError : Addr} (aC_SpeakError : PySem.W.nsIn K mainGlobals "SpeakError" = some (some (.ref C_SpeakError)))
    (bi0_SpeakError : PySem.W.readsIn K C_SpeakError (.type "type") = true) (bi1_SpeakError : PySem.W.specialIn K (.ref C_SpeakError) "__getattribute__" = some (some (.builtin "type.__getattribute__"))) (bi2_SpeakError : PySem.W.findCls K (.ref C_SpeakError) (.type "type") "__init__" = some (.val (.builtin "ValueError.__init__")))
    {C_NoTable : Addr} (aC_NoTable : PySem.W.nsIn K mainGlobals "NoTable" = some (some (.ref C_NoTable)))
    (ox_NoTable : ∃ nm q N bs bm sn sub ab col dd k0 k1 k2 k3 k5, K.lookup C_NoTable = some (excClassObj nm q C_NoTable N bs bm true sn sub ab col dd k0 k1 k2 k3 k5 "ValueError.__new__") ∧ PySem.HandSPX.refsVE bm = true) (o0_NoTable : PySem.W.findIn K (.ref C_NoTable) "__setattr__" = some (some (.builtin "object.__setattr__"))) (o1_NoTable : PySem.W.subIn K (.ref C_NoTable) (.type "BaseException") = some true) (o2_NoTable : PySem.W.typeIn K (.ref C_NoTable) = some (.type "type")) (o3_NoTable : PySem.W.keepIn K (.ref C_NoTable) = true)
    (na_NoTable_row : PySem.W.findIn K (.ref C_NoTable) "row" = some none)
    (z_n_enumerate : PySem.W.nsIn K mainGlobals "enumerate" = some none)
    (z_n_list : PySem.W.nsIn K mainGlobals "list" = some none)
    {C_Looks : Addr} (aC_Looks : PySem.W.nsIn K mainGlobals "Looks" = some (some (.ref C_Looks)))
    (pg_Looks : PySem.W.plainGet K C_Looks Str.empty = true) (hd_Looks : PySem.W.hasDictIn K C_Looks = true) (po_Looks : PySem.W.plainOver K C_Looks = true) (sa_Looks : PySem.W.findIn K (.ref C_Looks) "__setattr__" = some (some (.builtin "object.__setattr__"))) (mk_Looks : PySem.W.makesIn K C_Looks = true) (kc_Looks : PySem.W.keepIn K (.ref C_Looks) = true)
    (na_Looks_looks : PySem.W.findIn K (.ref C_Looks) "looks" = some none)
    {C_NoLot : Addr} (aC_NoLot : PySem.W.nsIn K mainGlobals "NoLot" = some (some (.ref C_NoLot)))
    (xx_NoLot : PySem.W.excIn K C_NoLot [.type "ValueError", .type "Exception", .type "BaseException", .type "object"] "ValueError.__new__" = true) (xk_NoLot : PySem.W.keepIn K (.ref C_NoLot) = true) (xb_NoLot : PySem.W.subIn K (.ref C_NoLot) (.type "BaseException") = some true) (xt_NoLot : PySem.W.typeIn K (.ref C_NoLot) = some (.type "type"))
    (z_n_range : PySem.W.nsIn K mainGlobals "range" = some none)
    (z_n_sorted : PySem.W.nsIn K mainGlobals "sorted" = some none)
    (z_n_abs : PySem.W.nsIn K mainGlobals "abs" = some none)
    (z_n_sum : PySem.W.nsIn K mainGlobals "sum" = some none)
    (z_n_min : PySem.W.nsIn K mainGlobals "min" = some none)
    (z_n_ValueError : PySem.W.nsIn K mainGlobals "ValueError" = some none)
    {C_NoUnits : Addr} (aC_NoUnits : PySem.W.nsIn K mainGlobals "NoUnits" = some (some (.ref C_NoUnits)))
    {C_TooMany : Addr} (aC_TooMany : PySem.W.nsIn K mainGlobals "TooMany" = some (some (.ref C_TooMany)))
    (yb_SpeakError : PySem.W.subIn K (.ref C_SpeakError) (.type "BaseException") = some true) (yi_SpeakError : PySem.W.isClsIn K C_SpeakError = true) (yt_SpeakError : PySem.W.typeIn K (.ref C_SpeakError) = some (.type "type"))
    (z0_NoTable : PySem.W.findIn K (.ref C_NoTable) "__getattribute__" = some (some (.builtin "BaseException.__getattribute__"))) (z1_NoTable : PySem.W.findIn K (.ref C_NoTable) "__getattr__" = some none) (z2_NoTable : PySem.W.subIn K (.ref C_NoTable) (.type "BaseException") = some true) (z3_NoTable : PySem.W.hasDictIn K C_NoTable = true) (z4_NoTable : PySem.W.findIn K (.ref C_NoTable) "__class__" = some (some (.builtin "object.__class__"))) (z5_NoTable : PySem.W.specialIn K (.builtin "object.__class__") "__get__" = some (some (.builtin "getset_descriptor.__get__"))) (z6_NoTable : PySem.W.takesIn K (.builtin "object.__class__") = some true) (z7_NoTable : PySem.W.mroIn K C_NoTable (.type "object") = some true)
    (z_n_str : PySem.W.nsIn K mainGlobals "str" = some none)
    (z_n_max : PySem.W.nsIn K mainGlobals "max" = some none)
    (z0_NoLot : PySem.W.findIn K (.ref C_NoLot) "__getattribute__" = some (some (.builtin "BaseException.__getattribute__"))) (z1_NoLot : PySem.W.findIn K (.ref C_NoLot) "__getattr__" = some none) (z2_NoLot : PySem.W.subIn K (.ref C_NoLot) (.type "BaseException") = some true) (z3_NoLot : PySem.W.hasDictIn K C_NoLot = true) (z4_NoLot : PySem.W.findIn K (.ref C_NoLot) "__class__" = some (some (.builtin "object.__class__"))) (z5_NoLot : PySem.W.specialIn K (.builtin "object.__class__") "__get__" = some (some (.builtin "getset_descriptor.__get__"))) (z6_NoLot : PySem.W.takesIn K (.builtin "object.__class__") = some true) (z7_NoLot : PySem.W.mroIn K C_NoLot (.type "object") = some true)
    (yb_NoLot : PySem.W.subIn K (.ref C_NoLot) (.type "BaseException") = some true) (yi_NoLot : PySem.W.isClsIn K C_NoLot = true) (yt_NoLot : PySem.W.typeIn K (.ref C_NoLot) = some (.type "type"))
    (yb_NoTable : PySem.W.subIn K (.ref C_NoTable) (.type "BaseException") = some true) (yi_NoTable : PySem.W.isClsIn K C_NoTable = true) (yt_NoTable : PySem.W.typeIn K (.ref C_NoTable) = some (.type "type"))
    (yb_NoUnits : PySem.W.subIn K (.ref C_NoUnits) (.type "BaseException") = some true) (yi_NoUnits : PySem.W.isClsIn K C_NoUnits = true) (yt_NoUnits : PySem.W.typeIn K (.ref C_NoUnits) = some (.type "type"))
    (yb_TooMany : PySem.W.subIn K (.ref C_TooMany) (.type "BaseException") = some true) (yi_TooMany : PySem.W.isClsIn K C_TooMany = true) (yt_TooMany : PySem.W.typeIn K (.ref C_TooMany) = some (.type "type"))
    (es_NoLot_NoLot : PySem.W.subIn K (.ref C_NoLot) (.ref C_NoLot) = some true)
    (es_NoLot_SpeakError : PySem.W.subIn K (.ref C_NoLot) (.ref C_SpeakError) = some true)
    (es_NoLot_NoTable : PySem.W.subIn K (.ref C_NoLot) (.ref C_NoTable) = some false)
    (es_NoLot_NoUnits : PySem.W.subIn K (.ref C_NoLot) (.ref C_NoUnits) = some false)
    (es_NoLot_TooMany : PySem.W.subIn K (.ref C_NoLot) (.ref C_TooMany) = some false)
    (es_NoTable_NoTable : PySem.W.subIn K (.ref C_NoTable) (.ref C_NoTable) = some true)
    (es_NoTable_SpeakError : PySem.W.subIn K (.ref C_NoTable) (.ref C_SpeakError) = some true)
    (es_NoTable_NoLot : PySem.W.subIn K (.ref C_NoTable) (.ref C_NoLot) = some false)
    (es_NoTable_NoUnits : PySem.W.subIn K (.ref C_NoTable) (.ref C_NoUnits) = some false)
    (es_NoTable_TooMany : PySem.W.subIn K (.ref C_NoTable) (.ref C_TooMany) = some false)
    (et_NoTable_ValueError : PySem.W.subIn K (.ref C_NoTable) (.type "ValueError") = some true)
    {f__law_cell : Addr} {od__law_cell an__law_cell : Option Addr} {sl__law_cell : Array (Option Value)} {oc__law_cell kV__law_cell dc__law_cell pm__law_cell cd__law_cell ct__law_cell : Value}
    (a__law_cell : PySem.W.nsIn K mainGlobals "_law_cell" = some (some (.ref f__law_cell))) (l__law_cell : K.lookup f__law_cell = some ⟨oc__law_cell, od__law_cell, .func (PySem.W.fnOf "_law_cell" "_law_cell" (defArgs s__law_cell) (defBody s__law_cell) (defScope s__law_cell) .none kV__law_cell dc__law_cell pm__law_cell an__law_cell cd__law_cell ct__law_cell), sl__law_cell⟩) (c__law_cell : PySem.W.codeIn K cd__law_cell "_law_cell" = true) (k__law_cell : PySem.W.keepIn K (.ref f__law_cell) = true)
    {f__law_mixed : Addr} {od__law_mixed an__law_mixed : Option Addr} {sl__law_mixed : Array (Option Value)} {oc__law_mixed kV__law_mixed dc__law_mixed pm__law_mixed cd__law_mixed ct__law_mixed : Value}
    (a__law_mixed : PySem.W.nsIn K mainGlobals "_law_mixed" = some (some (.ref f__law_mixed))) (l__law_mixed : K.lookup f__law_mixed = some ⟨oc__law_mixed, od__law_mixed, .func (PySem.W.fnOf "_law_mixed" "_law_mixed" (defArgs s__law_mixed) (defBody s__law_mixed) (defScope s__law_mixed) .none kV__law_mixed dc__law_mixed pm__law_mixed an__law_mixed cd__law_mixed ct__law_mixed), sl__law_mixed⟩) (c__law_mixed : PySem.W.codeIn K cd__law_mixed "_law_mixed" = true) (k__law_mixed : PySem.W.keepIn K (.ref f__law_mixed) = true)
    {f_is_whole : Addr} {od_is_whole an_is_whole : Option Addr} {sl_is_whole : Array (Option Value)} {oc_is_whole kV_is_whole dc_is_whole pm_is_whole cd_is_whole ct_is_whole : Value}
    (a_is_whole : PySem.W.nsIn K mainGlobals "is_whole" = some (some (.ref f_is_whole))) (l_is_whole : K.lookup f_is_whole = some ⟨oc_is_whole, od_is_whole, .func (PySem.W.fnOf "is_whole" "is_whole" (defArgs s_is_whole) (defBody s_is_whole) (defScope s_is_whole) .none kV_is_whole dc_is_whole pm_is_whole an_is_whole cd_is_whole ct_is_whole), sl_is_whole⟩) (c_is_whole : PySem.W.codeIn K cd_is_whole "is_whole" = true) (k_is_whole : PySem.W.keepIn K (.ref f_is_whole) = true)
    {f_is_row : Addr} {od_is_row an_is_row : Option Addr} {sl_is_row : Array (Option Value)} {oc_is_row kV_is_row dc_is_row pm_is_row cd_is_row ct_is_row : Value}
    (a_is_row : PySem.W.nsIn K mainGlobals "is_row" = some (some (.ref f_is_row))) (l_is_row : K.lookup f_is_row = some ⟨oc_is_row, od_is_row, .func (PySem.W.fnOf "is_row" "is_row" (defArgs s_is_row) (defBody s_is_row) (defScope s_is_row) .none kV_is_row dc_is_row pm_is_row an_is_row cd_is_row ct_is_row), sl_is_row⟩) (c_is_row : PySem.W.codeIn K cd_is_row "is_row" = true) (k_is_row : PySem.W.keepIn K (.ref f_is_row) = true)
    {f_NoTable___init__ : Addr} {od_NoTable___init__ an_NoTable___init__ : Option Addr} {sl_NoTable___init__ : Array (Option Value)} {oc_NoTable___init__ kV_NoTable___init__ dc_NoTable___init__ pm_NoTable___init__ cd_NoTable___init__ ct_NoTable___init__ : Value}
    (a_NoTable___init__ : PySem.W.findIn K (.ref C_NoTable) "__init__" = some (some (.ref f_NoTable___init__))) (i_NoTable___init__ : PySem.W.isFn K (.ref f_NoTable___init__) = true) (l_NoTable___init__ : K.lookup f_NoTable___init__ = some ⟨oc_NoTable___init__, od_NoTable___init__, .func (PySem.W.fnOf "__init__" "NoTable.__init__" (defArgs s_NoTable___init__) (defBody s_NoTable___init__) (defScope s_NoTable___init__) .none kV_NoTable___init__ dc_NoTable___init__ pm_NoTable___init__ an_NoTable___init__ cd_NoTable___init__ ct_NoTable___init__), sl_NoTable___init__⟩) (c_NoTable___init__ : PySem.W.codeIn K cd_NoTable___init__ "NoTable.__init__" = true) (k_NoTable___init__ : PySem.W.keepIn K (.ref f_NoTable___init__) = true)
    {f_need_rows : Addr} {od_need_rows an_need_rows : Option Addr} {sl_need_rows : Array (Option Value)} {oc_need_rows kV_need_rows dc_need_rows pm_need_rows cd_need_rows ct_need_rows : Value}
    (a_need_rows : PySem.W.nsIn K mainGlobals "need_rows" = some (some (.ref f_need_rows))) (l_need_rows : K.lookup f_need_rows = some ⟨oc_need_rows, od_need_rows, .func (PySem.W.fnOf "need_rows" "need_rows" (defArgs s_need_rows) (defBody s_need_rows) (defScope s_need_rows) .none kV_need_rows dc_need_rows pm_need_rows an_need_rows cd_need_rows ct_need_rows), sl_need_rows⟩) (c_need_rows : PySem.W.codeIn K cd_need_rows "need_rows" = true) (k_need_rows : PySem.W.keepIn K (.ref f_need_rows) = true)
    {f_Looks___init__ : Addr} {od_Looks___init__ an_Looks___init__ : Option Addr} {sl_Looks___init__ : Array (Option Value)} {oc_Looks___init__ kV_Looks___init__ dc_Looks___init__ pm_Looks___init__ cd_Looks___init__ ct_Looks___init__ : Value}
    (a_Looks___init__ : PySem.W.findIn K (.ref C_Looks) "__init__" = some (some (.ref f_Looks___init__))) (i_Looks___init__ : PySem.W.isFn K (.ref f_Looks___init__) = true) (l_Looks___init__ : K.lookup f_Looks___init__ = some ⟨oc_Looks___init__, od_Looks___init__, .func (PySem.W.fnOf "__init__" "Looks.__init__" (defArgs s_Looks___init__) (defBody s_Looks___init__) (defScope s_Looks___init__) .none kV_Looks___init__ dc_Looks___init__ pm_Looks___init__ an_Looks___init__ cd_Looks___init__ ct_Looks___init__), sl_Looks___init__⟩) (c_Looks___init__ : PySem.W.codeIn K cd_Looks___init__ "Looks.__init__" = true) (k_Looks___init__ : PySem.W.keepIn K (.ref f_Looks___init__) = true)
    {f_Looks_word_at : Addr} {od_Looks_word_at an_Looks_word_at : Option Addr} {sl_Looks_word_at : Array (Option Value)} {oc_Looks_word_at kV_Looks_word_at dc_Looks_word_at pm_Looks_word_at cd_Looks_word_at ct_Looks_word_at : Value}
    (a_Looks_word_at : PySem.W.findIn K (.ref C_Looks) "word_at" = some (some (.ref f_Looks_word_at))) (i_Looks_word_at : PySem.W.isFn K (.ref f_Looks_word_at) = true) (l_Looks_word_at : K.lookup f_Looks_word_at = some ⟨oc_Looks_word_at, od_Looks_word_at, .func (PySem.W.fnOf "word_at" "Looks.word_at" (defArgs s_Looks_word_at) (defBody s_Looks_word_at) (defScope s_Looks_word_at) .none kV_Looks_word_at dc_Looks_word_at pm_Looks_word_at an_Looks_word_at cd_Looks_word_at ct_Looks_word_at), sl_Looks_word_at⟩) (c_Looks_word_at : PySem.W.codeIn K cd_Looks_word_at "Looks.word_at" = true) (k_Looks_word_at : PySem.W.keepIn K (.ref f_Looks_word_at) = true)
    {f_Looks_need_lot : Addr} {od_Looks_need_lot an_Looks_need_lot : Option Addr} {sl_Looks_need_lot : Array (Option Value)} {oc_Looks_need_lot kV_Looks_need_lot dc_Looks_need_lot pm_Looks_need_lot cd_Looks_need_lot ct_Looks_need_lot : Value}
    (a_Looks_need_lot : PySem.W.findIn K (.ref C_Looks) "need_lot" = some (some (.ref f_Looks_need_lot))) (i_Looks_need_lot : PySem.W.isFn K (.ref f_Looks_need_lot) = true) (l_Looks_need_lot : K.lookup f_Looks_need_lot = some ⟨oc_Looks_need_lot, od_Looks_need_lot, .func (PySem.W.fnOf "need_lot" "Looks.need_lot" (defArgs s_Looks_need_lot) (defBody s_Looks_need_lot) (defScope s_Looks_need_lot) .none kV_Looks_need_lot dc_Looks_need_lot pm_Looks_need_lot an_Looks_need_lot cd_Looks_need_lot ct_Looks_need_lot), sl_Looks_need_lot⟩) (c_Looks_need_lot : PySem.W.codeIn K cd_Looks_need_lot "Looks.need_lot" = true) (k_Looks_need_lot : PySem.W.keepIn K (.ref f_Looks_need_lot) = true)
    {f_sets_of : Addr} {od_sets_of an_sets_of : Option Addr} {sl_sets_of : Array (Option Value)} {oc_sets_of kV_sets_of dc_sets_of pm_sets_of cd_sets_of ct_sets_of : Value}
    (a_sets_of : PySem.W.nsIn K mainGlobals "sets_of" = some (some (.ref f_sets_of))) (l_sets_of : K.lookup f_sets_of = some ⟨oc_sets_of, od_sets_of, .func (PySem.W.fnOf "sets_of" "sets_of" (defArgs s_sets_of) (defBody s_sets_of) (defScope s_sets_of) .none kV_sets_of dc_sets_of pm_sets_of an_sets_of cd_sets_of ct_sets_of), sl_sets_of⟩) (c_sets_of : PySem.W.codeIn K cd_sets_of "sets_of" = true) (k_sets_of : PySem.W.keepIn K (.ref f_sets_of) = true)
    {f_Looks_endings : Addr} {od_Looks_endings an_Looks_endings : Option Addr} {sl_Looks_endings : Array (Option Value)} {oc_Looks_endings kV_Looks_endings dc_Looks_endings pm_Looks_endings cd_Looks_endings ct_Looks_endings : Value}
    (a_Looks_endings : PySem.W.findIn K (.ref C_Looks) "endings" = some (some (.ref f_Looks_endings))) (i_Looks_endings : PySem.W.isFn K (.ref f_Looks_endings) = true) (l_Looks_endings : K.lookup f_Looks_endings = some ⟨oc_Looks_endings, od_Looks_endings, .func (PySem.W.fnOf "endings" "Looks.endings" (defArgs s_Looks_endings) (defBody s_Looks_endings) (defScope s_Looks_endings) .none kV_Looks_endings dc_Looks_endings pm_Looks_endings an_Looks_endings cd_Looks_endings ct_Looks_endings), sl_Looks_endings⟩) (c_Looks_endings : PySem.W.codeIn K cd_Looks_endings "Looks.endings" = true) (k_Looks_endings : PySem.W.keepIn K (.ref f_Looks_endings) = true)
    {f_divisor : Addr} {od_divisor an_divisor : Option Addr} {sl_divisor : Array (Option Value)} {oc_divisor kV_divisor dc_divisor pm_divisor cd_divisor ct_divisor : Value}
    (a_divisor : PySem.W.nsIn K mainGlobals "divisor" = some (some (.ref f_divisor))) (l_divisor : K.lookup f_divisor = some ⟨oc_divisor, od_divisor, .func (PySem.W.fnOf "divisor" "divisor" (defArgs s_divisor) (defBody s_divisor) (defScope s_divisor) .none kV_divisor dc_divisor pm_divisor an_divisor cd_divisor ct_divisor), sl_divisor⟩) (c_divisor : PySem.W.codeIn K cd_divisor "divisor" = true) (k_divisor : PySem.W.keepIn K (.ref f_divisor) = true)
    {f_share : Addr} {od_share an_share : Option Addr} {sl_share : Array (Option Value)} {oc_share kV_share dc_share pm_share cd_share ct_share : Value}
    (a_share : PySem.W.nsIn K mainGlobals "share" = some (some (.ref f_share))) (l_share : K.lookup f_share = some ⟨oc_share, od_share, .func (PySem.W.fnOf "share" "share" (defArgs s_share) (defBody s_share) (defScope s_share) .none kV_share dc_share pm_share an_share cd_share ct_share), sl_share⟩) (c_share : PySem.W.codeIn K cd_share "share" = true) (k_share : PySem.W.keepIn K (.ref f_share) = true)
    {f_Looks_let_by : Addr} {od_Looks_let_by an_Looks_let_by : Option Addr} {sl_Looks_let_by : Array (Option Value)} {oc_Looks_let_by kV_Looks_let_by dc_Looks_let_by pm_Looks_let_by cd_Looks_let_by ct_Looks_let_by : Value}
    (a_Looks_let_by : PySem.W.findIn K (.ref C_Looks) "let_by" = some (some (.ref f_Looks_let_by))) (i_Looks_let_by : PySem.W.isFn K (.ref f_Looks_let_by) = true) (l_Looks_let_by : K.lookup f_Looks_let_by = some ⟨oc_Looks_let_by, od_Looks_let_by, .func (PySem.W.fnOf "let_by" "Looks.let_by" (defArgs s_Looks_let_by) (defBody s_Looks_let_by) (defScope s_Looks_let_by) .none kV_Looks_let_by dc_Looks_let_by pm_Looks_let_by an_Looks_let_by cd_Looks_let_by ct_Looks_let_by), sl_Looks_let_by⟩) (c_Looks_let_by : PySem.W.codeIn K cd_Looks_let_by "Looks.let_by" = true) (k_Looks_let_by : PySem.W.keepIn K (.ref f_Looks_let_by) = true)
    {f_Looks_looked_at : Addr} {od_Looks_looked_at an_Looks_looked_at : Option Addr} {sl_Looks_looked_at : Array (Option Value)} {oc_Looks_looked_at kV_Looks_looked_at dc_Looks_looked_at pm_Looks_looked_at cd_Looks_looked_at ct_Looks_looked_at : Value}
    (a_Looks_looked_at : PySem.W.findIn K (.ref C_Looks) "looked_at" = some (some (.ref f_Looks_looked_at))) (i_Looks_looked_at : PySem.W.isFn K (.ref f_Looks_looked_at) = true) (l_Looks_looked_at : K.lookup f_Looks_looked_at = some ⟨oc_Looks_looked_at, od_Looks_looked_at, .func (PySem.W.fnOf "looked_at" "Looks.looked_at" (defArgs s_Looks_looked_at) (defBody s_Looks_looked_at) (defScope s_Looks_looked_at) .none kV_Looks_looked_at dc_Looks_looked_at pm_Looks_looked_at an_Looks_looked_at cd_Looks_looked_at ct_Looks_looked_at), sl_Looks_looked_at⟩) (c_Looks_looked_at : PySem.W.codeIn K cd_Looks_looked_at "Looks.looked_at" = true) (k_Looks_looked_at : PySem.W.keepIn K (.ref f_Looks_looked_at) = true)
    {f__law_rows : Addr} {od__law_rows an__law_rows : Option Addr} {sl__law_rows : Array (Option Value)} {oc__law_rows kV__law_rows dc__law_rows pm__law_rows cd__law_rows ct__law_rows : Value}
    (a__law_rows : PySem.W.nsIn K mainGlobals "_law_rows" = some (some (.ref f__law_rows))) (l__law_rows : K.lookup f__law_rows = some ⟨oc__law_rows, od__law_rows, .func (PySem.W.fnOf "_law_rows" "_law_rows" (defArgs s__law_rows) (defBody s__law_rows) (defScope s__law_rows) .none kV__law_rows dc__law_rows pm__law_rows an__law_rows cd__law_rows ct__law_rows), sl__law_rows⟩) (c__law_rows : PySem.W.codeIn K cd__law_rows "_law_rows" = true) (k__law_rows : PySem.W.keepIn K (.ref f__law_rows) = true)
    {f__law_odd : Addr} {od__law_odd an__law_odd : Option Addr} {sl__law_odd : Array (Option Value)} {oc__law_odd kV__law_odd dc__law_odd pm__law_odd cd__law_odd ct__law_odd : Value}
    (a__law_odd : PySem.W.nsIn K mainGlobals "_law_odd" = some (some (.ref f__law_odd))) (l__law_odd : K.lookup f__law_odd = some ⟨oc__law_odd, od__law_odd, .func (PySem.W.fnOf "_law_odd" "_law_odd" (defArgs s__law_odd) (defBody s__law_odd) (defScope s__law_odd) .none kV__law_odd dc__law_odd pm__law_odd an__law_odd cd__law_odd ct__law_odd), sl__law_odd⟩) (c__law_odd : PySem.W.codeIn K cd__law_odd "_law_odd" = true) (k__law_odd : PySem.W.keepIn K (.ref f__law_odd) = true)
    {f__law_is_whole : Addr} {od__law_is_whole an__law_is_whole : Option Addr} {sl__law_is_whole : Array (Option Value)} {oc__law_is_whole kV__law_is_whole dc__law_is_whole pm__law_is_whole cd__law_is_whole ct__law_is_whole : Value}
    (a__law_is_whole : PySem.W.nsIn K mainGlobals "_law_is_whole" = some (some (.ref f__law_is_whole))) (l__law_is_whole : K.lookup f__law_is_whole = some ⟨oc__law_is_whole, od__law_is_whole, .func (PySem.W.fnOf "_law_is_whole" "_law_is_whole" (defArgs s__law_is_whole) (defBody s__law_is_whole) (defScope s__law_is_whole) .none kV__law_is_whole dc__law_is_whole pm__law_is_whole an__law_is_whole cd__law_is_whole ct__law_is_whole), sl__law_is_whole⟩) (c__law_is_whole : PySem.W.codeIn K cd__law_is_whole "_law_is_whole" = true) (k__law_is_whole : PySem.W.keepIn K (.ref f__law_is_whole) = true)
    {f__law_good : Addr} {od__law_good an__law_good : Option Addr} {sl__law_good : Array (Option Value)} {oc__law_good kV__law_good dc__law_good pm__law_good cd__law_good ct__law_good : Value}
    (a__law_good : PySem.W.nsIn K mainGlobals "_law_good" = some (some (.ref f__law_good))) (l__law_good : K.lookup f__law_good = some ⟨oc__law_good, od__law_good, .func (PySem.W.fnOf "_law_good" "_law_good" (defArgs s__law_good) (defBody s__law_good) (defScope s__law_good) .none kV__law_good dc__law_good pm__law_good an__law_good cd__law_good ct__law_good), sl__law_good⟩) (c__law_good : PySem.W.codeIn K cd__law_good "_law_good" = true) (k__law_good : PySem.W.keepIn K (.ref f__law_good) = true)
    {f__law_due : Addr} {od__law_due an__law_due : Option Addr} {sl__law_due : Array (Option Value)} {oc__law_due kV__law_due dc__law_due pm__law_due cd__law_due ct__law_due : Value}
    (a__law_due : PySem.W.nsIn K mainGlobals "_law_due" = some (some (.ref f__law_due))) (l__law_due : K.lookup f__law_due = some ⟨oc__law_due, od__law_due, .func (PySem.W.fnOf "_law_due" "_law_due" (defArgs s__law_due) (defBody s__law_due) (defScope s__law_due) .none kV__law_due dc__law_due pm__law_due an__law_due cd__law_due ct__law_due), sl__law_due⟩) (c__law_due : PySem.W.codeIn K cd__law_due "_law_due" = true) (k__law_due : PySem.W.keepIn K (.ref f__law_due) = true)
    {f__law_told : Addr} {od__law_told an__law_told : Option Addr} {sl__law_told : Array (Option Value)} {oc__law_told kV__law_told dc__law_told pm__law_told cd__law_told ct__law_told : Value}
    (a__law_told : PySem.W.nsIn K mainGlobals "_law_told" = some (some (.ref f__law_told))) (l__law_told : K.lookup f__law_told = some ⟨oc__law_told, od__law_told, .func (PySem.W.fnOf "_law_told" "_law_told" (defArgs s__law_told) (defBody s__law_told) (defScope s__law_told) .none kV__law_told dc__law_told pm__law_told an__law_told cd__law_told ct__law_told), sl__law_told⟩) (c__law_told : PySem.W.codeIn K cd__law_told "_law_told" = true) (k__law_told : PySem.W.keepIn K (.ref f__law_told) = true)
    {f__law_no_lot : Addr} {od__law_no_lot an__law_no_lot : Option Addr} {sl__law_no_lot : Array (Option Value)} {oc__law_no_lot kV__law_no_lot dc__law_no_lot pm__law_no_lot cd__law_no_lot ct__law_no_lot : Value}
    (a__law_no_lot : PySem.W.nsIn K mainGlobals "_law_no_lot" = some (some (.ref f__law_no_lot))) (l__law_no_lot : K.lookup f__law_no_lot = some ⟨oc__law_no_lot, od__law_no_lot, .func (PySem.W.fnOf "_law_no_lot" "_law_no_lot" (defArgs s__law_no_lot) (defBody s__law_no_lot) (defScope s__law_no_lot) .none kV__law_no_lot dc__law_no_lot pm__law_no_lot an__law_no_lot cd__law_no_lot ct__law_no_lot), sl__law_no_lot⟩) (c__law_no_lot : PySem.W.codeIn K cd__law_no_lot "_law_no_lot" = true) (k__law_no_lot : PySem.W.keepIn K (.ref f__law_no_lot) = true)
    {f__law_lots : Addr} {od__law_lots an__law_lots : Option Addr} {sl__law_lots : Array (Option Value)} {oc__law_lots kV__law_lots dc__law_lots pm__law_lots cd__law_lots ct__law_lots : Value}
    (a__law_lots : PySem.W.nsIn K mainGlobals "_law_lots" = some (some (.ref f__law_lots))) (l__law_lots : K.lookup f__law_lots = some ⟨oc__law_lots, od__law_lots, .func (PySem.W.fnOf "_law_lots" "_law_lots" (defArgs s__law_lots) (defBody s__law_lots) (defScope s__law_lots) .none kV__law_lots dc__law_lots pm__law_lots an__law_lots cd__law_lots ct__law_lots), sl__law_lots⟩) (c__law_lots : PySem.W.codeIn K cd__law_lots "_law_lots" = true) (k__law_lots : PySem.W.keepIn K (.ref f__law_lots) = true)
    {f_law : Addr} {od_law an_law : Option Addr} {sl_law : Array (Option Value)} {oc_law kV_law dc_law pm_law cd_law ct_law : Value}
    (a_law : PySem.W.nsIn K mainGlobals "law" = some (some (.ref f_law))) (l_law : K.lookup f_law = some ⟨oc_law, od_law, .func (PySem.W.fnOf "law" "law" (defArgs s_law) (defBody s_law) (defScope s_law) .none kV_law dc_law pm_law an_law cd_law ct_law), sl_law⟩) (c_law : PySem.W.codeIn K cd_law "law" = true) (k_law : PySem.W.keepIn K (.ref f_law) = true) : Txt K mg := by
  have e_SpeakError : cA mg "SpeakError" = C_SpeakError := cA_of (PySem.W.mg_of X G aC_SpeakError)
  have e_NoTable : cA mg "NoTable" = C_NoTable := cA_of (PySem.W.mg_of X G aC_NoTable)
  have e_Looks : cA mg "Looks" = C_Looks := cA_of (PySem.W.mg_of X G aC_Looks)
  have e_NoLot : cA mg "NoLot" = C_NoLot := cA_of (PySem.W.mg_of X G aC_NoLot)
  have e_NoUnits : cA mg "NoUnits" = C_NoUnits := cA_of (PySem.W.mg_of X G aC_NoUnits)
  have e_TooMany : cA mg "TooMany" = C_TooMany := cA_of (PySem.W.mg_of X G aC_TooMany)
  exact ⟨(PySem.W.mg_none_of X G z_n_len), (PySem.W.mg_none_of X G z_n_bool), (PySem.W.mg_none_of X G z_n_int), (PySem.W.mg_none_of X G z_n_isinstance), (PySem.W.mg_none_of X G z_n_tuple), (⟨_, PySem.W.mg_of X G z_g_MOST_WARES, y_g_MOST_WARES⟩), (by rw [e_SpeakError]; exact PySem.W.mg_of X G aC_SpeakError), (by rw [e_SpeakError]; exact ⟨bi0_SpeakError, bi1_SpeakError, bi2_SpeakError⟩), (by rw [e_NoTable]; exact PySem.W.mg_of X G aC_NoTable), (by rw [e_NoTable]; exact ⟨ox_NoTable, o0_NoTable, o1_NoTable, o2_NoTable, o3_NoTable⟩), (by rw [e_NoTable]; exact na_NoTable_row), (PySem.W.mg_none_of X G z_n_enumerate), (PySem.W.mg_none_of X G z_n_list), (by rw [e_Looks]; exact PySem.W.mg_of X G aC_Looks), (by rw [e_Looks]; exact ⟨pg_Looks, hd_Looks, po_Looks, sa_Looks⟩), (by rw [e_Looks]; exact na_Looks_looks), (by rw [e_NoLot]; exact PySem.W.mg_of X G aC_NoLot), (by rw [e_NoLot]; exact ⟨xx_NoLot, xk_NoLot, xb_NoLot, xt_NoLot⟩), (PySem.W.mg_none_of X G z_n_range), (PySem.W.mg_none_of X G z_n_sorted), (PySem.W.mg_none_of X G z_n_abs), (PySem.W.mg_none_of X G z_n_sum), (PySem.W.mg_none_of X G z_n_min), (PySem.W.mg_none_of X G z_n_ValueError), (by rw [e_NoUnits]; exact PySem.W.mg_of X G aC_NoUnits), (by rw [e_TooMany]; exact PySem.W.mg_of X G aC_TooMany), (by rw [e_SpeakError]; exact ⟨yb_SpeakError, yi_SpeakError, yt_SpeakError⟩), (by rw [e_NoTable]; exact ⟨z0_NoTable, z1_NoTable, z2_NoTable, z3_NoTable, z4_NoTable, z5_NoTable, z6_NoTable, z7_NoTable⟩), (PySem.W.mg_none_of X G z_n_str), (PySem.W.mg_none_of X G z_n_max), (by rw [e_NoLot]; exact ⟨z0_NoLot, z1_NoLot, z2_NoLot, z3_NoLot, z4_NoLot, z5_NoLot, z6_NoLot, z7_NoLot⟩), (by rw [e_NoLot]; exact ⟨yb_NoLot, yi_NoLot, yt_NoLot⟩), (by rw [e_NoTable]; exact ⟨yb_NoTable, yi_NoTable, yt_NoTable⟩), (by rw [e_NoUnits]; exact ⟨yb_NoUnits, yi_NoUnits, yt_NoUnits⟩), (by rw [e_TooMany]; exact ⟨yb_TooMany, yi_TooMany, yt_TooMany⟩), (by rw [e_NoLot]; exact es_NoLot_NoLot), (by rw [e_NoLot, e_SpeakError]; exact es_NoLot_SpeakError), (by rw [e_NoLot, e_NoTable]; exact es_NoLot_NoTable), (by rw [e_NoLot, e_NoUnits]; exact es_NoLot_NoUnits), (by rw [e_NoLot, e_TooMany]; exact es_NoLot_TooMany), (by rw [e_NoTable]; exact es_NoTable_NoTable), (by rw [e_NoTable, e_SpeakError]; exact es_NoTable_SpeakError), (by rw [e_NoTable, e_NoLot]; exact es_NoTable_NoLot), (by rw [e_NoTable, e_NoUnits]; exact es_NoTable_NoUnits), (by rw [e_NoTable, e_TooMany]; exact es_NoTable_TooMany), (by rw [e_NoTable]; exact et_NoTable_ValueError), (⟨f__law_cell, _, fun_mk (st := s__law_cell) l__law_cell c__law_cell k__law_cell, PySem.W.mg_of X G a__law_cell, (fun_mk (st := s__law_cell) l__law_cell c__law_cell k__law_cell).binds (ps := ["_law_script", "_law_k"]) fun _ _ _ _ _ _ us hl => match us, hl with | [_, _], _ => rfl⟩), (⟨f__law_mixed, _, fun_mk (st := s__law_mixed) l__law_mixed c__law_mixed k__law_mixed, PySem.W.mg_of X G a__law_mixed, (fun_mk (st := s__law_mixed) l__law_mixed c__law_mixed k__law_mixed).binds (ps := ["_law_cell_here", "_law_k"]) fun _ _ _ _ _ _ us hl => match us, hl with | [_, _], _ => rfl⟩), (⟨f_is_whole, _, fun_mk (st := s_is_whole) l_is_whole c_is_whole k_is_whole, PySem.W.mg_of X G a_is_whole, (fun_mk (st := s_is_whole) l_is_whole c_is_whole k_is_whole).binds (ps := ["thing", "low", "high"]) fun _ _ _ _ _ _ us hl => match us, hl with | [_, _, _], _ => rfl⟩), (⟨f_is_row, _, fun_mk (st := s_is_row) l_is_row c_is_row k_is_row, PySem.W.mg_of X G a_is_row, (fun_mk (st := s_is_row) l_is_row c_is_row k_is_row).binds (ps := ["thing"]) fun _ _ _ _ _ _ us hl => match us, hl with | [_], _ => rfl⟩), (by rw [e_NoTable]; exact ⟨f_NoTable___init__, _, fun_mk (st := s_NoTable___init__) l_NoTable___init__ c_NoTable___init__ k_NoTable___init__, a_NoTable___init__, i_NoTable___init__, (fun_mk (st := s_NoTable___init__) l_NoTable___init__ c_NoTable___init__ k_NoTable___init__).binds (ps := ["self", "row"]) fun _ _ _ _ _ _ us hl => match us, hl with | [_, _], _ => rfl⟩), (⟨f_need_rows, _, fun_mk (st := s_need_rows) l_need_rows c_need_rows k_need_rows, PySem.W.mg_of X G a_need_rows, (fun_mk (st := s_need_rows) l_need_rows c_need_rows k_need_rows).binds (ps := ["rows"]) fun _ _ _ _ _ _ us hl => match us, hl with | [_], _ => rfl⟩), (by rw [e_Looks]; exact ⟨f_Looks___init__, _, fun_mk (st := s_Looks___init__) l_Looks___init__ c_Looks___init__ k_Looks___init__, ⟨mk_Looks, a_Looks___init__, i_Looks___init__, kc_Looks⟩, (fun_mk (st := s_Looks___init__) l_Looks___init__ c_Looks___init__ k_Looks___init__).binds (ps := ["self", "rows"]) fun _ _ _ _ _ _ us hl => match us, hl with | [_, _], _ => rfl⟩), (by rw [e_Looks]; exact ⟨f_Looks_word_at, _, fun_mk (st := s_Looks_word_at) l_Looks_word_at c_Looks_word_at k_Looks_word_at, ⟨a_Looks_word_at, i_Looks_word_at, k_Looks_word_at⟩, (fun_mk (st := s_Looks_word_at) l_Looks_word_at c_Looks_word_at k_Looks_word_at).binds (ps := ["self", "looked", "found"]) fun _ _ _ _ _ _ us hl => match us, hl with | [_, _, _], _ => rfl⟩), (by rw [e_Looks]; exact ⟨f_Looks_need_lot, _, fun_mk (st := s_Looks_need_lot) l_Looks_need_lot c_Looks_need_lot k_Looks_need_lot, ⟨a_Looks_need_lot, i_Looks_need_lot, k_Looks_need_lot⟩, (fun_mk (st := s_Looks_need_lot) l_Looks_need_lot c_Looks_need_lot k_Looks_need_lot).binds (ps := ["self", "lot", "bad"]) fun _ _ _ _ _ _ us hl => match us, hl with | [_, _, _], _ => rfl⟩), (⟨f_sets_of, _, fun_mk (st := s_sets_of) l_sets_of c_sets_of k_sets_of, PySem.W.mg_of X G a_sets_of, (fun_mk (st := s_sets_of) l_sets_of c_sets_of k_sets_of).binds (ps := ["many", "some"]) fun _ _ _ _ _ _ us hl => match us, hl with | [_, _], _ => rfl⟩), (by rw [e_Looks]; exact ⟨f_Looks_endings, _, fun_mk (st := s_Looks_endings) l_Looks_endings c_Looks_endings k_Looks_endings, ⟨a_Looks_endings, i_Looks_endings, k_Looks_endings⟩, (fun_mk (st := s_Looks_endings) l_Looks_endings c_Looks_endings k_Looks_endings).binds (ps := ["self", "lot", "bad"]) fun _ _ _ _ _ _ us hl => match us, hl with | [_, _, _], _ => rfl⟩), (⟨f_divisor, _, fun_mk (st := s_divisor) l_divisor c_divisor k_divisor, PySem.W.mg_of X G a_divisor, (fun_mk (st := s_divisor) l_divisor c_divisor k_divisor).binds (ps := ["one", "other"]) fun _ _ _ _ _ _ us hl => match us, hl with | [_, _], _ => rfl⟩), (⟨f_share, _, fun_mk (st := s_share) l_share c_share k_share, PySem.W.mg_of X G a_share, (fun_mk (st := s_share) l_share c_share k_share).binds (ps := ["top", "bottom"]) fun _ _ _ _ _ _ us hl => match us, hl with | [_, _], _ => rfl⟩), (by rw [e_Looks]; exact ⟨f_Looks_let_by, _, fun_mk (st := s_Looks_let_by) l_Looks_let_by c_Looks_let_by k_Looks_let_by, ⟨a_Looks_let_by, i_Looks_let_by, k_Looks_let_by⟩, (fun_mk (st := s_Looks_let_by) l_Looks_let_by c_Looks_let_by k_Looks_let_by).binds (ps := ["self", "lot", "bad"]) fun _ _ _ _ _ _ us hl => match us, hl with | [_, _, _], _ => rfl⟩), (by rw [e_Looks]; exact ⟨f_Looks_looked_at, _, fun_mk (st := s_Looks_looked_at) l_Looks_looked_at c_Looks_looked_at k_Looks_looked_at, ⟨a_Looks_looked_at, i_Looks_looked_at, k_Looks_looked_at⟩, (fun_mk (st := s_Looks_looked_at) l_Looks_looked_at c_Looks_looked_at k_Looks_looked_at).binds (ps := ["self", "lot", "bad"]) fun _ _ _ _ _ _ us hl => match us, hl with | [_, _, _], _ => rfl⟩), (⟨f__law_rows, _, fun_mk (st := s__law_rows) l__law_rows c__law_rows k__law_rows, PySem.W.mg_of X G a__law_rows, (fun_mk (st := s__law_rows) l__law_rows c__law_rows k__law_rows).binds (ps := ["_law_cell_here"]) fun _ _ _ _ _ _ us hl => match us, hl with | [_], _ => rfl⟩), (⟨f__law_odd, _, fun_mk (st := s__law_odd) l__law_odd c__law_odd k__law_odd, PySem.W.mg_of X G a__law_odd, (fun_mk (st := s__law_odd) l__law_odd c__law_odd k__law_odd).binds (ps := ["_law_row", "_law_number"]) fun _ _ _ _ _ _ us hl => match us, hl with | [_, _], _ => rfl⟩), (⟨f__law_is_whole, _, fun_mk (st := s__law_is_whole) l__law_is_whole c__law_is_whole k__law_is_whole, PySem.W.mg_of X G a__law_is_whole, (fun_mk (st := s__law_is_whole) l__law_is_whole c__law_is_whole k__law_is_whole).binds (ps := ["_law_thing"]) fun _ _ _ _ _ _ us hl => match us, hl with | [_], _ => rfl⟩), (⟨f__law_good, _, fun_mk (st := s__law_good) l__law_good c__law_good k__law_good, PySem.W.mg_of X G a__law_good, (fun_mk (st := s__law_good) l__law_good c__law_good k__law_good).binds (ps := ["_law_row"]) fun _ _ _ _ _ _ us hl => match us, hl with | [_], _ => rfl⟩), (⟨f__law_due, _, fun_mk (st := s__law_due) l__law_due c__law_due k__law_due, PySem.W.mg_of X G a__law_due, (fun_mk (st := s__law_due) l__law_due c__law_due k__law_due).binds (ps := ["_law_rows_here"]) fun _ _ _ _ _ _ us hl => match us, hl with | [_], _ => rfl⟩), (⟨f__law_told, _, fun_mk (st := s__law_told) l__law_told c__law_told k__law_told, PySem.W.mg_of X G a__law_told, (fun_mk (st := s__law_told) l__law_told c__law_told k__law_told).binds (ps := ["_law_rows_here"]) fun _ _ _ _ _ _ us hl => match us, hl with | [_], _ => rfl⟩), (⟨f__law_no_lot, _, fun_mk (st := s__law_no_lot) l__law_no_lot c__law_no_lot k__law_no_lot, PySem.W.mg_of X G a__law_no_lot, (fun_mk (st := s__law_no_lot) l__law_no_lot c__law_no_lot k__law_no_lot).binds (ps := ["_law_looks", "_law_way", "_law_lot", "_law_bad"]) fun _ _ _ _ _ _ us hl => match us, hl with | [_, _, _, _], _ => rfl⟩), (⟨f__law_lots, _, fun_mk (st := s__law_lots) l__law_lots c__law_lots k__law_lots, PySem.W.mg_of X G a__law_lots, (fun_mk (st := s__law_lots) l__law_lots c__law_lots k__law_lots).binds (ps := ["_law_rows_here", "_law_cell_here"]) fun _ _ _ _ _ _ us hl => match us, hl with | [_, _], _ => rfl⟩), (⟨f_law, _, fun_mk (st := s_law) l_law c_law k_law, PySem.W.mg_of X G a_law, (fun_mk (st := s_law) l_law c_law k_law).binds (ps := ["_law_script"]) fun _ _ _ _ _ _ us hl => match us, hl with | [_], _ => rfl⟩)⟩
theorem law_mk {P : Program} {w : World} {K : PySem.W.Frag} {mg : Str → Option Value} {fa : Addr} (T : Txt K mg) (hfa : mg "law" = some (.ref fa)) :
    ∃ fd : FuncData, (∀ (s : Shared) (v : Value), BindsTo s fd ⟨[v], []⟩ [("_law_script", v)]) ∧ ∀ base : Heap, K.In base → base.Ns mainGlobals mg → FnOk P w K mg base CX0 7 fa fd ["_law_script"] (sp_law K mg) := by
  obtain ⟨f, fd, F, hm, b⟩ := T.d_law.ex
  have e := hfa.symm.trans hm
  cases e
  refine ⟨fd, fun s v => ?_, fun base _ _ => c_law T F⟩
  obtain ⟨oc, od, kV, doc, pm, an, cdv, ct, osl, rfl, lk, hcd⟩ := F.ex
  exact .of_eq rfl
end My
open PySem PySem.W PyProof.Rows
set_option maxRecDepth 100000 in
set_option maxHeartbeats 0 in
theorem PySem.Challenge.cw_fewspeak_k82_tables_refused_holds : PySem.Challenge.rw_fewspeak_k82_tables_refused.Holds := by
  w_on; o_law; k_head; (case hw => w_witness2)
  k_fill
  refine L2.walk_ofB (l := PySem.Challenge.rw_fewspeak_k82_tables_refused) (n := 63) (k := 7) (x := "_law_script") (CX := fun _ => L2.CX0) (sp := fun w => My.sp_law _ (fun _ => none)) rfl (by decide) rfl ⟨rfl, by decide, by decide⟩ (fun w h Y => PySem.W.kIn_of Y) ?F (fun _ _ a ns hl hb _ hS => ⟨ns, hS, hl, hb, fun _ => rfl⟩) (fun _ _ _ _ _ h => h)
  case F =>
    intro w mg fa h KX G hmg
    refine' My.law_mk (My.txt_mk KX G ?z_n_len ?z_n_bool ?z_n_int ?z_n_isinstance ?z_n_tuple ?z_g_MOST_WARES ?y_g_MOST_WARES ?aC_SpeakError ?bi0_SpeakError ?bi1_SpeakError ?bi2_SpeakError ?aC_NoTable ?ox_NoTable ?o0_NoTable ?o1_NoTable ?o2_NoTable ?o3_NoTable ?na_NoTable_row ?z_n_enumerate ?z_n_list ?aC_Looks ?pg_Looks ?hd_Looks ?po_Looks ?sa_Looks ?mk_Looks ?kc_Looks ?na_Looks_looks ?aC_NoLot ?xx_NoLot ?xk_NoLot ?xb_NoLot ?xt_NoLot ?z_n_range ?z_n_sorted ?z_n_abs ?z_n_sum ?z_n_min ?z_n_ValueError ?aC_NoUnits ?aC_TooMany ?yb_SpeakError ?yi_SpeakError ?yt_SpeakError ?z0_NoTable ?z1_NoTable ?z2_NoTable ?z3_NoTable ?z4_NoTable ?z5_NoTable ?z6_NoTable ?z7_NoTable ?z_n_str ?z_n_max ?z0_NoLot ?z1_NoLot ?z2_NoLot ?z3_NoLot ?z4_NoLot ?z5_NoLot ?z6_NoLot ?z7_NoLot ?yb_NoLot ?yi_NoLot ?yt_NoLot ?yb_NoTable ?yi_NoTable ?yt_NoTable ?yb_NoUnits ?yi_NoUnits ?yt_NoUnits ?yb_TooMany ?yi_TooMany ?yt_TooMany ?es_NoLot_NoLot ?es_NoLot_SpeakError ?es_NoLot_NoTable ?es_NoLot_NoUnits ?es_NoLot_TooMany ?es_NoTable_NoTable ?es_NoTable_SpeakError ?es_NoTable_NoLot ?es_NoTable_NoUnits ?es_NoTable_TooMany ?et_NoTable_ValueError ?a__law_cell ?l__law_cell ?c__law_cell ?k__law_cell ?a__law_mixed ?l__law_mixed ?c__law_mixed ?k__law_mixed ?a_is_whole ?l_is_whole ?c_is_whole ?k_is_whole ?a_is_row ?l_is_row ?c_is_row ?k_is_row ?a_NoTable___init__ ?i_NoTable___init__ ?l_NoTable___init__ ?c_NoTable___init__ ?k_NoTable___init__ ?a_need_rows ?l_need_rows ?c_need_rows ?k_need_rows ?a_Looks___init__ ?i_Looks___init__ ?l_Looks___init__ ?c_Looks___init__ ?k_Looks___init__ ?a_Looks_word_at ?i_Looks_word_at ?l_Looks_word_at ?c_Looks_word_at ?k_Looks_word_at ?a_Looks_need_lot ?i_Looks_need_lot ?l_Looks_need_lot ?c_Looks_need_lot ?k_Looks_need_lot ?a_sets_of ?l_sets_of ?c_sets_of ?k_sets_of ?a_Looks_endings ?i_Looks_endings ?l_Looks_endings ?c_Looks_endings ?k_Looks_endings ?a_divisor ?l_divisor ?c_divisor ?k_divisor ?a_share ?l_share ?c_share ?k_share ?a_Looks_let_by ?i_Looks_let_by ?l_Looks_let_by ?c_Looks_let_by ?k_Looks_let_by ?a_Looks_looked_at ?i_Looks_looked_at ?l_Looks_looked_at ?c_Looks_looked_at ?k_Looks_looked_at ?a__law_rows ?l__law_rows ?c__law_rows ?k__law_rows ?a__law_odd ?l__law_odd ?c__law_odd ?k__law_odd ?a__law_is_whole ?l__law_is_whole ?c__law_is_whole ?k__law_is_whole ?a__law_good ?l__law_good ?c__law_good ?k__law_good ?a__law_due ?l__law_due ?c__law_due ?k__law_due ?a__law_told ?l__law_told ?c__law_told ?k__law_told ?a__law_no_lot ?l__law_no_lot ?c__law_no_lot ?k__law_no_lot ?a__law_lots ?l__law_lots ?c__law_lots ?k__law_lots ?a_law ?l_law ?c_law ?k_law) hmg
    (case z_n_len => k_is)
    (case z_n_bool => k_is)
    (case z_n_int => k_is)
    (case z_n_isinstance => k_is)
    (case z_n_tuple => k_is)
    (case z_g_MOST_WARES => k_is)
    (case y_g_MOST_WARES => exact ⟨_, rfl⟩)
    (case aC_SpeakError => k_is)
    (case bi0_SpeakError => k_is)
    (case bi1_SpeakError => k_is)
    (case bi2_SpeakError => k_is)
    (case aC_NoTable => k_is)
    (case ox_NoTable => first | exact ⟨_, _, _, _, _, _, _, _, _, _, _, _, _, _, _, by k_is, by first | rfl | decide +kernel | k_is⟩ | exact ⟨_, _, _, _, _, _, _, _, _, _, _, _, _, _, _, rfl, by first | rfl | decide +kernel⟩)
    (case o0_NoTable => k_is)
    (case o1_NoTable => k_is)
    (case o2_NoTable => k_is)
    (case o3_NoTable => k_is)
    (case na_NoTable_row => k_is)
    (case z_n_enumerate => k_is)
    (case z_n_list => k_is)
    (case aC_Looks => k_is)
    (case pg_Looks => k_is)
    (case hd_Looks => k_is)
    (case po_Looks => k_is)
    (case sa_Looks => k_is)
    (case mk_Looks => k_is)
    (case kc_Looks => k_is)
    (case na_Looks_looks => k_is)
    (case aC_NoLot => k_is)
    (case xx_NoLot => k_exc)
    (case xk_NoLot => k_is)
    (case xb_NoLot => k_is)
    (case xt_NoLot => k_is)
    (case z_n_range => k_is)
    (case z_n_sorted => k_is)
    (case z_n_abs => k_is)
    (case z_n_sum => k_is)
    (case z_n_min => k_is)
    (case z_n_ValueError => k_is)
    (case aC_NoUnits => k_is)
    (case aC_TooMany => k_is)
    (case yb_SpeakError => k_is)
    (case yi_SpeakError => k_is)
    (case yt_SpeakError => k_is)
    (case z0_NoTable => k_is)
    (case z1_NoTable => k_is)
    (case z2_NoTable => k_is)
    (case z3_NoTable => k_is)
    (case z4_NoTable => k_is)
    (case z5_NoTable => k_is)
    (case z6_NoTable => k_is)
    (case z7_NoTable => k_is)
    (case z_n_str => k_is)
    (case z_n_max => k_is)
    (case z0_NoLot => k_is)
    (case z1_NoLot => k_is)
    (case z2_NoLot => k_is)
    (case z3_NoLot => k_is)
    (case z4_NoLot => k_is)
    (case z5_NoLot => k_is)
    (case z6_NoLot => k_is)
    (case z7_NoLot => k_is)
    (case yb_NoLot => k_is)
    (case yi_NoLot => k_is)
    (case yt_NoLot => k_is)
    (case yb_NoTable => k_is)
    (case yi_NoTable => k_is)
    (case yt_NoTable => k_is)
    (case yb_NoUnits => k_is)
    (case yi_NoUnits => k_is)
    (case yt_NoUnits => k_is)
    (case yb_TooMany => k_is)
    (case yi_TooMany => k_is)
    (case yt_TooMany => k_is)
    (case es_NoLot_NoLot => first | rfl | k_is)
    (case es_NoLot_SpeakError => first | rfl | k_is)
    (case es_NoLot_NoTable => first | rfl | k_is)
    (case es_NoLot_NoUnits => first | rfl | k_is)
    (case es_NoLot_TooMany => first | rfl | k_is)
    (case es_NoTable_NoTable => first | rfl | k_is)
    (case es_NoTable_SpeakError => first | rfl | k_is)
    (case es_NoTable_NoLot => first | rfl | k_is)
    (case es_NoTable_NoUnits => first | rfl | k_is)
    (case es_NoTable_TooMany => first | rfl | k_is)
    (case et_NoTable_ValueError => first | rfl | k_is)
    (case a__law_cell => k_is)
    (case l__law_cell => k_is)
    (case c__law_cell => k_is)
    (case k__law_cell => k_is)
    (case a__law_mixed => k_is)
    (case l__law_mixed => k_is)
    (case c__law_mixed => k_is)
    (case k__law_mixed => k_is)
    (case a_is_whole => k_is)
    (case l_is_whole => k_is)
    (case c_is_whole => k_is)
    (case k_is_whole => k_is)
    (case a_is_row => k_is)
    (case l_is_row => k_is)
    (case c_is_row => k_is)
    (case k_is_row => k_is)
    (case a_NoTable___init__ => k_is)
    (case i_NoTable___init__ => k_is)
    (case l_NoTable___init__ => k_is)
    (case c_NoTable___init__ => k_is)
    (case k_NoTable___init__ => k_is)
    (case a_need_rows => k_is)
    (case l_need_rows => k_is)
    (case c_need_rows => k_is)
    (case k_need_rows => k_is)
    (case a_Looks___init__ => k_is)
    (case i_Looks___init__ => k_is)
    (case l_Looks___init__ => k_is)
    (case c_Looks___init__ => k_is)
    (case k_Looks___init__ => k_is)
    (case a_Looks_word_at => k_is)
    (case i_Looks_word_at => k_is)
    (case l_Looks_word_at => k_is)
    (case c_Looks_word_at => k_is)
    (case k_Looks_word_at => k_is)
    (case a_Looks_need_lot => k_is)
    (case i_Looks_need_lot => k_is)
    (case l_Looks_need_lot => k_is)
    (case c_Looks_need_lot => k_is)
    (case k_Looks_need_lot => k_is)
    (case a_sets_of => k_is)
    (case l_sets_of => k_is)
    (case c_sets_of => k_is)
    (case k_sets_of => k_is)
    (case a_Looks_endings => k_is)
    (case i_Looks_endings => k_is)
    (case l_Looks_endings => k_is)
    (case c_Looks_endings => k_is)
    (case k_Looks_endings => k_is)
    (case a_divisor => k_is)
    (case l_divisor => k_is)
    (case c_divisor => k_is)
    (case k_divisor => k_is)
    (case a_share => k_is)
    (case l_share => k_is)
    (case c_share => k_is)
    (case k_share => k_is)
    (case a_Looks_let_by => k_is)
    (case i_Looks_let_by => k_is)
    (case l_Looks_let_by => k_is)
    (case c_Looks_let_by => k_is)
    (case k_Looks_let_by => k_is)
    (case a_Looks_looked_at => k_is)
    (case i_Looks_looked_at => k_is)
    (case l_Looks_looked_at => k_is)
    (case c_Looks_looked_at => k_is)
    (case k_Looks_looked_at => k_is)
    (case a__law_rows => k_is)
    (case l__law_rows => k_is)
    (case c__law_rows => k_is)
    (case k__law_rows => k_is)
    (case a__law_odd => k_is)
    (case l__law_odd => k_is)
    (case c__law_odd => k_is)
    (case k__law_odd => k_is)
    (case a__law_is_whole => k_is)
    (case l__law_is_whole => k_is)
    (case c__law_is_whole => k_is)
    (case k__law_is_whole => k_is)
    (case a__law_good => k_is)
    (case l__law_good => k_is)
    (case c__law_good => k_is)
    (case k__law_good => k_is)
    (case a__law_due => k_is)
    (case l__law_due => k_is)
    (case c__law_due => k_is)
    (case k__law_due => k_is)
    (case a__law_told => k_is)
    (case l__law_told => k_is)
    (case c__law_told => k_is)
    (case k__law_told => k_is)
    (case a__law_no_lot => k_is)
    (case l__law_no_lot => k_is)
    (case c__law_no_lot => k_is)
    (case k__law_no_lot => k_is)
    (case a__law_lots => k_is)
    (case l__law_lots => k_is)
    (case c__law_lots => k_is)
    (case k__law_lots => k_is)
    (case a_law => k_is)
    (case l_law => k_is)
    (case c_law => k_is)
    (case k_law => k_is)
#print axioms PySem.Challenge.cw_fewspeak_k82_tables_refused_holds

