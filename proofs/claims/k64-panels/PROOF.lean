import PyProof.Rows.All
import Wide.All
import OpenK.AllK
import Wide.FinOn
import HandS.ForMost
import HandS.Exc
import HandS.TryOnly
import HandS.ExcOwn
import HandS.WordsExc
import HandS.Wide
import HandS.IsInst
import HandS.EndBits
import HandS.Conv
import HandS.Style
import HandS.TupAny
import HandS.Evl
import HandS.Walk
import HandS.ExcIs
import HandS.ExcInit
import HandS.ExcField
import HandS.ExcValue
import HandS.SetKeys
import KE.KExcIs
import HandS.Defaults
import HandS.CallSlots
import HandS.More
import PyProof.StrBlock2
import HandS.Strs
import HandS.SetFor
import HandS.Iter
import PySem.Challenge.RW_fewspeak_k64_panels_and_counts
set_option Elab.async false
set_option linter.all false
set_option maxRecDepth 100000
set_option maxHeartbeats 4000000
namespace Kt
open PySem PySem.Spec PyProof.Rows L2
/-- a def of the top, as it stands behind the top -/
structure DefAt (K : PySem.W.Frag) (mg : Str → Option Value) (x : Str) (st : Stmt) (ps : List Str) : Prop where
  ex : ∃ (f : Addr) (fd : FuncData), Fun K x x st f fd ∧ mg x = some (.ref f) ∧ Binds K fd ps []
/-- a method of the class at C -/
structure MethAt (K : PySem.W.Frag) (C : Addr) (m qual : Str) (st : Stmt) (ps : List Str) : Prop where
  ex : ∃ (f : Addr) (fd : FuncData), Fun K m qual st f fd ∧ Meth K C m f ∧ Binds K fd ps []
structure InitAt (K : PySem.W.Frag) (C : Addr) (qual : Str) (st : Stmt) (ps : List Str) : Prop where
  ex : ∃ (f : Addr) (fd : FuncData), Fun K "__init__" qual st f fd ∧ Mk K C f ∧ Binds K fd ps []
/-- the class that a name of the module holds -/
def cA (mg : Str → Option Value) (x : Str) : Addr := match mg x with | some (.ref a) => a | _ => 0
theorem cA_of {mg : Str → Option Value} {x : Str} {a : Addr} (h : mg x = some (.ref a)) : cA mg x = a := by unfold cA; rw [h]
/-- a def that may be called by its name; a method of the class at C; a class that may be made -/
structure Cal (P : Program) (w : World) (K : PySem.W.Frag) (mg : Str → Option Value) (base : Heap) (k : Nat) (x : Str) (sp : Sp) : Prop where
  ex : ∃ (f : Addr) (fd : FuncData) (ps : List Str), FnOk P w K mg base CX0 k f fd ps sp ∧ mg x = some (.ref f) ∧ PySem.W.keepIn K (.ref f) = true ∧ Binds K fd ps []
structure Met (P : Program) (w : World) (K : PySem.W.Frag) (mg : Str → Option Value) (base : Heap) (k : Nat) (C : Addr) (m : Str) (sp : Sp) : Prop where
  ex : ∃ (f : Addr) (fd : FuncData) (ps : List Str), Cls K C ∧ Meth K C m f ∧ FnOk P w K mg base CX0 k f fd ps sp ∧ Binds K fd ps []
structure Mak (P : Program) (w : World) (K : PySem.W.Frag) (mg : Str → Option Value) (base : Heap) (k : Nat) (x : Str) (C : Addr) (sp : Sp) : Prop where
  ex : ∃ (f : Addr) (fd : FuncData) (ps : List Str), Mk K C f ∧ FnOk P w K mg base CX0 k f fd ps sp ∧ mg x = some (.ref C) ∧ Binds K fd ps []
section
variable {P : Program} {w : World} {K : PySem.W.Frag} {mg : Str → Option Value} {base : Heap}
theorem DefAt.cal {x : Str} {st : Stmt} {N ps : List Str} {k : Nat} {sp : Sp} (d : DefAt K mg x st ps) (S : FnScope N ps (defScope st)) (len : ∀ vs H Q E, sp vs H Q E → vs.length = ps.length)
    (hbody : ∀ (f : Addr) (cdv : Value) (A : Around) (outer : List Env) (s : Shared) (H : Hp) (vs : List V) (Q : VK) (E : XK), Room k (A.deeper (envOfC x (defScope st) s.heap.objs.size f cdv)) → sp vs H Q E →
      ∃ t, PSs (cxOf CX0 P w K mg base N x (defScope st) f cdv A outer s H E).nox (defBody st) t ∧ t { nx := fun _ H' => Q .non H', rt := Q } (start N vs) H) : Cal P w K mg base (k + 1) x sp := by
  obtain ⟨f, fd, F, hm, b⟩ := d.ex
  exact ⟨f, fd, ps, F.ok S len (hbody f), hm, F.kp, b⟩
theorem MethAt.met {C : Addr} {m qual : Str} {st : Stmt} {N ps : List Str} {k : Nat} {sp : Sp} (c : Cls K C) (d : MethAt K C m qual st ps) (S : FnScope N ps (defScope st)) (len : ∀ vs H Q E, sp vs H Q E → vs.length = ps.length)
    (hbody : ∀ (f : Addr) (cdv : Value) (A : Around) (outer : List Env) (s : Shared) (H : Hp) (vs : List V) (Q : VK) (E : XK), Room k (A.deeper (envOfC qual (defScope st) s.heap.objs.size f cdv)) → sp vs H Q E →
      ∃ t, PSs (cxOf CX0 P w K mg base N qual (defScope st) f cdv A outer s H E).nox (defBody st) t ∧ t { nx := fun _ H' => Q .non H', rt := Q } (start N vs) H) : Met P w K mg base (k + 1) C m sp := by
  obtain ⟨f, fd, F, hm, b⟩ := d.ex
  exact ⟨f, fd, ps, c, hm, F.ok S len (hbody f), b⟩
theorem InitAt.mak {x : Str} {C : Addr} {qual : Str} {st : Stmt} {N ps : List Str} {k : Nat} {sp : Sp} (hx : mg x = some (.ref C)) (d : InitAt K C qual st ps) (S : FnScope N ps (defScope st)) (len : ∀ vs H Q E, sp vs H Q E → vs.length = ps.length)
    (hbody : ∀ (f : Addr) (cdv : Value) (A : Around) (outer : List Env) (s : Shared) (H : Hp) (vs : List V) (Q : VK) (E : XK), Room k (A.deeper (envOfC qual (defScope st) s.heap.objs.size f cdv)) → sp vs H Q E →
      ∃ t, PSs (cxOf CX0 P w K mg base N qual (defScope st) f cdv A outer s H E).nox (defBody st) t ∧ t { nx := fun _ H' => Q .non H', rt := Q } (start N vs) H) : Mak P w K mg base (k + 1) x C sp := by
  obtain ⟨f, fd, F, hm, b⟩ := d.ex
  exact ⟨f, fd, ps, hm, F.ok S len (hbody f), hx, b⟩
/-- a def that may raise -/
structure CalX (P : Program) (w : World) (K : PySem.W.Frag) (mg : Str → Option Value) (base : Heap) (k : Nat) (x : Str) (sp : Sp) : Prop where
  ex : ∃ (f : Addr) (fd : FuncData) (ps : List Str), FnOk P w K mg base (L2.CX P w) k f fd ps sp ∧ mg x = some (.ref f) ∧ PySem.W.keepIn K (.ref f) = true ∧ Binds K fd ps []
theorem DefAt.calX {x : Str} {st : Stmt} {N ps : List Str} {k : Nat} {sp : Sp} (d : DefAt K mg x st ps) (S : FnScope N ps (defScope st)) (len : ∀ vs H Q E, sp vs H Q E → vs.length = ps.length)
    (hbody : ∀ (f : Addr) (cdv : Value) (A : Around) (outer : List Env) (s : Shared) (H : Hp) (vs : List V) (Q : VK) (E : XK), Room k (A.deeper (envOfC x (defScope st) s.heap.objs.size f cdv)) → sp vs H Q E →
      ∃ t, PSs (cxOf (L2.CX P w) P w K mg base N x (defScope st) f cdv A outer s H E) (defBody st) t ∧ t { nx := fun _ H' => Q .non H', rt := Q } (start N vs) H) : CalX P w K mg base (k + 1) x sp := by
  obtain ⟨f, fd, F, hm, b⟩ := d.ex
  exact ⟨f, fd, ps, F.okX S len (hbody f), hm, F.kp, b⟩
end
section
variable {X : Cx} {k j : Nat} {C : Addr} {x m : Str} {sp : Sp} {p pos apos : Pos} {e o : Expr} {es : List Expr} {ta : TE} {t : TA}
theorem pe_c (c : Cal X.prog X.w X.K X.mg X.base k x sp) (hr : Room j X.A) (hk : k ≤ j) (hg : Gl X x) (ha : PA X (e :: es) t)
    (hdb : (x == ("__debug__" : Str)) = false := by decide) (he : starEach (e :: es) X.env = (false, eval e X.env) :: starEach es X.env := by rfl) (hpl : (backTo pos (starEach es X.env)).any (·.1) = false := by rfl) :
    PE X (.Call (.Name x p) (e :: es) [] pos) (tCall sp [] E0 t) := by
  obtain ⟨f, fd, ps, F, hm, kp, b⟩ := c.ex
  exact pe_call F (hr.mono hk) hg hm kp b .nil pass0 ha hdb he hpl
theorem pe_c0 (c : Cal X.prog X.w X.K X.mg X.base k x sp) (hr : Room j X.A) (hk : k ≤ j) (hg : Gl X x)
    (hdb : (x == ("__debug__" : Str)) = false := by decide) :
    PE X (.Call (.Name x p) [] [] pos) (tCall sp [] E0 tNil) := by
  obtain ⟨f, fd, ps, F, hm, kp, b⟩ := c.ex
  exact pe_call0 F (hr.mono hk) hg hm kp b .nil pass0 hdb
theorem pe_mk (c : Mak X.prog X.w X.K X.mg X.base k x C sp) (hr : Room j X.A) (hk : k + 1 ≤ j) (hg : Gl X x) (ha : PA X (e :: es) t)
    (hdb : (x == ("__debug__" : Str)) = false := by decide) (he : starEach (e :: es) X.env = (false, eval e X.env) :: starEach es X.env := by rfl) (hpl : (backTo pos (starEach es X.env)).any (·.1) = false := by rfl) :
    PE X (.Call (.Name x p) (e :: es) [] pos) (tMake C sp [] E0 t) := by
  obtain ⟨f, fd, ps, M, F, hm, b⟩ := c.ex
  exact pe_make M F (hr.mono hk) hg hm b .nil pass0 ha hdb he hpl
theorem pe_mt {pl : Sem Bool} (c : Met X.prog X.w X.K X.mg X.base k C m sp) (hr : Room j X.A) (hk : k ≤ j) (he : PE X o ta) (ha : PA X (e :: es) t)
    (hst : starEach (e :: es) X.env = (false, eval e X.env) :: starEach es X.env := by rfl) (hpl : (backTo pos (starEach es X.env)).any (·.1) = false := by rfl)
    (ht : eval (.Call (.Attribute o m apos) (e :: es) [] pos) X.env = (do
      let ov ← eval o X.env
      standAt apos.atName
      let (f, first) ← holding [ov] (getMethod ov m pl)
      callWith pos f first (backTo pos (starEach (e :: es) X.env)) (backToKw pos (keywordEach [] X.env))) := by rfl) :
    PE X (.Call (.Attribute o m apos) (e :: es) [] pos) (tMeth C m sp [] E0 ta t) := by
  obtain ⟨f, fd, ps, hc, hm, F, b⟩ := c.ex
  exact pe_meth (pl := pl) he hc hm F (hr.mono hk) b .nil pass0 ha hst hpl ht
theorem pe_mt0 {pl : Sem Bool} (c : Met X.prog X.w X.K X.mg X.base k C m sp) (hr : Room j X.A) (hk : k ≤ j) (he : PE X o ta)
    (ht : eval (.Call (.Attribute o m apos) [] [] pos) X.env = (do
      let ov ← eval o X.env
      standAt apos.atName
      let (f, first) ← holding [ov] (getMethod ov m pl)
      callWith pos f first (backTo pos (starEach [] X.env)) (backToKw pos (keywordEach [] X.env))) := by rfl) :
    PE X (.Call (.Attribute o m apos) [] [] pos) (tMeth C m sp [] E0 ta tNil) := by
  obtain ⟨f, fd, ps, hc, hm, F, b⟩ := c.ex
  exact pe_meth0 (pl := pl) he hc hm F (hr.mono hk) b .nil pass0 ht
/-- a call of a def that may raise, where nothing is raised -/
theorem pe_x0 (c : CalX X.prog X.w X.K X.mg X.base k x sp) (hr : Room j X.A) (hk : k ≤ j) (hg : Gl X x) (ha : PA X (e :: es) t)
    (hdb : (x == ("__debug__" : Str)) = false := by decide) (he : starEach (e :: es) X.env = (false, eval e X.env) :: starEach es X.env := by rfl) (hpl : (backTo pos (starEach es X.env)).any (·.1) = false := by rfl) :
    PE X (.Call (.Name x p) (e :: es) [] pos) (tCall sp [] E0 t) := by
  obtain ⟨f, fd, ps, F, hm, kp, b⟩ := c.ex
  exact pe_call F (hr.mono hk) hg hm kp b .nil passL ha hdb he hpl
end
/-- a built-in class as a value -/
theorem pe_ty {X : Cx} {x : Str} {pos : Pos} (n : String) (hg : Gl X x) (hm : X.mg x = none) (hv : bootBuiltins x = some (.type n)) (hn : x ≠ "__name__" := by decide) (hdb : (x == ("__debug__" : Str)) = false := by decide) : PE X (.Name x pos) (tC (.ty n)) :=
  pe_bltn hg hm hv rfl hn hdb
/-- a constant of the module -/
theorem pe_gc {X : Cx} {x : Str} {pos : Pos} {v : V} (hg : Gl X x) (h : ∃ u, X.mg x = some u ∧ RelV v u) (hdb : (x == ("__debug__" : Str)) = false := by decide) : PE X (.Name x pos) (tC v) := by
  obtain ⟨u, h1, h2⟩ := h
  exact pe_glob hg h1 h2 hdb
/-! ### heaps -/
theorem hp_new {H : Hp} {a b : Addr} {o o' : HO} (h : H a = none) (h' : H b = some o') : upd H a o b = some o' := by
  rw [upd_ne (ne_of_none h' h)]; exact h'
theorem hp_same {H H' : Hp} {b : Addr} {o : HO} (e : Same H H') (h : H b = some o) : H' b = some o := e b o h
theorem same_upd {H H' : Hp} {a : Addr} {o : HO} (e : Same H H') (h : H' a = none) : Same H (upd H' a o) := fun b o' q => hp_new h (e b o' q)
theorem same_new {H : Hp} {a : Addr} {o : HO} (h : H a = none) : Same H (upd H a o) := fun b o' q => hp_new h q
theorem cxOf_K {CX : CXT} {P : Program} {w : World} {K : PySem.W.Frag} {mg : Str → Option Value} {base : Heap} {N : List Str} {qual : Str} {scope : Scope} {f : Addr} {cd : Value} {A : Around} {outer : List Env} {s : Shared} {H : Hp} {E : XK} : (cxOf CX P w K mg base N qual scope f cd A outer s H E).nox.K = K := rfl
theorem cxOf_K' {CX : CXT} {P : Program} {w : World} {K : PySem.W.Frag} {mg : Str → Option Value} {base : Heap} {N : List Str} {qual : Str} {scope : Scope} {f : Addr} {cd : Value} {A : Around} {outer : List Env} {s : Shared} {H : Hp} {E : XK} : (cxOf CX P w K mg base N qual scope f cd A outer s H E).K = K := rfl
theorem cxOf_mg {CX : CXT} {P : Program} {w : World} {K : PySem.W.Frag} {mg : Str → Option Value} {base : Heap} {N : List Str} {qual : Str} {scope : Scope} {f : Addr} {cd : Value} {A : Around} {outer : List Env} {s : Shared} {H : Hp} {E : XK} : (cxOf CX P w K mg base N qual scope f cd A outer s H E).nox.mg = mg := rfl
theorem cxOf_mg' {CX : CXT} {P : Program} {w : World} {K : PySem.W.Frag} {mg : Str → Option Value} {base : Heap} {N : List Str} {qual : Str} {scope : Scope} {f : Addr} {cd : Value} {A : Around} {outer : List Env} {s : Shared} {H : Hp} {E : XK} : (cxOf CX P w K mg base N qual scope f cd A outer s H E).mg = mg := rfl
/-- a new tuple, a new list: all that stood stands -/
def NewT (H : Hp) (xs : List V) (Q : VK) : Prop := ∀ p H', H p = none → Same H H' → H' p = some (.tup xs) → Q (.ref p) H'
def NewL (H : Hp) (xs : List V) (Q : VK) : Prop := ∀ p H', H p = none → Same H H' → H' p = some (.lst xs) → Q (.ref p) H'
theorem NewT.at {H : Hp} {xs : List V} {Q : VK} (q : NewT H xs Q) (p : Addr) (h : H p = none) : Q (.ref p) (upd H p (.tup xs)) := q p _ h (same_new h) upd_same
theorem NewL.at {H : Hp} {xs : List V} {Q : VK} (q : NewL H xs Q) (p : Addr) (h : H p = none) : Q (.ref p) (upd H p (.lst xs)) := q p _ h (same_new h) upd_same
theorem NewT.of {H H' : Hp} {xs : List V} {Q : VK} (q : NewT H xs Q) (e : Same H H') : NewT H' xs Q := fun p H2 h s x => q p H2 (e.free h) (e.trans s) x
theorem NewL.of {H H' : Hp} {xs : List V} {Q : VK} (q : NewL H xs Q) (e : Same H H') : NewL H' xs Q := fun p H2 h s x => q p H2 (e.free h) (e.trans s) x
/-! ### readings by name -/
section
variable {X : Cx}
def aAdd (K : PySem.W.Frag) : R2 := fun x y H Q => rI0 (fun i j => .int (i + j)) x y H Q ∨ (∃ i j, x = .str i ∧ y = .str j ∧ i.length + j.length ≤ sizeLine ∧ Q (.str (i ++ j)) H) ∨ rCat x y H Q ∨ rCatA K x y H Q
theorem op_addA : OpR X (binaryOp .Add) (aAdd X.K) := op_add.or (op_add_str.or (op_cat.or op_catA))
def aMul : R2 := fun x y H Q => rI CMulW (fun i j => .int (i * j)) x y H Q ∨ rRep x y H Q
theorem op_mulA : OpR X (binaryOp .Mult) aMul := op_mulW.or op_rep
def aEq (K : PySem.W.Frag) : R2 := fun x y H Q => rEq x y H Q ∨ rEqD K x y H Q
theorem op_eqA {k : Nat} (hr : Room k X.A) : OpR X (compareOp .Eq) (aEq X.K) := op_eq.or (op_eqD hr.units)
def aNe (K : PySem.W.Frag) : R2 := fun x y H Q => rNe x y H Q ∨ rNeD K x y H Q
theorem op_neA {k : Nat} (hr : Room k X.A) : OpR X (compareOp .NotEq) (aNe X.K) := op_ne.or (op_neD hr.units)
def aLe : R2 := fun x y H Q => rI0 (fun i j => .bl (decide (i ≤ j))) x y H Q ∨ ∃ i j, x = .str i ∧ y = .str j ∧ Q (.bl (!decide (j.cps.toList < i.cps.toList))) H
theorem op_leA : OpR X (compareOp .LtE) aLe := op_le.or op_le_str
def aLt : R2 := fun x y H Q => rI0 (fun i j => .bl (decide (i < j))) x y H Q ∨ ∃ i j, x = .str i ∧ y = .str j ∧ Q (.bl (decide (i.cps.toList < j.cps.toList))) H
theorem op_ltA : OpR X (compareOp .Lt) aLt := op_lt.or op_lt_str
def aIn (K : PySem.W.Frag) : R2 := fun x y H Q => (∃ (c : Nat) (z : Str), x = .str ⟨#[c]⟩ ∧ y = .str z ∧ Q (.bl (decide (c ∈ z.cps.toList))) H) ∨ rIn K false x y H Q
theorem op_inA : OpR X (compareOp .In) (aIn X.K) := op_in_sign.or op_in_seq
def aNotIn (K : PySem.W.Frag) : R2 := fun x y H Q => (∃ (c : Nat) (z : Str), x = .str ⟨#[c]⟩ ∧ y = .str z ∧ Q (.bl (!decide (c ∈ z.cps.toList))) H) ∨ rIn K true x y H Q
theorem op_notInA : OpR X (compareOp .NotIn) (aNotIn X.K) := op_notIn_sign.or op_notIn_seq
def aLen (K : PySem.W.Frag) : List V → Hp → VK → Prop := fun xs H Q => (∃ p ys, xs = [.ref p] ∧ (SqL K H p ys ∨ SqT K H p ys) ∧ Q (.int ys.length) H) ∨ (∃ z, xs = [.str z] ∧ z.length ≤ sizeLine ∧ Q (.int z.length) H) ∨ (∃ a kvs, xs = [V.ref a] ∧ H a = some (.dK kvs) ∧ Q (.int kvs.length) H)
theorem call_lenA : CallR X (.builtin "len") (aLen X.K) := call_len_seq.or (call_len_str.or call_lenD)
def aAbs : List V → Hp → VK → Prop := fun xs H Q => ∃ i, xs = [.int i] ∧ Q (.int (if i < 0 then -i else i)) H
theorem call_absA : CallR X (.builtin "abs") aAbs := call_abs
def aMax2 : List V → Hp → VK → Prop := fun xs H Q => ∃ i j, xs = [.int i, .int j] ∧ Q (.int (if j > i then j else i)) H
theorem call_max2A (hc : X.calm = true) : CallR X (.builtin "max") aMax2 := call_max2 hc
def aMin2 : List V → Hp → VK → Prop := fun xs H Q => ∃ i j, xs = [.int i, .int j] ∧ Q (.int (if j < i then j else i)) H
theorem call_min2A (hc : X.calm = true) : CallR X (.builtin "min") aMin2 := call_min2 hc
def aInt1 : List V → Hp → VK → Prop := fun xs H Q => (∃ i, xs = [.int i] ∧ Q (.int i) H) ∨ ∃ k, xs = [.bl k] ∧ Q (.int (if k then 1 else 0)) H
theorem call_int1A : CallR X (.type "int") aInt1 := call_int1
def aStr1 : List V → Hp → VK → Prop := fun xs H Q => ∃ i, xs = [.int i] ∧ i.natAbs.log2 < 1920 ∧ Q (.str (toString i)) H
theorem call_str1A : CallR X (.type "str") aStr1 := call_str_int
def aList1 (K : PySem.W.Frag) : List V → Hp → VK → Prop := fun xs H Q => ∃ p ys, xs = [.ref p] ∧ (SqL K H p ys ∨ SqT K H p ys) ∧ ∀ l, H l = none → Q (.ref l) (upd H l (.lst ys))
theorem call_list1A : CallR X (.type "list") (aList1 X.K) := call_list_of
def aTuple1 (K : PySem.W.Frag) : List V → Hp → VK → Prop := fun xs H Q => ∃ p ys, xs = [.ref p] ∧ ((SqL K H p ys ∧ ∀ l, H l = none → Q (.ref l) (upd H l (.tup ys))) ∨ (SqT K H p ys ∧ Q (.ref p) H))
theorem call_tuple1A : CallR X (.type "tuple") (aTuple1 X.K) := call_tuple_of
def aTru (K : PySem.W.Frag) (ta : TE) : TT := fun σ H Q => ta σ H fun x H' => ∃ k, TruV K x H' k ∧ Q k H'
theorem pt_tru {a : Expr} {ta : TE} (ha : PE X a ta) (he : ∀ whole, isTrue a X.env whole = (do let v ← whole; standAt a.pos; holding [v] (truthy v))) : PT X a (aTru X.K ta) := pt_truth ha he
def aIsN : R2 := fun x y H Q => y = .non ∧ Q (.bl (decide (x = .non))) H
theorem op_isNA : OpR X (compareOp .Is) aIsN := op_isN
def aNotN : R2 := fun x y H Q => y = .non ∧ Q (.bl (!decide (x = .non))) H
theorem op_notNA : OpR X (compareOp .IsNot) aNotN := op_notN
end
/-! ### one step of a reading -/
section
variable {K : PySem.W.Frag} {σ : L2.St} {H : Hp} {N B C : L2.St → Hp → Prop} {R : VK} {t u : TS} {c d : TT} {ta tb te tc : TE} {tr : TA} {Q : VK} {g : TG} {i j : Nat} {v x y : V} {r r' : R2}
theorem L_seq (h : t ⟨u ⟨N, R, B, C⟩, R, B, C⟩ σ H) : tSeq t u ⟨N, R, B, C⟩ σ H := h
theorem L_next (h : N σ H) : tNext ⟨N, R, B, C⟩ σ H := h
theorem L_brk (h : B σ H) : tBreak ⟨N, R, B, C⟩ σ H := h
theorem L_cont (h : C σ H) : tCont ⟨N, R, B, C⟩ σ H := h
theorem L_ret (h : te σ H R) : tRet te ⟨N, R, B, C⟩ σ H := h
theorem L_retN (h : R .non H) : tRetN ⟨N, R, B, C⟩ σ H := h
theorem L_drop (h : te σ H fun _ H1 => N σ H1) : tDrop te ⟨N, R, B, C⟩ σ H := h
theorem L_asg (h : te σ H fun x H1 => g x σ H1 N) : tAsg te g ⟨N, R, B, C⟩ σ H := h
theorem L_gname {Q : L2.St → Hp → Prop} (h : Q (σ.set i (some v)) H) : gName i v σ H Q := h
theorem L_aug {ti : TIp} (hx : σ[i]? = some (some x)) (h : te σ H fun y H1 => ti x y H1 fun z H2 => N (σ.set i (some z)) H2) : tAug i te ti ⟨N, R, B, C⟩ σ H := ⟨x, hx, h⟩
theorem L_ipI {f : Int → Int → Int} {a b : Int} (h : Q (.int (f a b)) H) : ipI f (.int a) (.int b) H Q := ⟨a, b, rfl, rfl, h⟩
theorem L_ifS (h : c σ H fun b H1 => if b = true then t ⟨N, R, B, C⟩ σ H1 else u ⟨N, R, B, C⟩ σ H1) : tIfS c t u ⟨N, R, B, C⟩ σ H := h
theorem L_par (h : tr σ H fun vs H1 => ∃ v w, vs = [v, w] ∧ N ((σ.set i (some v)).set j (some w)) H1) : tPar i j tr ⟨N, R, B, C⟩ σ H := h
theorem L_par3 {l : Nat} (h : tr σ H fun vs H1 => ∃ u v w, vs = [u, v, w] ∧ N (((σ.set i (some u)).set j (some v)).set l (some w)) H1) : tPar3 i j l tr ⟨N, R, B, C⟩ σ H := h
theorem L_vs2 {Q : V → V → Prop} (h : Q x y) : ∃ v w, [x, y] = [v, w] ∧ Q v w := ⟨x, y, rfl, h⟩
theorem L_vs3 {z : V} {Q : V → V → V → Prop} (h : Q x y z) : ∃ u v w, [x, y, z] = [u, v, w] ∧ Q u v w := ⟨x, y, z, rfl, h⟩
theorem L_var (h : σ[i]? = some (some v)) (q : Q v H) : tVar i σ H Q := ⟨v, h, q⟩
theorem L_c (q : Q v H) : tC v σ H Q := q
theorem L_op (h : ta σ H fun x H1 => tb σ H1 fun y H2 => r x y H2 Q) : tOp r ta tb σ H Q := h
theorem L_un {r : V → Hp → VK → Prop} (h : ta σ H fun x H1 => r x H1 Q) : tUn r ta σ H Q := h
theorem L_rU {g : Int → V} {i : Int} (q : Q (g i) H) : rU g (.int i) H Q := ⟨i, rfl, q⟩
theorem L_I0 {g : Int → Int → V} {i j : Int} (q : Q (g i j) H) : rI0 g (.int i) (.int j) H Q := ⟨i, j, rfl, rfl, q⟩
theorem L_I {C : Int → Int → Prop} {g : Int → Int → V} {i j : Int} (hc : C i j) (q : Q (g i j) H) : rI C g (.int i) (.int j) H Q := ⟨i, j, rfl, rfl, hc, q⟩
theorem L_addI {i j : Int} (q : Q (.int (i + j)) H) : aAdd K (.int i) (.int j) H Q := .inl ⟨i, j, rfl, rfl, q⟩
theorem L_addS {a b : Str} (hl : a.length + b.length ≤ sizeLine) (q : Q (.str (a ++ b)) H) : aAdd K (.str a) (.str b) H Q := .inr (.inl ⟨a, b, rfl, rfl, hl, q⟩)
theorem L_addL {a b : Addr} {xs ys : List V} (ha : H a = some (.lst xs)) (hb : H b = some (.lst ys)) (hl : xs.length + ys.length ≤ sizeLine) (q : ∀ p, H p = none → Q (.ref p) (upd H p (.lst (xs ++ ys)))) : aAdd K (.ref a) (.ref b) H Q := .inr (.inr (.inl ⟨a, b, xs, ys, rfl, rfl, ha, hb, hl, q⟩))
theorem L_mulI {i j : Int} (hc : CMulW i j) (q : Q (.int (i * j)) H) : aMul (.int i) (.int j) H Q := .inl ⟨i, j, rfl, rfl, hc, q⟩
theorem L_eqI {i j : Int} (q : Q (.bl (decide (i = j))) H) : aEq K (.int i) (.int j) H Q := .inl ⟨rfl, by rw [show decide (V.int i = V.int j) = decide (i = j) by simp]; exact q⟩
theorem L_eqS {i j : Str} (q : Q (.bl (decide (i = j))) H) : aEq K (.str i) (.str j) H Q := .inl ⟨rfl, by rw [show decide (V.str i = V.str j) = decide (i = j) by simp]; exact q⟩
theorem L_eqB {i j : Bool} (q : Q (.bl (decide (i = j))) H) : aEq K (.bl i) (.bl j) H Q := .inl ⟨rfl, by rw [show decide (V.bl i = V.bl j) = decide (i = j) by simp]; exact q⟩
theorem L_neI {i j : Int} (q : Q (.bl (!decide (i = j))) H) : aNe K (.int i) (.int j) H Q := .inl ⟨rfl, by rw [show decide (V.int i = V.int j) = decide (i = j) by simp]; exact q⟩
theorem L_neS {i j : Str} (q : Q (.bl (!decide (i = j))) H) : aNe K (.str i) (.str j) H Q := .inl ⟨rfl, by rw [show decide (V.str i = V.str j) = decide (i = j) by simp]; exact q⟩
theorem L_eqD {d e : PyData} (hx : Dp K H x d) (hy : Dp K H y e) (sd : SeqAt.shaped d = true) (se : SeqAt.shaped e = true) (q : Q (.bl (PyData.eqv d e)) H) : aEq K x y H Q := .inr ⟨d, e, hx, hy, sd, se, q⟩
theorem L_neD {d e : PyData} (hx : Dp K H x d) (hy : Dp K H y e) (sd : SeqAt.shaped d = true) (se : SeqAt.shaped e = true) (q : Q (.bl (!PyData.eqv d e)) H) : aNe K x y H Q := .inr ⟨d, e, hx, hy, sd, se, q⟩
theorem L_leI {i j : Int} (q : Q (.bl (decide (i ≤ j))) H) : aLe (.int i) (.int j) H Q := .inl ⟨i, j, rfl, rfl, q⟩
theorem L_leS {i j : Str} (q : Q (.bl (!decide (j.cps.toList < i.cps.toList))) H) : aLe (.str i) (.str j) H Q := .inr ⟨i, j, rfl, rfl, q⟩
theorem L_ltI {i j : Int} (q : Q (.bl (decide (i < j))) H) : aLt (.int i) (.int j) H Q := .inl ⟨i, j, rfl, rfl, q⟩
theorem L_isN (q : Q (.bl (decide (x = .non))) H) : aIsN x .non H Q := ⟨rfl, q⟩
theorem L_notN (q : Q (.bl (!decide (x = .non))) H) : aNotN x .non H Q := ⟨rfl, q⟩
theorem L_inC {a : Nat} {z : Str} (q : Q (.bl (decide (a ∈ z.cps.toList))) H) : aIn K (.str ⟨#[a]⟩) (.str z) H Q := .inl ⟨a, z, rfl, rfl, q⟩
theorem L_notInC {a : Nat} {z : Str} (q : Q (.bl (!decide (a ∈ z.cps.toList))) H) : aNotIn K (.str ⟨#[a]⟩) (.str z) H Q := .inl ⟨a, z, rfl, rfl, q⟩
theorem L_fld {f : Str} (h : ta σ H fun x H1 => ∃ a C dx fs v, x = .ref a ∧ H1 a = some (.ins C dx fs) ∧ Cls K C ∧ NoAttr K C f ∧ fs.lookup f = some v ∧ Q v H1) : tFld K ta f σ H Q := h
theorem L_fldv {a C dx : Addr} {fs : List (Str × V)} {f : Str} {Q : V → Prop} (h : H a = some (.ins C dx fs)) (cl : Cls K C) (n : NoAttr K C f) (l : fs.lookup f = some v) (q : Q v) :
    ∃ a' C dx fs v, V.ref a = V.ref a' ∧ H a' = some (.ins C dx fs) ∧ Cls K C ∧ NoAttr K C f ∧ fs.lookup f = some v ∧ Q v := ⟨a, C, dx, fs, v, rfl, h, cl, n, l, q⟩
theorem L_tTest {Q : Bool → Hp → Prop} (h : te σ H fun x H' => ∃ k, x = .bl k ∧ Q k H') : tTest te σ H Q := h
theorem L_tB {Q : Bool → Hp → Prop} (h : te σ H fun x H' => ∃ k, x = .bl k ∧ Q k H') : tB te σ H Q := h
theorem L_k {b : Bool} {Q : Bool → Prop} (q : Q b) : ∃ k, V.bl b = V.bl k ∧ Q k := ⟨b, rfl, q⟩
theorem L_tru {Q : Bool → Hp → Prop} (h : te σ H fun x H' => ∃ k, TruV K x H' k ∧ Q k H') : aTru K te σ H Q := h
theorem L_truB {b : Bool} {Q : Bool → Prop} (q : Q b) : ∃ k, TruV K (.bl b) H k ∧ Q k := ⟨b, rfl, q⟩
theorem L_truI {i : Int} {Q : Bool → Prop} (q : Q (i != 0)) : ∃ k, TruV K (.int i) H k ∧ Q k := ⟨_, rfl, q⟩
theorem L_and {Q : Bool → Hp → Prop} (h : c σ H fun b H1 => if b = true then d σ H1 Q else Q false H1) : tAnd c d σ H Q := h
theorem L_or {Q : Bool → Hp → Prop} (h : c σ H fun b H1 => if b = true then Q true H1 else d σ H1 Q) : tOr c d σ H Q := h
theorem L_not {Q : Bool → Hp → Prop} (h : c σ H fun b H1 => Q (!b) H1) : tNot c σ H Q := h
theorem L_andV (h : ta σ H fun x H1 => ∃ c, x = .bl c ∧ if c = true then tb σ H1 Q else Q (.bl false) H1) : tAndV ta tb σ H Q := h
theorem L_orV (h : ta σ H fun x H1 => ∃ c, x = .bl c ∧ if c = true then Q (.bl true) H1 else tb σ H1 Q) : tOrV ta tb σ H Q := h
theorem L_notV (h : ta σ H fun x H1 => ∃ c, x = .bl c ∧ Q (.bl (!c)) H1) : tNotV ta σ H Q := h
theorem L_ifE (h : c σ H fun b H1 => if b = true then ta σ H1 Q else tb σ H1 Q) : tIf c ta tb σ H Q := h
theorem L_chain (h : ta σ H fun x H1 => tb σ H1 fun y H2 => r x y H2 fun z H3 => ∃ k, z = .bl k ∧ (if k = true then tc σ H3 fun w' H4 => r' y w' H4 Q else Q (.bl false) H3)) : tChain r r' ta tb tc σ H Q := h
theorem L_T {A B : Prop} (a : A) : if true = true then A else B := by rw [if_pos rfl]; exact a
theorem L_F {A B : Prop} (b : B) : if false = true then A else B := by rw [if_neg Bool.false_ne_true]; exact b
theorem L_dT {p : Prop} [Decidable p] {A B : Prop} (h : p) (a : A) : if decide p = true then A else B := by rw [decide_eq_true h]; exact L_T a
theorem L_dF {p : Prop} [Decidable p] {A B : Prop} (h : ¬ p) (b : B) : if decide p = true then A else B := by rw [decide_eq_false h]; exact L_F b
theorem L_d {p : Prop} [Decidable p] {A B : Prop} (a : p → A) (b : ¬ p → B) : if decide p = true then A else B := by
  by_cases h : p
  · exact L_dT h (a h)
  · exact L_dF h (b h)
theorem L_nd {p : Prop} [Decidable p] {A B : Prop} (a : ¬ p → A) (b : p → B) : if (!decide p) = true then A else B := by
  by_cases h : p
  · rw [decide_eq_true h]; exact L_F (b h)
  · rw [decide_eq_false h]; exact L_T (a h)
theorem L_ndT {p : Prop} [Decidable p] {A B : Prop} (h : ¬ p) (a : A) : if (!decide p) = true then A else B := by rw [decide_eq_false h]; exact L_T a
theorem L_ndF {p : Prop} [Decidable p] {A B : Prop} (h : p) (b : B) : if (!decide p) = true then A else B := by rw [decide_eq_true h]; exact L_F b
theorem L_b {k : Bool} {A B : Prop} (a : k = true → A) (b : k = false → B) : if k = true then A else B := by
  cases k with
  | true => exact L_T (a rfl)
  | false => exact L_F (b rfl)
theorem L_nT {A B : Prop} (b : B) : if (!true) = true then A else B := L_F b
theorem L_nF {A B : Prop} (a : A) : if (!false) = true then A else B := L_T a
theorem L_nil {Q : List V → Hp → Prop} (q : Q [] H) : tNil σ H Q := q
theorem L_cons {Q : List V → Hp → Prop} (h : ta σ H fun x H1 => tr σ H1 fun xs H2 => Q (x :: xs) H2) : tCons ta tr σ H Q := h
theorem L_tup (h : tr σ H fun xs H1 => xs.length ≤ sizeLine ∧ ∀ p, H1 p = none → Q (.ref p) (upd H1 p (.tup xs))) : tTup tr σ H Q := h
theorem L_lst (h : tr σ H fun xs H1 => xs.length ≤ sizeLine ∧ ∀ p, H1 p = none → Q (.ref p) (upd H1 p (.lst xs))) : tLst tr σ H Q := h
theorem L_new {n : Nat} {R : Prop} (hl : n ≤ sizeLine) (q : R) : n ≤ sizeLine ∧ R := ⟨hl, q⟩
theorem L_call {sp : Sp} {E : XK} (h : tr σ H fun vs H1 => sp vs H1 Q E) : tCall sp [] E tr σ H Q := by
  unfold tCall
  simp only [List.append_nil]
  exact h
theorem L_cb {r : List V → Hp → VK → Prop} (h : tr σ H fun vs H1 => r vs H1 Q) : tCB r tr σ H Q := h
theorem L_lenL {a : Addr} {xs : List V} (h : SqL K H a xs) (q : Q (.int xs.length) H) : aLen K [.ref a] H Q := .inl ⟨a, xs, rfl, .inl h, q⟩
theorem L_lenT {a : Addr} {xs : List V} (h : SqT K H a xs) (q : Q (.int xs.length) H) : aLen K [.ref a] H Q := .inl ⟨a, xs, rfl, .inr h, q⟩
theorem L_lenS {z : Str} (h : z.length ≤ sizeLine) (q : Q (.int z.length) H) : aLen K [.str z] H Q := .inr (.inl ⟨z, rfl, h, q⟩)
theorem L_abs {i : Int} (q : Q (.int (if i < 0 then -i else i)) H) : aAbs [.int i] H Q := ⟨i, rfl, q⟩
theorem L_max2 {i j : Int} (q : Q (.int (max i j)) H) : aMax2 [.int i, .int j] H Q := ⟨i, j, rfl, by rw [show (if j > i then j else i) = max i j by omega]; exact q⟩
theorem L_min2 {i j : Int} (q : Q (.int (min i j)) H) : aMin2 [.int i, .int j] H Q := ⟨i, j, rfl, by rw [show (if j < i then j else i) = min i j by omega]; exact q⟩
theorem L_int1 {i : Int} (q : Q (.int i) H) : aInt1 [.int i] H Q := .inl ⟨i, rfl, q⟩
theorem L_int1B {k : Bool} (q : Q (.int (if k then 1 else 0)) H) : aInt1 [.bl k] H Q := .inr ⟨k, rfl, q⟩
theorem L_isi {a n : String} {b : Bool} (hx : TyX K H x (.type a)) (hk : kitB a n = some b) (q : Q (.bl b) H) : rIsi K [x, .ty n] H Q := ⟨x, .ty n, .type a, .type n, b, rfl, .ty n, hx, kit_ty hk, q⟩
theorem L_ixL {p : Addr} {xs : List V} {i : Int} (h : SqL K H p xs) (ha : atI xs i = some v) (q : Q v H) : rIx K (.ref p) (.int i) H Q := .inl ⟨p, xs, i, v, rfl, rfl, h, ha, q⟩
theorem L_ixT {p : Addr} {xs : List V} {i : Int} (h : SqT K H p xs) (ha : atI xs i = some v) (q : Q v H) : rIx K (.ref p) (.int i) H Q := .inr (.inl ⟨p, xs, i, v, rfl, rfl, h, ha, q⟩)
theorem L_ixS {z : Str} {i : Int} {a : Nat} (h : z.length ≤ sizeLine) (ha : atI z.cps.toList i = some a) (q : Q (.str ⟨#[a]⟩) H) : rIx K (.str z) (.int i) H Q := .inr (.inr ⟨z, i, a, rfl, rfl, h, ha, q⟩)
theorem L_bm {T : String} {r : V → List V → Hp → VK → Prop} (h : te σ H fun x H1 => tyV K T x H1 ∧ tr σ H1 fun xs H2 => r x xs H2 Q) : tBM K T r te tr σ H Q := h
theorem L_tyL {a : Addr} {xs : List V} {R : Prop} (h : SqL K H a xs) (q : R) : tyV K "list" (.ref a) H ∧ R := ⟨.inl ⟨rfl, xs, h⟩, q⟩
theorem L_app {a : Addr} {xs : List V} (h : H a = some (.lst xs)) (hl : xs.length < sizeLine) (q : Q .non (upd H a (.lst (xs ++ [v])))) : rAppend (.ref a) [v] H Q := ⟨a, xs, v, rfl, rfl, h, hl, q⟩
theorem L_sum {a : Addr} {ns : List Int} (h : SqL K H a (ns.map V.int)) (q : Q (.int ns.sum) H) : rSum K [.ref a] H Q := ⟨a, ns, rfl, h, q⟩
theorem L_while (W : Nat → L2.St → Hp → Prop) (h0 : ∃ m, W m σ H) (hs : ∀ m σ H, W m σ H → c σ H fun b H1 => if b = true then ∃ M : L2.St → Hp → Prop, (∀ σ' H', M σ' H' → ∃ m', m' < m ∧ W m' σ' H') ∧ t ⟨M, R, N, M⟩ σ H1 else N σ H1) : tWhile c t ⟨N, R, B, C⟩ σ H := ⟨W, h0, hs⟩
theorem L_N {W : Nat → L2.St → Hp → Prop} {m : Nat} (h : t ⟨fun σ' H' => ∃ m', m' < m ∧ W m' σ' H', R, N, fun σ' H' => ∃ m', m' < m ∧ W m' σ' H'⟩ σ H) :
    ∃ M : L2.St → Hp → Prop, (∀ σ' H', M σ' H' → ∃ m', m' < m ∧ W m' σ' H') ∧ t ⟨M, R, N, M⟩ σ H := ⟨_, fun _ _ h => h, h⟩
theorem L_cut {Mid : L2.St → Hp → Prop} (h : t ⟨Mid, R, B, C⟩ σ H) (k : ∀ σ' H', Mid σ' H' → u ⟨N, R, B, C⟩ σ' H') : Evl.tCut t u ⟨N, R, B, C⟩ σ H := ⟨Mid, h, k⟩
theorem L_for {wi : TI} (h : wi σ H fun J H1 => ∃ W : Nat → Nat → L2.St → Hp → Prop, (∃ m, W 0 m σ H1) ∧ ∀ i m σ H, W i m σ H →
      (J.stop i H ∧ N σ H) ∨ (J.go i H ∧ ∃ M : L2.St → Hp → Prop, (∀ σ' H', M σ' H' → ∃ m', m' < m ∧ W (i + 1) m' σ' H') ∧ ∀ x H', J.yld i H x H' → g x σ H' fun σ2 H2 => t ⟨M, R, N, M⟩ σ2 H2)) : tFor wi g t ⟨N, R, B, C⟩ σ H := h
theorem L_iRng1 {R : It → Hp → Prop} (h : tr σ H fun vs H1 => ∃ j : Int, vs = [.int j] ∧ -(2 ^ 62) ≤ j ∧ j < 2 ^ 62 ∧ R (Itr 0 j.toNat) H1) : iRng1 tr σ H R := h
theorem L_iRng2 {R : It → Hp → Prop} (h : tr σ H fun vs H1 => ∃ i j : Int, vs = [.int i, .int j] ∧ (-(2 ^ 62) ≤ i ∧ i < 2 ^ 62 ∧ -(2 ^ 62) ≤ j ∧ j < 2 ^ 62) ∧ R (Itr i (j - i).toNat) H1) : iRng2 tr σ H R := h
theorem L_iList {R : It → Hp → Prop} (h : te σ H fun x H1 => ∃ a, x = .ref a ∧ (∃ xs, SqL K H1 a xs) ∧ R (Itl K a) H1) : iList K te σ H R := h
theorem L_iTup {R : It → Hp → Prop} (h : te σ H fun x H1 => ∃ a, x = .ref a ∧ (∃ xs, SqT K H1 a xs) ∧ R (Itt K a) H1) : iTup K te σ H R := h
theorem L_r1 {n : Int} {R : Int → Prop} (h1 : -(2 ^ 62) ≤ n) (h2 : n < 2 ^ 62) (q : R n) : ∃ j : Int, [V.int n] = [V.int j] ∧ -(2 ^ 62) ≤ j ∧ j < 2 ^ 62 ∧ R j := ⟨n, rfl, h1, h2, q⟩
theorem L_r2 {a n : Int} {R : Int → Int → Prop} (h : -(2 ^ 62) ≤ a ∧ a < 2 ^ 62 ∧ -(2 ^ 62) ≤ n ∧ n < 2 ^ 62) (q : R a n) : ∃ i j : Int, [V.int a, V.int n] = [V.int i, V.int j] ∧ (-(2 ^ 62) ≤ i ∧ i < 2 ^ 62 ∧ -(2 ^ 62) ≤ j ∧ j < 2 ^ 62) ∧ R i j := ⟨a, n, rfl, h, q⟩
theorem L_rl {a : Addr} {xs : List V} {R : Addr → Prop} (h : SqL K H a xs) (q : R a) : ∃ b, V.ref a = V.ref b ∧ (∃ xs, SqL K H b xs) ∧ R b := ⟨a, rfl, ⟨xs, h⟩, q⟩
theorem L_rt {a : Addr} {xs : List V} {R : Addr → Prop} (h : SqT K H a xs) (q : R a) : ∃ b, V.ref a = V.ref b ∧ (∃ xs, SqT K H b xs) ∧ R b := ⟨a, rfl, ⟨xs, h⟩, q⟩
end
theorem sz_dec {n : Nat} (h : n ≤ 1000000) : n ≤ sizeLine := Nat.le_trans h (by decide)
theorem sz_lt {n : Nat} (h : n < 1000000) : n < sizeLine := Nat.lt_of_lt_of_le h (by decide)
/-! ### sizes of ints -/
/-- less than n bits -/
def Bd (n : Nat) (i : Int) : Prop := i.natAbs < 2 ^ n
theorem Bd.mono {n m : Nat} {i : Int} (h : Bd n i) (hm : n ≤ m) : Bd m i := Nat.lt_of_lt_of_le h (Nat.pow_le_pow_right (by decide) hm)
theorem Bd.mul {n m : Nat} {i j : Int} (h : Bd n i) (k : Bd m j) : Bd (n + m) (i * j) := wide_lt h k
theorem Bd.add {n m : Nat} {i j : Int} (h : Bd n i) (k : Bd m j) : Bd (max n m + 1) (i + j) := by
  have a := h.mono (Nat.le_max_left n m)
  have b := k.mono (Nat.le_max_right n m)
  unfold Bd at *
  rw [Nat.pow_succ]
  have := Int.natAbs_add_le i j
  omega
theorem Bd.neg {n : Nat} {i : Int} (h : Bd n i) : Bd n (-i) := by unfold Bd at *; rw [Int.natAbs_neg]; exact h
theorem Bd.sub {n m : Nat} {i j : Int} (h : Bd n i) (k : Bd m j) : Bd (max n m + 1) (i - j) := by
  rw [Int.sub_eq_add_neg]; exact h.add k.neg
theorem Bd.cmul {n m : Nat} {i j : Int} (h : Bd n i) (k : Bd m j) (hz : n + m + 2 ≤ 1000000 := by decide) : CMulW i j :=
  wide_mul (h.mono (Nat.le_succ n)) (k.mono (Nat.le_succ m)) (Nat.succ_pos _) (Nat.succ_pos _) (by omega)
theorem Bd.cdiv {n : Nat} {i j : Int} (k : Bd n j) (h : 0 < j) (hz : n + 1 ≤ 9000 := by decide) : CDivW i j := wide_div h (k.mono (Nat.le_succ n)) (Nat.succ_pos _) hz
theorem bd_lit {i : Int} (h : -4294967296 < i ∧ i < 4294967296) : Bd 32 i := by
  unfold Bd
  have : (2 : Nat) ^ 32 = 4294967296 := by decide
  omega
theorem bd_64 {i : Int} (h : -18446744073709551616 < i ∧ i < 18446744073709551616) : Bd 64 i := by
  unfold Bd
  have : (2 : Nat) ^ 64 = 18446744073709551616 := by decide
  omega
/-- an item of the script, or what stands in its place -/
def cellAt (ns : List Int) (k d : Int) : Int := if k < (ns.length : Int) then ns.getD k.toNat 0 else d
theorem cellAt_in {ns : List Int} {k d : Int} (h0 : 0 ≤ k) (h : k < (ns.length : Int)) : atI (ns.map V.int) k = some (V.int (cellAt ns k d)) := by
  obtain ⟨j, rfl⟩ : ∃ j : Nat, k = (j : Int) := ⟨k.toNat, by omega⟩
  have hl : j < ns.length := by omega
  unfold cellAt
  rw [if_pos h]
  refine atI_nat ?_
  rw [List.getElem?_map, List.getElem?_eq_getElem hl]
  simp [List.getD, List.getElem?_eq_getElem hl]
theorem cellAt_out {ns : List Int} {k d : Int} (h : ¬ k < (ns.length : Int)) : cellAt ns k d = d := if_neg h
theorem cellAt_mem {ns : List Int} {k d : Int} (h0 : 0 ≤ k) : cellAt ns k d ∈ ns ∨ cellAt ns k d = d := by
  unfold cellAt
  split
  · rename_i h
    have hl : k.toNat < ns.length := by omega
    left
    simp [List.getD, List.getElem?_eq_getElem hl]
  · exact .inr rfl
theorem _root_.L2.Same.seqT {K : PySem.W.Frag} {H H' : Hp} {a : Addr} {xs : List V} (e : Same H H') (h : SqT K H a xs) : SqT K H' a xs := by
  rcases h with (h | ⟨o, h⟩) | h
  · exact .inl (.inl (e _ _ h))
  · exact .inl (.inr ⟨o, e _ _ h⟩)
  · exact .inr h
/-! ### what is walked: more -/
section
variable {K : PySem.W.Frag} {σ : L2.St} {H : Hp} {te : TE} {tr : TA} {Q : VK} {g : TG} {tt : TT}
theorem L_yes {Q : Bool → Hp → Prop} (q : Q true H) : tYes σ H Q := q
theorem L_iZip {R : It → Hp → Prop} (h : tr σ H fun vs H1 => ∃ a b xs ys, vs = [.ref a, .ref b] ∧ SqL K H1 a xs ∧ SqL K H1 b ys ∧ R (Itz K a b) H1) : iZip K tr σ H R := h
theorem L_iEnum {R : It → Hp → Prop} (h : tr σ H fun vs H1 => ∃ a xs, vs = [.ref a] ∧ SqL K H1 a xs ∧ R (Ite K a) H1) : iEnum K tr σ H R := h
theorem L_iStr {R : It → Hp → Prop} (h : te σ H fun v H1 => ∃ x, v = .str x ∧ R (Its x) H1) : iStr te σ H R := h
theorem L_iRng3 {R : It → Hp → Prop} (h : tr σ H fun vs H1 => ∃ (i j c : Int) (n : Nat), vs = [.int i, .int j, .int c] ∧ RgC i j c n ∧ R (Itc i c n) H1) : iRng3 tr σ H R := h
theorem L_rz {a b : Addr} {xs ys : List V} {R : Addr → Addr → Prop} (h1 : SqL K H a xs) (h2 : SqL K H b ys) (q : R a b) : ∃ a' b' xs ys, [V.ref a, V.ref b] = [.ref a', .ref b'] ∧ SqL K H a' xs ∧ SqL K H b' ys ∧ R a' b' := ⟨a, b, xs, ys, rfl, h1, h2, q⟩
theorem L_re {a : Addr} {xs : List V} {R : Addr → Prop} (h1 : SqL K H a xs) (q : R a) : ∃ a' xs, [V.ref a] = [.ref a'] ∧ SqL K H a' xs ∧ R a' := ⟨a, xs, rfl, h1, q⟩
theorem L_rs {z : Str} {R : Str → Prop} (q : R z) : ∃ x, V.str z = .str x ∧ R x := ⟨z, rfl, q⟩
theorem L_r3 {i j c : Int} {n : Nat} {R : Int → Int → Nat → Prop} (h : RgC i j c n) (q : R i c n) : ∃ (i' j' c' : Int) (n : Nat), [V.int i, V.int j, V.int c] = [.int i', .int j', .int c'] ∧ RgC i' j' c' n ∧ R i' c' n := ⟨i, j, c, n, rfl, h, q⟩
theorem L_lc {wi : TI} {vs : List Nat} (h : wi σ H fun J H1 => ∀ D, H1 D = none → ∃ W : Nat → Nat → Hp → Prop, (∃ m, W 0 m (upd H1 D (.lst []))) ∧ ∀ i m H, W i m H →
  (J.stop i H ∧ Q (.ref D) H) ∨ (J.go i H ∧ ∃ Nx : Hp → Prop, (∀ H', Nx H' → ∃ m', m' < m ∧ W (i + 1) m' H') ∧ ∀ x H', J.yld i H x H' → g x (wipe σ vs) H' fun σ2 H2 => wipe σ2 vs = wipe σ vs ∧ tt σ2 H2 fun b H3 =>
    if b = true then te σ2 H3 fun y H4 => ∃ acc, H4 D = some (.lst acc) ∧ acc.length < sizeLine ∧ Nx (upd H4 D (.lst (acc ++ [y]))) else Nx H3)) : tLc wi g tt te vs σ H Q := h
theorem fm_succ (f : Nat → Option V) (i : Nat) : (List.range (i + 1)).filterMap f = (List.range i).filterMap f ++ (match f i with | some y => [y] | none => []) := by
  rw [List.range_succ, List.filterMap_append]
  cases h : f i <;> simp [h]
theorem fm_len (f : Nat → Option V) (i : Nat) : ((List.range i).filterMap f).length ≤ i := by
  have := List.length_filterMap_le f (List.range i)
  simpa using this
/-- a comprehension whose things are told one by one: f i is what turn i gives, none where its test is false -/
theorem lc_fm {J : It} {n : Nat} {G : Hp → Prop} {Y : Nat → Hp → V → Hp → Prop} (w : L2.Walk J n G Y) {vs : List Nat} {Qd : Addr → Hp → Prop} (f : Nat → Option V) (hn : n ≤ 1000000) (hG : ∀ H', Same H H' → G H')
    (hs : ∀ i x H2 H' (R : V → Hp → Prop) (R' : Hp → Prop), i < n → Same H H2 → Y i H2 x H' → (∀ y H4, f i = some y → Same H2 H4 → R y H4) → (∀ H3, f i = none → Same H2 H3 → R' H3) →
      g x (wipe σ vs) H' fun σ2 H2 => wipe σ2 vs = wipe σ vs ∧ tt σ2 H2 fun b H3 => if b = true then te σ2 H3 R else R' H3)
    (q : ∀ p H', H p = none → Same H H' → H' p = some (.lst ((List.range n).filterMap f)) → Qd p H') :
    ∀ D, H D = none → ∃ W : Nat → Nat → Hp → Prop, (∃ m, W 0 m (upd H D (.lst []))) ∧ ∀ i m H, W i m H →
      (J.stop i H ∧ Qd D H) ∨ (J.go i H ∧ ∃ Nx : Hp → Prop, (∀ H', Nx H' → ∃ m', m' < m ∧ W (i + 1) m' H') ∧ ∀ x H', J.yld i H x H' → g x (wipe σ vs) H' fun σ2 H2 => wipe σ2 vs = wipe σ vs ∧ tt σ2 H2 fun b H3 =>
        if b = true then te σ2 H3 fun y H4 => ∃ acc, H4 D = some (.lst acc) ∧ acc.length < sizeLine ∧ Nx (upd H4 D (.lst (acc ++ [y]))) else Nx H3) := by
  intro D hD
  refine lc_it w (fun i H2 => Same H H2 ∧ H2 D = some (.lst ((List.range i).filterMap f))) ⟨same_new hD, upd_same⟩ (fun i H2 _ p => hG H2 p.1) ?_ (fun H2 p => q D H2 hD p.1 p.2)
  intro i x H2 H' hi ⟨p1, p2⟩ y
  refine hs i x H2 H' _ _ hi p1 y (fun y H4 e s => ?_) (fun H3 e s => ?_)
  · refine ⟨_, s _ _ p2, sz_lt (by have := fm_len f i; omega), ?_, ?_⟩
    · intro b o hb
      rw [upd_ne (ne_of_none hb hD)]
      exact s _ _ (p1 _ _ hb)
    · rw [fm_succ, e]; exact upd_same
  · refine ⟨p1.trans s, ?_⟩
    rw [fm_succ, e, List.append_nil]
    exact s _ _ p2
theorem fm_map {α : Type} (f : Nat → α) (h : α → V) (n : Nat) : (List.range n).filterMap (fun i => some (h (f i))) = ((List.range n).map f).map h := by
  rw [List.map_map]
  induction n with
  | zero => rfl
  | succ n ih => rw [fm_succ (fun i => some (h (f i))), ih, List.range_succ, List.map_append]; rfl
theorem rgC_up {i j c : Int} (hc : 0 < c) (hc2 : c < 1000000) (hi : -1000000000 ≤ i ∧ i ≤ 1000000000) (hj : -1000000000 ≤ j ∧ j ≤ 1000000000) : RgC i j c (if i < j then ((j - i - 1) / c + 1).toNat else 0) := by
  have e : Builtin.Range.rangeSize i j c = ((if i < j then ((j - i - 1) / c + 1).toNat else 0 : Nat) : Int) := by
    unfold Builtin.Range.rangeSize
    rw [if_pos (by omega)]
    split
    · have : 0 ≤ (j - i - 1) / c := Int.ediv_nonneg (by omega) (by omega)
      omega
    · rfl
  refine ⟨by omega, by omega, ?_, e⟩
  unfold Builtin.Range.small
  rw [e]
  have hz : ((if i < j then ((j - i - 1) / c + 1).toNat else 0 : Nat) : Int) * c ≤ 4000000000 ∧ ((if i < j then ((j - i - 1) / c + 1).toNat else 0 : Nat) : Int) ≤ 4000000000 ∧ 0 ≤ ((if i < j then ((j - i - 1) / c + 1).toNat else 0 : Nat) : Int) := by
    split
    · have h0 : 0 ≤ (j - i - 1) / c := Int.ediv_nonneg (by omega) (by omega)
      have h1 : (j - i - 1) / c * c ≤ j - i - 1 := Int.ediv_mul_le _ (by omega)
      have h2 : (j - i - 1) / c ≤ j - i - 1 := Int.ediv_le_self _ (by omega)
      have h3 : (((j - i - 1) / c + 1).toNat : Int) = (j - i - 1) / c + 1 := by omega
      rw [h3, Int.add_mul]
      omega
    · simp
  generalize ((if i < j then ((j - i - 1) / c + 1).toNat else 0 : Nat) : Int) = n at *
  simp only [Builtin.Range.rangeFitsLong, Bool.and_eq_true, Bool.or_eq_true, decide_eq_true_eq, beq_iff_eq]
  refine ⟨by omega, .inr ?_⟩
  rw [if_pos (by omega), Bool.and_eq_true, decide_eq_true_eq, decide_eq_true_eq]
  omega
/-- what making an instance asks -/
def MakeP (C : Addr) (sp : Sp) (E : XK) (vs : List V) (H : Hp) (Q : VK) : Prop := ∀ x dx, H x = none → H dx = none → dx ≠ x → sp (.ref x :: vs) (upd (upd H dx (.own x)) x (.ins C dx [])) (fun v H2 => v = .non ∧ Q (.ref x) H2) E
theorem L_make {C : Addr} {sp : Sp} {E : XK} (h : tr σ H fun vs H1 => MakeP C sp E vs H1 Q) : tMake C sp [] E tr σ H Q := by
  unfold tMake
  simp only [List.append_nil]
  exact h
/-- a new instance: all that stood stands -/
def NewI (H : Hp) (C : Addr) (fs : List (Str × V)) (Q : VK) : Prop := ∀ p H' dx, H p = none → Same H H' → H' p = some (.ins C dx fs) → Q (.ref p) H'
theorem L_gTup {n : Nat} {t : TGs} {a : Addr} {xs : List V} {Q : L2.St → Hp → Prop} (h : SqT K H a xs) (hn : xs.length = n) (q : t xs σ H Q) : gTup K n t (.ref a) σ H Q := ⟨a, xs, rfl, h, hn, q⟩
theorem L_gLst {n : Nat} {t : TGs} {a : Addr} {xs : List V} {Q : L2.St → Hp → Prop} (h : SqL K H a xs) (hn : xs.length = n) (q : t xs σ H Q) : gLst K n t (.ref a) σ H Q := ⟨a, xs, rfl, h, hn, q⟩
theorem L_gCons {v : V} {r : List V} {t : TG} {u : TGs} {Q : L2.St → Hp → Prop} (q : t v σ H fun σ' H' => u r σ' H' Q) : gCons t u (v :: r) σ H Q := ⟨v, r, rfl, q⟩
theorem L_gNil {Q : L2.St → Hp → Prop} (q : Q σ H) : gNil [] σ H Q := ⟨rfl, q⟩
theorem L_sub {to ti : TE} {t : TSet} {v : V} {Q : L2.St → Hp → Prop} (h : to σ H fun o H1 => ti σ H1 fun i H2 => t o i v H2 fun H3 => Q σ H3) : gSub to ti t v σ H Q := h
theorem L_setL {p : Addr} {xs : List V} {k : Int} {j : Nat} {v : V} {Q : Hp → Prop} (h : H p = some (.lst xs)) (hj : ixN xs.length k = some j) (q : Q (upd H p (.lst (xs.set j v)))) : rSetL (.ref p) (.int k) v H Q := ⟨p, xs, k, j, rfl, rfl, h, hj, q⟩
theorem ixN_of {n : Nat} {k : Int} (h0 : 0 ≤ k) (h : k < n) : ixN n k = some k.toNat := by
  unfold ixN
  rw [if_pos h0, if_pos h]
theorem L_sFld {f : Str} {ta tv : TE} {N B C' : L2.St → Hp → Prop} {R : VK} (h : tv σ H fun y H1 => ta σ H1 fun x H2 => ∃ a C dx fs, x = .ref a ∧ H2 a = some (.ins C dx fs) ∧ Cls K C ∧ NoAttr K C f ∧ fs.length < 1000 ∧ N σ (upd H2 a (.ins C dx (putF f y fs)))) : sFld K ta tv f ⟨N, R, B, C'⟩ σ H := h
theorem L_sFldv {a C dx : Addr} {fs : List (Str × V)} {f : Str} {Q : Addr → Addr → Addr → List (Str × V) → Prop} (h : H a = some (.ins C dx fs)) (cl : Cls K C) (n : NoAttr K C f) (l : fs.length < 1000) (q : Q a C dx fs) :
    ∃ a' C dx fs, V.ref a = V.ref a' ∧ H a' = some (.ins C dx fs) ∧ Cls K C ∧ NoAttr K C f ∧ fs.length < 1000 ∧ Q a' C dx fs := ⟨a, C, dx, fs, rfl, h, cl, n, l, q⟩
theorem L_repL {a : Addr} {xs : List V} {k : Int} (h : H a = some (.lst xs)) (h1 : -(2 ^ 63) ≤ k) (h2 : k < 2 ^ 63) (h3 : xs.length * k.toNat ≤ sizeLine) (q : ∀ p, H p = none → Q (.ref p) (upd H p (.lst (List.replicate k.toNat xs).flatten))) : aMul (.ref a) (.int k) H Q := .inr ⟨a, k, xs, rfl, rfl, h, h1, h2, h3, q⟩
theorem atI_int {xs : List V} {k : Int} {v : V} (h0 : 0 ≤ k) (h : xs[k.toNat]? = some v) : atI xs k = some v := by
  obtain ⟨j, rfl⟩ : ∃ j : Nat, k = (j : Int) := ⟨k.toNat, by omega⟩
  exact atI_nat h
theorem atI_ints {xs : List Int} {k : Int} (h0 : 0 ≤ k) (h : k < xs.length) : atI (xs.map V.int) k = some (.int (xs.getD k.toNat 0)) := by
  refine atI_int h0 ?_
  have hl : k.toNat < xs.length := by omega
  rw [List.getElem?_map, List.getElem?_eq_getElem hl]
  simp [List.getD, List.getElem?_eq_getElem hl]
theorem L_nw {xs : List V} {R : Prop} (q : R) (hl : xs.length ≤ 1000000 := by simp) : xs.length ≤ sizeLine ∧ R := ⟨sz_dec hl, q⟩
end
theorem fm_succ' {α : Type} (f : Nat → Option α) (i : Nat) : (List.range (i + 1)).filterMap f = (List.range i).filterMap f ++ (match f i with | some y => [y] | none => []) := by
  rw [List.range_succ, List.filterMap_append]
  cases h : f i <;> simp [h]
theorem fm_len' {α : Type} (f : Nat → Option α) (i : Nat) : ((List.range i).filterMap f).length ≤ i := by
  have := List.length_filterMap_le f (List.range i)
  simpa using this
/-! ### data as trees -/
mutual
theorem Dp_same {K : PySem.W.Frag} {H H' : Hp} (e : Same H H') : ∀ (d : PyData) {v : V}, Dp K H v d → Dp K H' v d
  | .none, _, h => by cases h; exact .non
  | .bool b, _, h => by cases h; exact .bl b
  | .int i, _, h => by cases h; exact .int i
  | .str x, _, h => by cases h; exact .str x
  | .list ds, _, h => by cases h with | lst hs ha => exact .lst (e.seq hs) (DpAll_same e ds ha)
  | .tuple ds, _, h => by cases h with | tup hs ha => exact .tup (e.seqT hs) (DpAll_same e ds ha)
  | .dict _, _, h => by cases h
theorem DpAll_same {K : PySem.W.Frag} {H H' : Hp} (e : Same H H') : ∀ (ds : List PyData) {vs : List V}, DpAll K H vs ds → DpAll K H' vs ds
  | [], _, h => by cases h; exact .nil
  | d :: ds, _, h => by cases h with | cons h1 h2 => exact .cons (Dp_same e d h1) (DpAll_same e ds h2)
end
section
variable {K : PySem.W.Frag} {H H' : Hp} {v : V} {vs : List V} {d : PyData} {ds : List PyData}
theorem _root_.L2.Dp.same (h : Dp K H v d) (e : Same H H') : Dp K H' v d := Dp_same e d h
theorem _root_.L2.DpAll.same (h : DpAll K H vs ds) (e : Same H H') : DpAll K H' vs ds := DpAll_same e ds h
theorem _root_.L2.DpAll.len : ∀ {ds : List PyData} {vs : List V}, DpAll K H vs ds → vs.length = ds.length
  | [], _, h => by cases h; rfl
  | d :: ds, _, h => by cases h with | cons h1 h2 => rw [List.length_cons, List.length_cons, h2.len]
theorem _root_.L2.DpAll.at : ∀ {ds : List PyData} {vs : List V} {i : Nat}, DpAll K H vs ds → ds[i]? = some d → ∃ v, vs[i]? = some v ∧ Dp K H v d
  | [], _, i, h, e => by simp at e
  | c :: ds, _, 0, h, e => by
    cases h with
    | cons h1 h2 =>
      rename_i v vs
      have : c = d := by simpa using e
      subst this
      exact ⟨v, by simp, h1⟩
  | c :: ds, _, i + 1, h, e => by
    cases h with
    | cons h1 h2 =>
      obtain ⟨v, q1, q2⟩ := h2.at (i := i) (by simpa using e)
      exact ⟨v, by simpa using q1, q2⟩
theorem _root_.L2.DpAll.of : ∀ {ds : List PyData} {vs : List V} {i : Nat}, DpAll K H vs ds → vs[i]? = some v → ∃ d, ds[i]? = some d ∧ Dp K H v d
  | [], _, i, h, e => by cases h; simp at e
  | c :: ds, _, 0, h, e => by
    cases h with
    | cons h1 h2 =>
      rename_i w vs
      have : w = v := by simpa using e
      subst this
      exact ⟨c, by simp, h1⟩
  | c :: ds, _, i + 1, h, e => by
    cases h with
    | cons h1 h2 =>
      obtain ⟨d, q1, q2⟩ := h2.of (i := i) (by simpa using e)
      exact ⟨d, by simpa using q1, q2⟩
theorem _root_.L2.DpAll.app : ∀ {ds es : List PyData} {vs us : List V}, DpAll K H vs ds → DpAll K H us es → DpAll K H (vs ++ us) (ds ++ es)
  | [], _, _, _, h, g => by cases h; exact g
  | d :: ds, _, _, _, h, g => by cases h with | cons h1 h2 => exact .cons h1 (h2.app g)
theorem _root_.L2.DpAll.snoc (h : DpAll K H vs ds) (g : Dp K H v d) : DpAll K H (vs ++ [v]) (ds ++ [d]) := h.app (.cons g .nil)
theorem dp_ints : ∀ (ns : List Int), DpAll K H (ns.map V.int) (ns.map PyData.int)
  | [] => .nil
  | n :: ns => .cons (.int n) (dp_ints ns)
theorem dp_strs : ∀ (ns : List Str), DpAll K H (ns.map V.str) (ns.map PyData.str)
  | [] => .nil
  | n :: ns => .cons (.str n) (dp_strs ns)
theorem of_ints : ∀ {ns : List Int} {vs : List V}, DpAll K H vs (ns.map PyData.int) → vs = ns.map V.int
  | [], _, h => by cases h; rfl
  | n :: ns, _, h => by
    cases h with
    | cons h1 h2 => cases h1; rw [of_ints h2]; rfl
theorem of_strs : ∀ {ns : List Str} {vs : List V}, DpAll K H vs (ns.map PyData.str) → vs = ns.map V.str
  | [], _, h => by cases h; rfl
  | n :: ns, _, h => by
    cases h with
    | cons h1 h2 => cases h1; rw [of_strs h2]; rfl
theorem of_tup (h : Dp K H v (.tuple ds)) : ∃ a xs, v = .ref a ∧ SqT K H a xs ∧ DpAll K H xs ds := by
  cases h with | tup h1 h2 => exact ⟨_, _, rfl, h1, h2⟩
theorem of_lst (h : Dp K H v (.list ds)) : ∃ a xs, v = .ref a ∧ SqL K H a xs ∧ DpAll K H xs ds := by
  cases h with | lst h1 h2 => exact ⟨_, _, rfl, h1, h2⟩
theorem of_int {i : Int} (h : Dp K H v (.int i)) : v = .int i := by cases h; rfl
theorem of_str {i : Str} (h : Dp K H v (.str i)) : v = .str i := by cases h; rfl
theorem of_bl {i : Bool} (h : Dp K H v (.bool i)) : v = .bl i := by cases h; rfl
theorem of_non (h : Dp K H v .none) : v = .non := by cases h; rfl
theorem of_t2 {d e : PyData} (h : Dp K H v (.tuple [d, e])) : ∃ a x y, v = .ref a ∧ SqT K H a [x, y] ∧ Dp K H x d ∧ Dp K H y e := by
  obtain ⟨a, xs, rfl, h1, h2⟩ := of_tup h
  cases h2 with
  | cons p1 p2 => cases p2 with | cons p3 p4 => cases p4; exact ⟨a, _, _, rfl, h1, p1, p3⟩
theorem of_t3 {d e f : PyData} (h : Dp K H v (.tuple [d, e, f])) : ∃ a x y z, v = .ref a ∧ SqT K H a [x, y, z] ∧ Dp K H x d ∧ Dp K H y e ∧ Dp K H z f := by
  obtain ⟨a, xs, rfl, h1, h2⟩ := of_tup h
  cases h2 with
  | cons p1 p2 => cases p2 with | cons p3 p4 => cases p4 with | cons p5 p6 => cases p6; exact ⟨a, _, _, _, rfl, h1, p1, p3, p5⟩
theorem of_t4 {d e f g : PyData} (h : Dp K H v (.tuple [d, e, f, g])) : ∃ a x y z w, v = .ref a ∧ SqT K H a [x, y, z, w] ∧ Dp K H x d ∧ Dp K H y e ∧ Dp K H z f ∧ Dp K H w g := by
  obtain ⟨a, xs, rfl, h1, h2⟩ := of_tup h
  cases h2 with
  | cons p1 p2 => cases p2 with | cons p3 p4 => cases p4 with | cons p5 p6 => cases p6 with | cons p7 p8 => cases p8; exact ⟨a, _, _, _, _, rfl, h1, p1, p3, p5, p7⟩
end
/-- the part of a heap at which P holds -/
noncomputable def rs (P : Addr → Prop) (H : Hp) : Hp := fun a => @ite _ (P a) (Classical.propDecidable _) (H a) none
theorem rs_at {P : Addr → Prop} {H : Hp} {a : Addr} {o : HO} (p : P a) (h : H a = some o) : rs P H a = some o := by unfold rs; rw [if_pos p]; exact h
theorem rs_of {P : Addr → Prop} {H : Hp} {a : Addr} {o : HO} (h : rs P H a = some o) : P a ∧ H a = some o := by
  unfold rs at h
  split at h
  · rename_i p; exact ⟨p, h⟩
  · cases h
theorem rs_same {P P' : Addr → Prop} {H H' : Hp} (h : ∀ a o, P a → H a = some o → P' a ∧ H' a = some o) : Same (rs P H) (rs P' H') := fun a o e => by
  obtain ⟨p, q⟩ := rs_of e
  obtain ⟨p', q'⟩ := h a o p q
  exact rs_at p' q'
theorem rs_sub {P : Addr → Prop} {H : Hp} : Same (rs P H) H := fun a o e => (rs_of e).2
theorem rs_in {P : Addr → Prop} {H H' : Hp} (h : ∀ a o, P a → H a = some o → H' a = some o) : Same (rs P H) H' := fun a o e => h a o (rs_of e).1 (rs_of e).2
theorem rs_all {P : Addr → Prop} {H H' : Hp} (h : ∀ a o, H a = some o → P a ∧ H' a = some o) : Same H (rs P H') := fun a o e => rs_at (h a o e).1 (h a o e).2
/-- a list that changes: what stood ahead of it stands -/
theorem same_mut {H H' : Hp} {a : Addr} {o : HO} (e : Same H H') (h : H a = none) : Same H (upd H' a o) := fun b o' q => by
  rw [upd_ne (fun z => by rw [z, h] at q; cases q)]; exact e b o' q
section
variable {K : PySem.W.Frag} {σ : L2.St} {H : Hp} {g : TG} {tt : TT} {te : TE} {tb : TS} {D : Ends} {x y : V} {Q : VK}
theorem L_rlD {v : V} {ds : List PyData} {R : Addr → Prop} (h : Dp K H v (.list ds)) (q : ∀ a, v = .ref a → R a) : ∃ b, v = V.ref b ∧ (∃ xs, SqL K H b xs) ∧ R b := by
  obtain ⟨a, xs, rfl, h1, h2⟩ := of_lst h
  exact ⟨a, rfl, ⟨xs, h1⟩, q a rfl⟩
/-- for x in a list of data -/
theorem for_dp {a : Addr} {ds : List PyData} (h : Dp K H (.ref a) (.list ds)) (Pv : Nat → L2.St → Hp → Prop) (h0 : Pv 0 σ H) (hG : ∀ i σ' H', i ≤ ds.length → Pv i σ' H' → Same H H')
    (hs : ∀ i d x σ' H', i < ds.length → ds[i]? = some d → Pv i σ' H' → Dp K H' x d → g x σ' H' fun σ2 H2 => tb { D with nx := Pv (i + 1), ct := Pv (i + 1), bk := D.nx } σ2 H2) (hd : ∀ σ' H', Pv ds.length σ' H' → D.nx σ' H') :
    ∃ W : Nat → Nat → L2.St → Hp → Prop, (∃ m, W 0 m σ H) ∧ ∀ i m σ H, W i m σ H →
      ((Itl K a).stop i H ∧ D.nx σ H) ∨ ((Itl K a).go i H ∧ ∃ N : L2.St → Hp → Prop, (∀ σ' H', N σ' H' → ∃ m', m' < m ∧ W (i + 1) m' σ' H') ∧ ∀ x H', (Itl K a).yld i H x H' → g x σ H' fun σ2 H2 => tb { D with nx := N, ct := N, bk := D.nx } σ2 H2) := by
  obtain ⟨a', xs, ea, h1, h2⟩ := of_lst h
  cases ea
  have hl := h2.len
  refine for_it walk_list Pv h0 (fun i σ' H' hi p => (hG i σ' H' (by omega) p).seq h1) (fun i x σ' H' H'' hi p ⟨e1, e2⟩ => ?_) (fun σ' H' p => hd σ' H' (by rw [← hl]; exact p))
  subst e1
  obtain ⟨d, e3, e4⟩ := h2.of e2
  exact hs i d x σ' _ (by omega) e3 p (e4.same (hG i σ' _ (by omega) p))
/-- a comprehension: what turn i gives is told as data, or none; the new list's things stand apart from it -/
theorem lc_dp {J : It} {n : Nat} {G : Hp → Prop} {Y : Nat → Hp → V → Hp → Prop} (w : L2.Walk J n G Y) {vs : List Nat} {Qd : Addr → Hp → Prop} (f : Nat → Option PyData) (hn : n ≤ 1000000) (hG : ∀ H', Same H H' → G H')
    (hs : ∀ i x p H2 H' (R : V → Hp → Prop) (R' : Hp → Prop), i < n → H p = none → Same H H2 → (∃ o, H2 p = some o) → Y i H2 x H' → (∀ y d H4, f i = some d → Same H2 H4 → Dp K (rs (· ≠ p) H4) y d → R y H4) → (∀ H3, f i = none → Same H2 H3 → R' H3) →
      g x (wipe σ vs) H' fun σ2 H2 => wipe σ2 vs = wipe σ vs ∧ tt σ2 H2 fun b H3 => if b = true then te σ2 H3 R else R' H3)
    (q : ∀ p H' vs, H p = none → Same H H' → H' p = some (.lst vs) → DpAll K (rs (· ≠ p) H') vs ((List.range n).filterMap f) → Qd p H') :
    ∀ D, H D = none → ∃ W : Nat → Nat → Hp → Prop, (∃ m, W 0 m (upd H D (.lst []))) ∧ ∀ i m H, W i m H →
      (J.stop i H ∧ Qd D H) ∨ (J.go i H ∧ ∃ Nx : Hp → Prop, (∀ H', Nx H' → ∃ m', m' < m ∧ W (i + 1) m' H') ∧ ∀ x H', J.yld i H x H' → g x (wipe σ vs) H' fun σ2 H2 => wipe σ2 vs = wipe σ vs ∧ tt σ2 H2 fun b H3 =>
        if b = true then te σ2 H3 fun y H4 => ∃ acc, H4 D = some (.lst acc) ∧ acc.length < sizeLine ∧ Nx (upd H4 D (.lst (acc ++ [y]))) else Nx H3) := by
  intro D hD
  refine lc_it w (fun i H2 => Same H H2 ∧ ∃ us, H2 D = some (.lst us) ∧ DpAll K (rs (· ≠ D) H2) us ((List.range i).filterMap f)) ⟨same_new hD, [], upd_same, .nil⟩ (fun i H2 _ p => hG H2 p.1) ?_ (fun H2 ⟨p1, us, p2, p3⟩ => q D H2 us hD p1 p2 p3)
  rintro i x H2 H' hi ⟨p1, us, p2, p3⟩ y
  refine hs i x D H2 H' _ _ hi hD p1 ⟨_, p2⟩ y (fun y d H4 e s dy => ?_) (fun H3 e s => ?_)
  · have e4 : Same (rs (· ≠ D) H2) (rs (· ≠ D) H4) := rs_same fun a o h1 h2 => ⟨h1, s _ _ h2⟩
    have e5 : Same (rs (· ≠ D) H4) (rs (· ≠ D) (upd H4 D (.lst (us ++ [y])))) := rs_same fun a o h1 h2 => ⟨h1, by rw [upd_ne h1]; exact h2⟩
    refine ⟨us, s _ _ p2, sz_lt (by have := p3.len; have := fm_len' f i; omega), same_mut (p1.trans s) hD, _, upd_same, ?_⟩
    rw [fm_succ', e]
    exact ((p3.same e4).same e5).snoc (dy.same e5)
  · refine ⟨p1.trans s, us, s _ _ p2, ?_⟩
    rw [fm_succ', e, List.append_nil]
    exact p3.same (rs_same fun a o h1 h2 => ⟨h1, s _ _ h2⟩)
end
/-! ### defs that may raise -/
structure MetX (P : Program) (w : World) (K : PySem.W.Frag) (mg : Str → Option Value) (base : Heap) (k : Nat) (C : Addr) (m : Str) (sp : Sp) : Prop where
  ex : ∃ (f : Addr) (fd : FuncData) (ps : List Str), Cls K C ∧ Meth K C m f ∧ FnOk P w K mg base (L2.CX P w) k f fd ps sp ∧ Binds K fd ps []
structure MakX (P : Program) (w : World) (K : PySem.W.Frag) (mg : Str → Option Value) (base : Heap) (k : Nat) (x : Str) (C : Addr) (sp : Sp) : Prop where
  ex : ∃ (f : Addr) (fd : FuncData) (ps : List Str), Mk K C f ∧ FnOk P w K mg base (L2.CX P w) k f fd ps sp ∧ mg x = some (.ref C) ∧ Binds K fd ps []
section
variable {P : Program} {w : World} {K : PySem.W.Frag} {mg : Str → Option Value} {base : Heap}
theorem MethAt.metX {C : Addr} {m qual : Str} {st : Stmt} {N ps : List Str} {k : Nat} {sp : Sp} (c : Cls K C) (d : MethAt K C m qual st ps) (S : FnScope N ps (defScope st)) (len : ∀ vs H Q E, sp vs H Q E → vs.length = ps.length)
    (hbody : ∀ (f : Addr) (cdv : Value) (A : Around) (outer : List Env) (s : Shared) (H : Hp) (vs : List V) (Q : VK) (E : XK), Room k (A.deeper (envOfC qual (defScope st) s.heap.objs.size f cdv)) → sp vs H Q E →
      ∃ t, PSs (cxOf (L2.CX P w) P w K mg base N qual (defScope st) f cdv A outer s H E) (defBody st) t ∧ t { nx := fun _ H' => Q .non H', rt := Q } (start N vs) H) : MetX P w K mg base (k + 1) C m sp := by
  obtain ⟨f, fd, F, hm, b⟩ := d.ex
  exact ⟨f, fd, ps, c, hm, F.okX S len (hbody f), b⟩
theorem InitAt.makX {x : Str} {C : Addr} {qual : Str} {st : Stmt} {N ps : List Str} {k : Nat} {sp : Sp} (hx : mg x = some (.ref C)) (d : InitAt K C qual st ps) (S : FnScope N ps (defScope st)) (len : ∀ vs H Q E, sp vs H Q E → vs.length = ps.length)
    (hbody : ∀ (f : Addr) (cdv : Value) (A : Around) (outer : List Env) (s : Shared) (H : Hp) (vs : List V) (Q : VK) (E : XK), Room k (A.deeper (envOfC qual (defScope st) s.heap.objs.size f cdv)) → sp vs H Q E →
      ∃ t, PSs (cxOf (L2.CX P w) P w K mg base N qual (defScope st) f cdv A outer s H E) (defBody st) t ∧ t { nx := fun _ H' => Q .non H', rt := Q } (start N vs) H) : MakX P w K mg base (k + 1) x C sp := by
  obtain ⟨f, fd, F, hm, b⟩ := d.ex
  exact ⟨f, fd, ps, hm, F.okX S len (hbody f), hx, b⟩
end
/-- where no exception is wanted -/
theorem passN {X : Cx} (σ : L2.St) : PassesAt (L2.CX X.prog X.w) X σ ((fun _ => E0) σ) := fun pins H s e s' I c => passL pins σ H s e s' I c
/-- x.m(..), C(..), where what is raised is wished for at the caller's slots -/
def tMethE (C : Addr) (m : Str) (sp : Sp) (E : L2.St → XK) (ta : TE) (t : TA) : TE := fun σ H Q => ta σ H fun x H1 => ∃ a dx fs, x = .ref a ∧ H1 a = some (.ins C dx fs) ∧ fs.lookup m = none ∧ t σ H1 fun vs H2 => sp (x :: vs) H2 Q (E σ)
def tMakeE (C : Addr) (sp : Sp) (E : L2.St → XK) (t : TA) : TE := fun σ H Q => t σ H fun vs H1 => ∀ x dx, H1 x = none → H1 dx = none → dx ≠ x →
  sp (.ref x :: vs) (upd (upd H1 dx (.own x)) x (.ins C dx [])) (fun v H2 => v = .non ∧ Q (.ref x) H2) (E σ)
section
variable {X : Cx} {CX : CXT} {k j : Nat} {f C : Addr} {fd : FuncData} {ps : List Str} {x m : Str} {sp : Sp} {p pos apos : Pos} {e o : Expr} {es : List Expr} {ta : TE} {t : TA} {E : L2.St → XK}
theorem run_makeS {pins : List (Addr × Obj)} {σ : L2.St} {H : Hp} {s : Shared} {Q : VK} {us : List Value} {vs : List V} (M : Mk X.K C f) (F : FnOk X.prog X.w X.K X.mg X.base CX k f fd ps sp) (hr : Room (k + 1) X.A) (hb : Binds X.K fd ps [])
    (hx : PassesAt CX X σ (E σ)) (I : Inv X pins σ H s) (r : Vals vs us)
    (h : ∀ x dx, H x = none → H dx = none → dx ≠ x → sp (.ref x :: vs) (upd (upd H dx (.own x)) x (.ins C dx [])) (fun v H2 => v = .non ∧ Q (.ref x) H2) (E σ)) :
    wpAny (model X.prog X.w) X.A (call (.ref C) us) (EP X pins σ Q) X.xe s := by
  -- the new object's place, its dict's place
  obtain ⟨dn, hdn⟩ : ∃ dn, dn = s.heap.objs.size := ⟨_, rfl⟩
  have fresh1 : H dn = none := I.hok.fresh (Nat.le_of_eq hdn.symm)
  have fresh2 : H (dn + 1) = none := I.hok.fresh (Nat.le_succ_of_le (Nat.le_of_eq hdn.symm))
  have asked := h (dn + 1) dn fresh2 fresh1 (Nat.ne_of_lt (Nat.lt_succ_self _))
  have J := Inv.made (C := C) I
  rw [← hdn] at J
  have args : Vals (V.ref (dn + 1) :: vs) (Value.ref (dn + 1) :: us) := .cons rfl r
  have many : (Value.ref (dn + 1) :: us).length = ps.length := args.length.symm.trans (F.len _ _ _ _ asked)
  have bound := hb _ (Value.ref (dn + 1) :: us) J.kIn (by rw [List.append_nil]; exact many)
  rw [List.append_nil] at bound
  subst hdn
  refine wpAny_call (make_map (f := f) I.kIn M.makes M.init (beq_iff_eq.mp M.fn) ?_)
  refine codeAny_mono (F.run _ X.stack _ _ ⟨_, []⟩ _ _ _ (E σ) (hr.make C us []) (J.env0.make C us []) bound args asked) fun out s' ho => ?_
  match out, ho with
  | .error e, ho => exact hx pins _ _ e s' J ho
  | .ok (.ret u), ho =>
    obtain ⟨v, H', J', rel, hv, rest⟩ := J.after ho
    cases hv
    exact ⟨rel, .ref (s.heap.objs.size + 1), H', J', rfl, rest⟩
  | .ok .next, ho => exact ho.elim
  | .ok .brk, ho => exact ho.elim
  | .ok .cont, ho => exact ho.elim
theorem pe_xS (c : CalX X.prog X.w X.K X.mg X.base k x sp) (hr : Room j X.A) (hk : k ≤ j) (hg : Gl X x) (hx : ∀ σ, PassesAt (L2.CX X.prog X.w) X σ (E σ)) (ha : PA X (e :: es) t)
    (hdb : (x == ("__debug__" : Str)) = false := by decide) (he : starEach (e :: es) X.env = (false, eval e X.env) :: starEach es X.env := by rfl) (hpl : (backTo pos (starEach es X.env)).any (·.1) = false := by rfl) :
    PE X (.Call (.Name x p) (e :: es) [] pos) (tCallS sp E t) := by
  obtain ⟨f, fd, ps, F, hm, kp, b⟩ := c.ex
  exact pe_callS F (hr.mono hk) hg hm kp b hx ha hdb he hpl
theorem pe_xMk (c : MakX X.prog X.w X.K X.mg X.base k x C sp) (hr : Room j X.A) (hk : k + 1 ≤ j) (hg : Gl X x) (hx : ∀ σ, PassesAt (L2.CX X.prog X.w) X σ (E σ)) (ha : PA X (e :: es) t)
    (hdb : (x == ("__debug__" : Str)) = false := by decide) (he : starEach (e :: es) X.env = (false, eval e X.env) :: starEach es X.env := by rfl) (hpl : (backTo pos (starEach es X.env)).any (·.1) = false := by rfl) :
    PE X (.Call (.Name x p) (e :: es) [] pos) (tMakeE C sp E t) := by
  obtain ⟨f, fd, ps, M, F, hm, hb⟩ := c.ex
  refine ⟨fun pins s σ H Q I h => ?_⟩
  refine wpAny_Call_Name_kw (ld_glob I hg hm ?_ hdb)
  refine PySem.W.callWith_K (h₀ := X.base) I.ok.mod.kin M.kp (thn (ha.run pos pins s σ H _ I h) fun us s1 ⟨vs, H1, I1, r, q⟩ => ⟨I1.kIn, ?_⟩) he hpl
  exact run_makeS M F (hr.mono hk) hb (hx σ) I1 r q
theorem pe_xMt {pl : Sem Bool} (c : MetX X.prog X.w X.K X.mg X.base k C m sp) (hr : Room j X.A) (hk : k ≤ j) (hx : ∀ σ, PassesAt (L2.CX X.prog X.w) X σ (E σ)) (he : PE X o ta) (ha : PA X (e :: es) t)
    (hst : starEach (e :: es) X.env = (false, eval e X.env) :: starEach es X.env := by rfl) (hpl : (backTo pos (starEach es X.env)).any (·.1) = false := by rfl)
    (ht : eval (.Call (.Attribute o m apos) (e :: es) [] pos) X.env = (do
      let ov ← eval o X.env
      standAt apos.atName
      let (f, first) ← holding [ov] (getMethod ov m pl)
      callWith pos f first (backTo pos (starEach (e :: es) X.env)) (backToKw pos (keywordEach [] X.env))) := by rfl) :
    PE X (.Call (.Attribute o m apos) (e :: es) [] pos) (tMethE C m sp E ta t) := by
  obtain ⟨f, fd, ps, hc, hm, F, hb⟩ := c.ex
  refine ⟨fun pins s σ H Q I h => ?_⟩
  refine PySem.W.methodCall_KW (pl := pl) (thn (he.run pins s σ H _ I h) fun u s1 ⟨x, H1, I1, rx, a, dx, fs, ex, ea, l, q⟩ => ?_) ht
  subst ex
  obtain rfl : u = Value.ref a := rx
  refine getmeth_ok I1 ea hc hm l ?_
  refine PySem.W.callWith_K (first := [.ref a]) (h₀ := X.base) I.ok.mod.kin hm.kp (thn (ha.run pos pins s1 σ H1 _ I1 q) fun us s2 ⟨vs, H2, I2, r, q2⟩ => ⟨I2.kIn, ?_⟩) hst hpl
  exact run_fnS (us := .ref a :: us) (vs := .ref a :: vs) F (hr.mono hk) hb (hx σ) I2 (.cons rfl r) q2
theorem pe_xMt0 {pl : Sem Bool} (c : MetX X.prog X.w X.K X.mg X.base k C m sp) (hr : Room j X.A) (hk : k ≤ j) (hx : ∀ σ, PassesAt (L2.CX X.prog X.w) X σ (E σ)) (he : PE X o ta)
    (ht : eval (.Call (.Attribute o m apos) [] [] pos) X.env = (do
      let ov ← eval o X.env
      standAt apos.atName
      let (f, first) ← holding [ov] (getMethod ov m pl)
      callWith pos f first (backTo pos (starEach [] X.env)) (backToKw pos (keywordEach [] X.env))) := by rfl) :
    PE X (.Call (.Attribute o m apos) [] [] pos) (tMethE C m sp E ta tNil) := by
  obtain ⟨f, fd, ps, hc, hm, F, hb⟩ := c.ex
  refine ⟨fun pins s σ H Q I h => ?_⟩
  refine PySem.W.methodCall_KW (pl := pl) (thn (he.run pins s σ H _ I h) fun u s1 ⟨x, H1, I1, rx, a, dx, fs, ex, ea, l, q⟩ => ?_) ht
  subst ex
  obtain rfl : u = Value.ref a := rx
  refine getmeth_ok I1 ea hc hm l ?_
  exact PySem.W.callWith_K0 (first := [.ref a]) I1.kIn hm.kp (run_fnS (us := [.ref a]) (vs := [.ref a]) F (hr.mono hk) hb (hx σ) I1 (.cons rfl .nil) q)
end
/-- an own exception class that is raised; one that is caught -/
structure ExcAt (K : PySem.W.Frag) (C : Addr) : Prop where
  x : PySem.W.excIn K C [.type "ValueError", .type "Exception", .type "BaseException", .type "object"] "ValueError.__new__" = true
  k : PySem.W.keepIn K (.ref C) = true
  b : PySem.W.subIn K (.ref C) (.type "BaseException") = some true
  t : PySem.W.typeIn K (.ref C) = some (.type "type")
structure ExcK (K : PySem.W.Frag) (C : Addr) : Prop where
  b : PySem.W.subIn K (.ref C) (.type "BaseException") = some true
  i : PySem.W.isClsIn K C = true
  t : PySem.W.typeIn K (.ref C) = some (.type "type")
theorem ExcK.exm {K : PySem.W.Frag} {C D : Addr} {r : Bool} (c : ExcK K C) (h : PySem.W.subIn K (.ref D) (.ref C) = some r) : PySem.W.exmOne K (.ref D) (.ref C) = some r := by
  have e1 : (PySem.W.subIn K (.ref C) (.type "BaseException") == some true) = true := by rw [c.b] <;> rfl
  have e2 : ((PySem.W.clsIn K C).isSome && PySem.W.typeIn K (.ref C) == some (.type "type")) = true := by
    have h2' : (PySem.W.clsIn K C).isSome = true := c.i
    rw [h2', c.t] <;> rfl
  show (if (PySem.W.subIn K (.ref C) (.type "BaseException") == some true) = true then (if ((PySem.W.clsIn K C).isSome && PySem.W.typeIn K (.ref C) == some (.type "type")) = true then PySem.W.subIn K (.ref D) (.ref C) else none) else none) = some r
  rw [if_pos e1, if_pos e2]
  exact h
/-- C() -/
theorem pmk_own0 {X : Cx} {C : Addr} {x : Str} {p pos : Pos} (c : ExcAt X.K C) (gC : X.mg x = some (.ref C)) (hg : Gl X x) (hdb : (x == ("__debug__" : Str)) = false := by decide) :
    PMk X (.Call (.Name x p) [] [] pos) (fun _ H Q => Q (.ref C) none H) := by
  intro pins s σ H Q I h
  refine wpAny_Call_Name_kw (ld_glob I hg gC ?_ hdb)
  refine PySem.W.callWith_K0 I.kIn c.k ?_
  obtain ⟨bm, N, nm, qn, bs, hdct, sn, sub, ab, col, dd, k0, k1, k2, k3, k5, mN, hC, hN, hni, T⟩ := exc_obj I.kIn c.x
  refine wpAny_call_exc_subT PySem.F.excBase_ValueError T hC hN hni (fun h' e hm => ?_) (Nat.zero_le _)
  exact mk_of I hm (raises_own c.b c.t) h (I.hok.gone hm.new)
section
variable {K : PySem.W.Frag} {σ : L2.St} {H : Hp} {ta : TE} {tr : TA} {Q : VK} {E : L2.St → XK} {C : Addr} {m : Str} {sp : Sp}
theorem L_callS (h : tr σ H fun vs H1 => sp vs H1 Q (E σ)) : tCallS sp E tr σ H Q := h
theorem L_methE (h : ta σ H fun x H1 => ∃ a dx fs, x = .ref a ∧ H1 a = some (.ins C dx fs) ∧ fs.lookup m = none ∧ tr σ H1 fun vs H2 => sp (x :: vs) H2 Q (E σ)) : tMethE C m sp E ta tr σ H Q := h
theorem L_makeE (h : tr σ H fun vs H1 => MakeP C sp (E σ) vs H1 Q) : tMakeE C sp E tr σ H Q := h
theorem L_meth {E : XK} (h : ta σ H fun x H1 => ∃ a dx fs, x = .ref a ∧ H1 a = some (.ins C dx fs) ∧ fs.lookup m = none ∧ tr σ H1 fun vs H2 => sp (x :: vs) H2 Q E) : tMeth C m sp [] E ta tr σ H Q := by
  unfold tMeth
  simp only [List.append_nil]
  exact h
theorem L_methv {a dx : Addr} {fs : List (Str × V)} {R : Prop} (h : H a = some (.ins C dx fs)) (l : fs.lookup m = none) (q : R) : ∃ a' dx fs, V.ref a = V.ref a' ∧ H a' = some (.ins C dx fs) ∧ fs.lookup m = none ∧ R := ⟨a, dx, fs, rfl, h, l, q⟩
theorem L_only {c : Value} {ts : Addr → Value → Option Addr → TS} {Wout : WX} {D : Ends} {cls : Value} {d : Option Addr} (h : PySem.W.exmOne K cls c = some true) (q : ∀ a, H a = none → ts a cls d D σ H) : wOnly K c ts Wout D cls d σ H := ⟨true, h, fun _ => q, fun z => nomatch z⟩
end
/-- no whole number: another kind of thing, or a truth -/
def NotW (K : PySem.W.Frag) (H : Hp) (v : V) : Prop := (∃ b, v = .bl b) ∨ ∃ a, TyX K H v (.type a) ∧ kitB a "int" = some false
/-- what is_whole denies -/
def BadW (K : PySem.W.Frag) (H : Hp) (v : V) (lo hi : Int) : Prop := NotW K H v ∨ ∃ t, v = .int t ∧ ¬ (lo ≤ t ∧ t ≤ hi)
section
variable {K : PySem.W.Frag} {H : Hp}
theorem notw_non : NotW K H .non := .inr ⟨_, .base .non, by decide +kernel⟩
theorem notw_bl {b : Bool} : NotW K H (.bl b) := .inl ⟨b, rfl⟩
theorem notw_str {z : Str} : NotW K H (.str z) := .inr ⟨_, .base (.str z), by decide +kernel⟩
theorem notw_lst {a : Addr} {xs : List V} (h : H a = some (.lst xs)) : NotW K H (.ref a) := .inr ⟨_, .base (.lst h), by decide +kernel⟩
theorem notw_tup {a : Addr} {xs : List V} (h : H a = some (.tup xs)) : NotW K H (.ref a) := .inr ⟨_, .base (.tup h), by decide +kernel⟩
theorem notw_dK {a : Addr} {xs : List (Key × V)} (h : H a = some (.dK xs)) : NotW K H (.ref a) := .inr ⟨_, .base (.dK h), by decide +kernel⟩
theorem badw_int {t lo hi : Int} (h : ¬ (lo ≤ t ∧ t ≤ hi)) : BadW K H (.int t) lo hi := .inr ⟨t, rfl, h⟩
theorem NotW.bad {v : V} {lo hi : Int} (h : NotW K H v) : BadW K H v lo hi := .inl h
end
section
variable {K : PySem.W.Frag} {H H' : Hp}
theorem tyx_T {a : Addr} {xs : List V} (h : SqT K H a xs) : TyX K H (.ref a) (.type "tuple") := by
  rcases h with (h | ⟨o, h⟩) | ⟨o, _, _, h, c, _⟩
  · exact .base (.tup h)
  · exact .fTuple h
  · exact .kTuple h c
theorem tyx_L {a : Addr} {xs : List V} (h : SqL K H a xs) : TyX K H (.ref a) (.type "list") := by
  rcases h with (h | ⟨o, h⟩) | ⟨o, _, _, h, c, _⟩
  · exact .base (.lst h)
  · exact .base (.frz h)
  · exact .kList h c
variable {σ : L2.St} {Q : VK}
theorem L_sort2 {a : Addr} {x y : Int} (h : SqL K H a [V.int x, V.int y]) (q : ∀ p, H p = none → Q (.ref p) (upd H p (.lst [V.int (min x y), V.int (max x y)]))) : rSorted K [.ref a] H Q := by
  refine ⟨a, [x, y], rfl, h, by simp, fun ns p hp hs hn => ?_⟩
  have hl := hp.length_eq
  match ns, hl with
  | [u, v], _ =>
    have hle : u ≤ v := by simpa using hs
    have hm : (u = x ∧ v = y) ∨ (u = y ∧ v = x) := by
      have h1 : u ∈ [x, y] := hp.mem_iff.mp (by simp)
      have h2 : v ∈ [x, y] := hp.mem_iff.mp (by simp)
      have h3 : x ∈ [u, v] := hp.mem_iff.mpr (by simp)
      have h4 : y ∈ [u, v] := hp.mem_iff.mpr (by simp)
      simp only [List.mem_cons, List.not_mem_nil, or_false] at h1 h2 h3 h4
      rcases h1 with h1 | h1 <;> rcases h2 with h2 | h2 <;> rcases h3 with h3 | h3 <;> rcases h4 with h4 | h4 <;> omega
    have e : [u, v] = [min x y, max x y] := by
      rcases hm with ⟨rfl, rfl⟩ | ⟨rfl, rfl⟩
      · rw [Int.min_eq_left hle, Int.max_eq_right hle]
      · rw [Int.min_eq_right hle, Int.max_eq_left hle]
    rw [e]
    exact q p hn
theorem L_list1 {a : Addr} {xs : List V} (h : SqL K H a xs) (q : ∀ l, H l = none → Q (.ref l) (upd H l (.lst xs))) : aList1 K [.ref a] H Q := ⟨a, xs, rfl, .inl h, q⟩
theorem L_tuple1 {a : Addr} {xs : List V} (h : SqL K H a xs) (q : ∀ l, H l = none → Q (.ref l) (upd H l (.tup xs))) : aTuple1 K [.ref a] H Q := ⟨a, xs, rfl, .inl ⟨h, q⟩⟩
theorem eqv_same {d : PyData} (h : SeqAt.shaped d = true) : PyData.eqv d d = true := SeqAt.eqv_refl d (SeqAt.canLay_of_shaped h)
theorem L_eqR {x y : V} {d : PyData} (hx : Dp K H x d) (hy : Dp K H y d) (s : SeqAt.shaped d = true) (q : Q (.bl true) H) : aEq K x y H Q := L_eqD hx hy s s (by rw [eqv_same s]; exact q)
theorem L_neR {x y : V} {d : PyData} (hx : Dp K H x d) (hy : Dp K H y d) (s : SeqAt.shaped d = true) (q : Q (.bl false) H) : aNe K x y H Q := L_neD hx hy s s (by rw [eqv_same s]; exact q)
theorem L_zipA {a b : Addr} {xs ys : List V} {R : Addr → Addr → Prop} (h1 : SqL K H a xs) (h2 : SqL K H b ys) (q : R a b) : ∃ a' b' xs ys, [V.ref a, V.ref b] = [.ref a', .ref b'] ∧ SqL K H a' xs ∧ SqL K H b' ys ∧ R a' b' := ⟨a, b, xs, ys, rfl, h1, h2, q⟩
end
/-- data that == may be asked of, at most n deep -/
structure Shp (n : Nat) (d : PyData) : Prop where
  c : d.canLay0 = true
  d : d.depth ≤ n
theorem Shp.ok {n : Nat} {d : PyData} (h : Shp n d) (hn : n ≤ 64 := by decide) : SeqAt.shaped d = true := by
  unfold SeqAt.shaped
  rw [h.c, decide_eq_true (Nat.le_trans h.d hn)]; rfl
theorem shp_int {n : Nat} {i : Int} : Shp n (.int i) := ⟨by simp [PyData.canLay0], by simp [PyData.depth]⟩
theorem shp_bl {n : Nat} {i : Bool} : Shp n (.bool i) := ⟨by simp [PyData.canLay0], by simp [PyData.depth]⟩
theorem shp_non {n : Nat} : Shp n .none := ⟨by simp [PyData.canLay0], by simp [PyData.depth]⟩
theorem shp_str {n : Nat} {z : Str} (h : PyData.strOk z = true) : Shp n (.str z) := ⟨by simpa [PyData.canLay0] using h, by simp [PyData.depth]⟩
theorem shp_all {n : Nat} : ∀ {ds : List PyData}, (∀ d ∈ ds, Shp n d) → PyData.canLayAll0 ds = true ∧ PyData.depthAll ds ≤ n
  | [], _ => ⟨by simp [PyData.canLayAll0], by simp [PyData.depthAll]⟩
  | d :: ds, h => by
    have h1 := h d (List.mem_cons_self ..)
    have h2 := shp_all fun x hx => h x (List.mem_cons_of_mem _ hx)
    exact ⟨by simp [PyData.canLayAll0, h1.c, h2.1], by simp only [PyData.depthAll]; exact Nat.max_le.mpr ⟨h1.d, h2.2⟩⟩
theorem shp_lst {n : Nat} {ds : List PyData} (h : ∀ d ∈ ds, Shp n d) : Shp (n + 1) (.list ds) := ⟨by simp only [PyData.canLay0]; exact (shp_all h).1, by simp only [PyData.depth]; have := (shp_all h).2; omega⟩
theorem shp_tup {n : Nat} {ds : List PyData} (h : ∀ d ∈ ds, Shp n d) : Shp (n + 1) (.tuple ds) := ⟨by simp only [PyData.canLay0]; exact (shp_all h).1, by simp only [PyData.depth]; have := (shp_all h).2; omega⟩
theorem shp_nil {n : Nat} : ∀ d ∈ ([] : List PyData), Shp n d := fun _ h => nomatch h
theorem shp_cons {n : Nat} {d : PyData} {ds : List PyData} (h : Shp n d) (t : ∀ d ∈ ds, Shp n d) : ∀ x ∈ d :: ds, Shp n x := fun x hx => by
  rcases List.mem_cons.mp hx with rfl | hx
  · exact h
  · exact t x hx
theorem shp_map {n : Nat} {α : Type} {f : α → PyData} {l : List α} (h : ∀ a ∈ l, Shp n (f a)) : ∀ d ∈ l.map f, Shp n d := fun d hd => by
  obtain ⟨a, ha, rfl⟩ := List.mem_map.mp hd
  exact h a ha
theorem shp_ints {n : Nat} {l : List Int} : Shp (n + 1) (.list (l.map .int)) := shp_lst (shp_map fun _ _ => shp_int)
theorem _root_.L2.Dp.ints {K : PySem.W.Frag} {H : Hp} {a : Addr} {ns : List Int} (h : SqL K H a (ns.map V.int)) : Dp K H (.ref a) (.list (ns.map .int)) := .lst h (dp_ints ns)
section
variable {K : PySem.W.Frag} {H : Hp} {Q : VK}
theorem L_powE {i j n : Int} (h : CPow i j) (e : i ^ j.toNat = n) (q : Q (.int n) H) : rI CPow (fun i j => .int (i ^ j.toNat)) (.int i) (.int j) H Q := ⟨i, j, rfl, rfl, h, by subst e; exact q⟩
/-- one of some ints -/
theorem L_menu {ns : List Int} {p : Addr} {i : Int} (h : SqL K H p (ns.map V.int)) (h0 : 0 ≤ i) (h1 : i < ns.length) (q : ∀ v ∈ ns, Q (.int v) H) : rIx K (.ref p) (.int i) H Q := by
  have hl : i.toNat < ns.length := by omega
  refine L_ixL h (atI_ints h0 h1) (q _ ?_)
  rw [List.getD_eq_getElem?_getD, List.getElem?_eq_getElem hl]
  exact List.getElem_mem hl
/-- an item of a list of ints, some property of all its items kept -/
theorem L_ixP {ns : List Int} {p : Addr} {i : Int} {P : Int → Prop} (h : SqL K H p (ns.map V.int)) (hP : ∀ v ∈ ns, P v) (h0 : 0 ≤ i) (h1 : i < ns.length) (q : ∀ v, P v → Q (.int v) H) : rIx K (.ref p) (.int i) H Q :=
  L_menu h h0 h1 fun v hv => q v (hP v hv)
end
theorem cdiv_lit {i j : Int} (h : 0 < j ∧ j < 1000000000000) : CDivW i j := (bd_64 (by omega)).cdiv h.1
theorem cpow_lit {i j : Int} (h : 0 ≤ j ∧ j ≤ 1000 ∧ -1000000 < i ∧ i < 1000000) : CPow i j := by
  have e : (2 : Nat) ^ 64 = 18446744073709551616 := by decide
  exact ⟨h.1, by omega, by omega⟩
theorem same_newE {H Hn : Hp} {p : Addr} {o : HO} (e : upd H p o = Hn) (h : H p = none) : Same H Hn := e ▸ same_new h
theorem upd_at {H Hn : Hp} {p : Addr} {o : HO} (e : upd H p o = Hn) : Hn p = some o := e ▸ upd_same
section
variable {K : PySem.W.Frag} {H H' : Hp} {p q : Addr} {us xs : List V} {ds : List PyData} {d : PyData} {y : V} {o : HO}
/-- a list grows: its things stand apart from it -/
theorem dp_grow (hdp : DpAll K (rs (· ≠ p) H) us ds) (s : Same H H') (hy : Dp K (rs (· ≠ p) H') y d) : DpAll K (rs (· ≠ p) (upd H' p o)) (us ++ [y]) (ds ++ [d]) :=
  (hdp.same (rs_same fun a u na ha => ⟨na, by rw [upd_ne na]; exact s _ _ ha⟩)).snoc (hy.same (rs_same fun a u na ha => ⟨na, by rw [upd_ne na]; exact ha⟩))
theorem dp_tupN (h : H q = some (.tup xs)) (n : q ≠ p) (ha : DpAll K (rs (· ≠ p) H) xs ds) : Dp K (rs (· ≠ p) H) (.ref q) (.tuple ds) := .tup (.of (rs_at n h)) ha
theorem dp_lstN (h : H q = some (.lst xs)) (n : q ≠ p) (ha : DpAll K (rs (· ≠ p) H) xs ds) : Dp K (rs (· ≠ p) H) (.ref q) (.list ds) := .lst (.of (rs_at n h)) ha
/-- data that stood ahead of p -/
theorem dp_old {H0 : Hp} (h : Dp K H0 y d) (n : H0 p = none) (s : Same H0 H) : Dp K (rs (· ≠ p) H) y d := h.same (rs_all fun a u ha => ⟨fun z => (by rw [z, n] at ha; cases ha), s _ _ ha⟩)
theorem dpA_old {H0 : Hp} (h : DpAll K H0 us ds) (n : H0 p = none) (s : Same H0 H) : DpAll K (rs (· ≠ p) H) us ds := h.same (rs_all fun a u ha => ⟨fun z => (by rw [z, n] at ha; cases ha), s _ _ ha⟩)
theorem dp_whole (h : DpAll K (rs (· ≠ p) H) us ds) (e : H p = some (.lst us)) : Dp K H (.ref p) (.list ds) := .lst (.of e) (h.same rs_sub)
theorem ne_new (h : H p = none) (h' : ∃ o, H q = some o) : p ≠ q := fun z => by
  obtain ⟨o, e⟩ := h'
  rw [z, e] at h; cases h
end
theorem fm_get {α β : Type} (g : α → β) : ∀ (l : List α), (List.range l.length).filterMap (fun i => l[i]?.map g) = l.map g
  | [] => rfl
  | a :: l => by
    have ih := fm_get g l
    rw [List.length_cons, List.range_succ_eq_map]
    simp only [List.filterMap_cons, List.getElem?_cons_zero, Option.map_some, List.filterMap_map, Function.comp_def, List.getElem?_cons_succ, List.map_cons]
    rw [ih]
theorem sum_take {α : Type} {l : List α} {f : α → Int} {i : Nat} {x : α} (h : l[i]? = some x) : ((l.take (i + 1)).map f).sum = ((l.take i).map f).sum + f x := by
  rw [List.take_succ, h]
  simp
theorem sum_takeAll {α : Type} {l : List α} {f : α → Int} {n : Nat} (h : l.length ≤ n) : ((l.take n).map f).sum = (l.map f).sum := by rw [List.take_of_length_le h]
/-! ### loops, the ends told one by one -/
section
variable {K : PySem.W.Frag} {σ : L2.St} {H : Hp} {g : TG} {tb : TS} {N : L2.St → Hp → Prop} {R : VK}
/-- what a for asks behind its iterable -/
abbrev ForT (J : It) (σ : L2.St) (H : Hp) (g : TG) (tb : TS) (N : L2.St → Hp → Prop) (R : VK) : Prop :=
  ∃ W : Nat → Nat → L2.St → Hp → Prop, (∃ m, W 0 m σ H) ∧ ∀ i m σ H, W i m σ H →
      (J.stop i H ∧ N σ H) ∨ (J.go i H ∧ ∃ M : L2.St → Hp → Prop, (∀ σ' H', M σ' H' → ∃ m', m' < m ∧ W (i + 1) m' σ' H') ∧ ∀ x H', J.yld i H x H' → g x σ H' fun σ2 H2 => tb ⟨M, R, N, M⟩ σ2 H2)
theorem f_it {J : It} {n : Nat} {G : Hp → Prop} {Y : Nat → Hp → V → Hp → Prop} (w : L2.Walk J n G Y) (Pv : Nat → L2.St → Hp → Prop) (h0 : Pv 0 σ H) (hG : ∀ i σ H, i ≤ n → Pv i σ H → G H)
    (hs : ∀ i x σ H H', i < n → Pv i σ H → Y i H x H' → g x σ H' fun σ2 H2 => tb ⟨Pv (i + 1), R, N, Pv (i + 1)⟩ σ2 H2) (hd : ∀ σ H, Pv n σ H → N σ H) : ForT J σ H g tb N R :=
  for_it (D := ⟨N, R, N, N⟩) w Pv h0 hG hs hd
theorem f_range {lo : Int} {n : Nat} (Pv : Nat → L2.St → Hp → Prop) (h0 : Pv 0 σ H)
    (hs : ∀ i σ H, i < n → Pv i σ H → g (.int (lo + i)) σ H fun σ2 H2 => tb ⟨Pv (i + 1), R, N, Pv (i + 1)⟩ σ2 H2) (hd : ∀ σ H, Pv n σ H → N σ H) : ForT (Itr lo n) σ H g tb N R :=
  for_range (D := ⟨N, R, N, N⟩) Pv h0 hs hd
theorem f_rangeC {lo c : Int} {n : Nat} (Pv : Nat → L2.St → Hp → Prop) (h0 : Pv 0 σ H)
    (hs : ∀ i σ H, i < n → Pv i σ H → g (.int (lo + (i : Nat) * c)) σ H fun σ2 H2 => tb ⟨Pv (i + 1), R, N, Pv (i + 1)⟩ σ2 H2) (hd : ∀ σ H, Pv n σ H → N σ H) : ForT (Itc lo c n) σ H g tb N R :=
  for_rangeC (D := ⟨N, R, N, N⟩) Pv h0 hs hd
theorem f_dp {a : Addr} {ds : List PyData} (h : Dp K H (.ref a) (.list ds)) (Pv : Nat → L2.St → Hp → Prop) (h0 : Pv 0 σ H) (hG : ∀ i σ' H', i ≤ ds.length → Pv i σ' H' → Same H H')
    (hs : ∀ i d x σ' H', i < ds.length → ds[i]? = some d → Pv i σ' H' → Dp K H' x d → g x σ' H' fun σ2 H2 => tb ⟨Pv (i + 1), R, N, Pv (i + 1)⟩ σ2 H2) (hd : ∀ σ' H', Pv ds.length σ' H' → N σ' H') : ForT (Itl K a) σ H g tb N R :=
  for_dp (D := ⟨N, R, N, N⟩) h Pv h0 hG hs hd
end
section
variable {σ σ' : L2.St} {H : Hp} {i : Nat} {v x : V} {B C : L2.St → Hp → Prop} {N : L2.St → Hp → Prop} {R : VK} {te : TE}
theorem L_gnameE {Q : L2.St → Hp → Prop} (e : σ.set i (some v) = σ') (h : Q σ' H) : gName i v σ H Q := by subst e; exact h
end
section
variable {K : PySem.W.Frag} {H H' : Hp} {σ : L2.St} {Q : VK} {te : TE} {tl th : TO}
theorem TyX_same {v : V} {t : Value} (e : Same H H') (h : TyX K H v t) : TyX K H' v t := by
  cases h with
  | base h =>
    refine .base ?_
    cases h with
    | non => exact .non
    | bl x => exact .bl x
    | int x => exact .int x
    | str x => exact .str x
    | flt x => exact .flt x
    | lst h => exact .lst (e _ _ h)
    | frz h => exact .frz (e _ _ h)
    | tup h => exact .tup (e _ _ h)
    | dK h => exact .dK (e _ _ h)
    | dT h => exact .dT (e _ _ h)
    | ins h cl ha hn htk hm => exact .ins (e _ _ h) cl ha hn htk hm
  | byt b => exact .byt b
  | set h => exact .set (e _ _ h)
  | kList h c => exact .kList h c
  | kTuple h c => exact .kTuple h c
  | kDict h c => exact .kDict h c
  | fTuple h => exact .fTuple (e _ _ h)
  | fDict h => exact .fDict (e _ _ h)
theorem NotW.same {v : V} (h : NotW K H v) (e : Same H H') : NotW K H' v := by
  rcases h with h | ⟨a, h1, h2⟩
  · exact .inl h
  · exact .inr ⟨a, TyX_same e h1, h2⟩
theorem BadW.same {v : V} {lo hi : Int} (h : BadW K H v lo hi) (e : Same H H') : BadW K H' v lo hi := by
  rcases h with h | h
  · exact .inl (h.same e)
  · exact .inr h
theorem L_sl {r : V → Option Int → Option Int → Hp → VK → Prop} (h : te σ H fun x H1 => tl σ H1 fun l H2 => th σ H2 fun u H3 => r x l u H3 Q) : L2.tSl r te tl th σ H Q := h
theorem L_noPart {R : Option Int → Hp → Prop} (h : R none H) : tNoPart σ H R := h
theorem L_part {t : TE} {R : Option Int → Hp → Prop} (h : t σ H fun x H1 => ∃ i, x = .int i ∧ R (some i) H1) : tPart t σ H R := h
theorem L_ki {i : Int} {R : Int → Prop} (h : R i) : ∃ j, V.int i = V.int j ∧ R j := ⟨i, rfl, h⟩
theorem L_slL {a : Addr} {xs : List V} {lo hi : Option Int} (h : SqL K H a xs) (q : ∀ p, H p = none → Q (.ref p) (upd H p (.lst (cutV xs lo hi)))) : rSlL K (.ref a) lo hi H Q := ⟨a, xs, rfl, h, q⟩
end
def cutG {α : Type} (xs : List α) (lo hi : Option Int) : List α := (xs.drop (HT.sIx xs.length 0 lo)).take (HT.sIx xs.length xs.length hi - HT.sIx xs.length 0 lo)
theorem cutV_map {α : Type} (f : α → V) (xs : List α) (lo hi : Option Int) : cutV (xs.map f) lo hi = (cutG xs lo hi).map f := by
  unfold cutV cutG
  rw [List.length_map, List.map_take, List.map_drop]
theorem cutG_mem {α : Type} {xs : List α} {lo hi : Option Int} {x : α} (h : x ∈ cutG xs lo hi) : x ∈ xs := List.mem_of_mem_drop (List.mem_of_mem_take h)
theorem cutG_len {α : Type} (xs : List α) (lo hi : Option Int) : (cutG xs lo hi).length ≤ xs.length := by
  unfold cutG
  rw [List.length_take, List.length_drop]
  omega
section
variable {K : PySem.W.Frag} {H : Hp} {Q : VK}
/-- one of some things -/
theorem L_menuV {xs : List V} {p : Addr} {i : Int} (h : SqL K H p xs) (h0 : 0 ≤ i) (h1 : i < xs.length) (q : ∀ v ∈ xs, Q v H) : rIx K (.ref p) (.int i) H Q := by
  have hl : i.toNat < xs.length := by omega
  exact L_ixL h (atI_int h0 (List.getElem?_eq_getElem hl)) (q _ (List.getElem_mem hl))
end
theorem hpL {K : PySem.W.Frag} {H : Hp} {a : Addr} {xs : List V} (h : H a = some (.lst xs)) : SqL K H a xs := .of h
theorem hpT {K : PySem.W.Frag} {H : Hp} {a : Addr} {xs : List V} (h : H a = some (.tup xs)) : SqT K H a xs := .of h
theorem bd_mod {x n : Int} (h : 0 < n ∧ n < 18446744073709551616) : Bd 64 (x % n) := bd_64 (by
  have h1 := Int.emod_nonneg x (show n ≠ 0 by omega)
  have h2 := Int.emod_lt_of_pos x h.1
  omega)
theorem hp_from {H0 H : Hp} {p : Addr} {o : HO} (h : H0 p = some o) (e : Same H0 H) : H p = some o := e _ _ h
theorem same_via {H H1 H2 : Hp} (b : Same H1 H2) (a : Same H H1) : Same H H2 := a.trans b
theorem same_upd' {H H' : Hp} {a : Addr} {o : HO} (h : H' a = none) (e : Same H H') : Same H (upd H' a o) := same_upd e h
theorem same_mut' {H H' : Hp} {a : Addr} {o : HO} (h : H a = none) (e : Same H H') : Same H (upd H' a o) := same_mut e h
section
variable {K : PySem.W.Frag} {H : Hp} {σ : L2.St} {Q : VK}
theorem L_clear {a : Addr} {xs : List V} (h : H a = some (.lst xs)) (q : Q .non (upd H a (.lst []))) : rClear (.ref a) [] H Q := ⟨a, xs, rfl, rfl, h, q⟩
theorem L_dnew (h : ∀ p, H p = none → Q (.ref p) (upd H p (.dK []))) : tDNewK σ H Q := h
/-- no list -/
def NotL (K : PySem.W.Frag) (H : Hp) (v : V) : Prop := ∃ a, TyX K H v (.type a) ∧ kitB a "list" = some false
theorem notl_tup {a : Addr} {xs : List V} (h : SqT K H a xs) : NotL K H (.ref a) := ⟨_, tyx_T h, by decide +kernel⟩
theorem notl_non : NotL K H .non := ⟨_, .base .non, by decide +kernel⟩
theorem notl_int {i : Int} : NotL K H (.int i) := ⟨_, .base (.int i), by decide +kernel⟩
theorem notl_bl {i : Bool} : NotL K H (.bl i) := ⟨_, .base (.bl i), by decide +kernel⟩
theorem notl_str {i : Str} : NotL K H (.str i) := ⟨_, .base (.str i), by decide +kernel⟩
theorem notl_dK {a : Addr} {xs : List (Key × V)} (h : H a = some (.dK xs)) : NotL K H (.ref a) := ⟨_, .base (.dK h), by decide +kernel⟩
theorem NotL.same {H' : Hp} {v : V} (h : NotL K H v) (e : Same H H') : NotL K H' v := by
  obtain ⟨a, h1, h2⟩ := h
  exact ⟨a, TyX_same e h1, h2⟩
end
theorem rep1 (x : Int) : ∀ n : Nat, (List.replicate n [V.int x]).flatten = (List.replicate n x).map V.int
  | 0 => rfl
  | n + 1 => by rw [List.replicate_succ, List.flatten_cons, rep1 x n]; rfl
section
variable {K : PySem.W.Frag} {H : Hp} {Q : VK}
theorem L_neB {i j : Bool} (q : Q (.bl (!decide (i = j))) H) : aNe K (.bl i) (.bl j) H Q := .inl ⟨rfl, by rw [show decide (V.bl i = V.bl j) = decide (i = j) by simp]; exact q⟩
end
/-! ### for x in xs: check(x) -/
section
variable {K : PySem.W.Frag} {σ : L2.St} {H : Hp} {N : L2.St → Hp → Prop} {R : VK} {a : Addr} {xs : List V} {sp : Sp} {ES : L2.St → XK} {i : Nat} {c : Value}
theorem set_self (σ : L2.St) (i : Nat) (hi : i < σ.length) : ∃ v, σ = σ.set i v := ⟨σ[i], by simp⟩
theorem L_forChk (hL : SqL K H a xs) (hi : i < σ.length) (hok : ∀ x ∈ xs, ∀ Q E, Q .non H → sp [x] H Q E) (q : ∀ v, N (σ.set i v) H) : ForT (Itl K a) σ H (gName i) (tDrop (tCallS sp ES (tCons (tVar i) tNil))) N R := by
  refine f_it walk_list (fun _ σ' H' => H' = H ∧ ∃ v, σ' = σ.set i v) ⟨rfl, set_self σ i hi⟩ (fun _ _ _ _ p => p.1 ▸ hL) ?_ ?_
  · rintro j x σ' H' H'' hj ⟨rfl, v, rfl⟩ ⟨rfl, e⟩
    refine L_gname (L_drop (L_callS (L_cons (L_var (v := x) ?_ (L_nil (hok x (List.mem_of_getElem? e) _ _ ?_))))))
    · simp [hi]
    · exact ⟨rfl, some x, by rw [List.set_set]⟩
  · rintro σ' H' ⟨rfl, v, rfl⟩
    exact q v
theorem L_forChkX (hL : SqL K H a xs) (hi : i < σ.length) (hx : ∀ x ∈ xs, (∀ Q E, Q .non H → sp [x] H Q E) ∨ ∀ Q E, E c none H → sp [x] H Q E) (hb : ∃ x ∈ xs, ∀ Q E, E c none H → sp [x] H Q E) (q : ∀ v, ES (σ.set i v) c none H) :
    ForT (Itl K a) σ H (gName i) (tDrop (tCallS sp ES (tCons (tVar i) tNil))) N R := by
  obtain ⟨x0, hx0, hb0⟩ := hb
  obtain ⟨j0, hj0⟩ := List.mem_iff_getElem?.mp hx0
  refine f_it walk_list (fun j σ' H' => H' = H ∧ (∃ v, σ' = σ.set i v) ∧ ∃ k x, j ≤ k ∧ xs[k]? = some x ∧ ∀ Q E, E c none H → sp [x] H Q E) ⟨rfl, set_self σ i hi, j0, x0, Nat.zero_le _, hj0, hb0⟩ (fun _ _ _ _ p => p.1 ▸ hL) ?_ ?_
  · rintro j x σ' H' H'' hj ⟨rfl, ⟨v, rfl⟩, k, y, hk, hy, hby⟩ ⟨rfl, e⟩
    refine L_gname (L_drop (L_callS (L_cons (L_var (v := x) ?_ (L_nil ?_)))))
    · simp [hi]
    · by_cases hc : ∀ Q E, E c none H'' → sp [x] H'' Q E
      · exact hc _ _ (by rw [List.set_set]; exact q _)
      · refine (hx x (List.mem_of_getElem? e)).resolve_right hc _ _ ⟨rfl, ⟨some x, by rw [List.set_set]⟩, k, y, ?_, hy, hby⟩
        rcases Nat.lt_or_eq_of_le hk with hlt | rfl
        · exact hlt
        · rw [e] at hy
          cases hy
          exact absurd hby hc
  · rintro σ' H' ⟨rfl, ⟨v, rfl⟩, k, y, hk, hy, hby⟩
    have := (List.getElem?_eq_some_iff.mp hy).1
    omega
end
theorem L_bm0 {K : PySem.W.Frag} {σ : L2.St} {H : Hp} {Q : VK} {te : TE} {T : String} {r : V → List V → Hp → VK → Prop} (h : te σ H fun x H1 => tyV K T x H1 ∧ r x [] H1 Q) : tBM0 K T r te σ H Q := h
/-- what an expression's ways have in common -/
theorem L_via {P : VK → Prop} {Q : VK} (R : V → Hp → Prop) (key : ∀ Q : VK, (∀ v H', R v H' → Q v H') → P Q) (q : ∀ v H', R v H' → Q v H') : P Q := key Q q
section
variable {K : PySem.W.Frag} {H : Hp} {σ : L2.St} {Q : VK} {ta tb : TE}
theorem L_disp1 (h : ∀ p, H p = none → ta σ (upd H p (.dK [])) fun k H1 => tb σ H1 fun v H2 => H2 p = some (.dK []) ∧ ∃ kvs : List (Key × V), [(k, v)] = kvs.map (fun kv => (kV kv.1, kv.2)) ∧ kvs.length ≤ 15 ∧ Q (.ref p) (upd H2 p (.dK (mergeK [] kvs)))) : tDisp [(ta, tb)] σ H Q := h
theorem L_dispE1 {p : Addr} {k v : V} (kk : Key) (e : k = kV kk) (h : H p = some (.dK [])) (q : Q (.ref p) (upd H p (.dK [(kk, v)]))) : H p = some (.dK []) ∧ ∃ kvs : List (Key × V), [(k, v)] = kvs.map (fun kv => (kV kv.1, kv.2)) ∧ kvs.length ≤ 15 ∧ Q (.ref p) (upd H p (.dK (mergeK [] kvs))) :=
  ⟨h, [(kk, v)], by rw [e]; rfl, by simp, q⟩
/-- a sign of a text -/
theorem L_ixSany {z : Str} {i : Int} (hz : z.length ≤ 1000000) (h0 : 0 ≤ i) (h1 : i < z.length) (q : ∀ a ∈ z.cps.toList, Q (.str ⟨#[a]⟩) H) : rIx K (.str z) (.int i) H Q := by
  have hl : i.toNat < z.cps.toList.length := by
    have e : z.cps.toList.length = z.length := by rw [Array.length_toList]; rfl
    omega
  have h3 : z.cps.toList[i.toNat]? = some z.cps.toList[i.toNat] := List.getElem?_eq_getElem hl
  refine L_ixS (sz_dec hz) (a := z.cps.toList[i.toNat]) ?_ (q _ (List.getElem_mem hl))
  obtain ⟨j, rfl⟩ : ∃ j : Nat, i = (j : Int) := ⟨i.toNat, by omega⟩
  exact atI_nat h3
theorem L_inR {i lo hi : Int} {a : Addr} (h : H a = some (.rng lo hi)) (q : Q (.bl (decide (lo ≤ i ∧ i < hi))) H) : (∃ i' a' lo hi, V.int i = V.int i' ∧ V.ref a = V.ref a' ∧ H a' = some (.rng lo hi) ∧ Q (.bl (decide (lo ≤ i' ∧ i' < hi))) H) := ⟨i, a, lo, hi, rfl, rfl, h, q⟩
theorem L_rng2 {i j : Int} (q : ∀ p, H p = none → Q (.ref p) (upd H p (.rng i j))) : (∃ i' j', [V.int i, V.int j] = [V.int i', V.int j'] ∧ ∀ p, H p = none → Q (.ref p) (upd H p (.rng i' j'))) := ⟨i, j, rfl, q⟩
/-- no text -/
def NotS (K : PySem.W.Frag) (H : Hp) (v : V) : Prop := ∃ a, TyX K H v (.type a) ∧ kitB a "str" = some false
theorem nots_tup {a : Addr} {xs : List V} (h : SqT K H a xs) : NotS K H (.ref a) := ⟨_, tyx_T h, by decide +kernel⟩
theorem nots_lst {a : Addr} {xs : List V} (h : SqL K H a xs) : NotS K H (.ref a) := ⟨_, tyx_L h, by decide +kernel⟩
theorem nots_non : NotS K H .non := ⟨_, .base .non, by decide +kernel⟩
theorem nots_int {i : Int} : NotS K H (.int i) := ⟨_, .base (.int i), by decide +kernel⟩
theorem nots_bl {i : Bool} : NotS K H (.bl i) := ⟨_, .base (.bl i), by decide +kernel⟩
theorem nots_dK {a : Addr} {xs : List (Key × V)} (h : H a = some (.dK xs)) : NotS K H (.ref a) := ⟨_, .base (.dK h), by decide +kernel⟩
theorem NotS.same {H' : Hp} {v : V} (h : NotS K H v) (e : Same H H') : NotS K H' v := by
  obtain ⟨a, h1, h2⟩ := h
  exact ⟨a, TyX_same e h1, h2⟩
end
theorem len1 (a : Nat) : (⟨#[a]⟩ : Str).length = 1 := rfl
theorem str_len_append (a b : Str) : (a ++ b).length = a.length + b.length := Array.size_append
theorem str_len {z : Str} : z.cps.toList.length = z.length := by rw [Array.length_toList]; rfl
theorem one_lt {c d : Nat} : ([c] : List Nat) < [d] ↔ c < d := by
  rw [List.cons_lt_cons_iff]
  constructor
  · rintro (h | ⟨_, h⟩)
    · exact h
    · exact absurd h (List.not_lt_nil _)
  · exact .inl
theorem str_app_list (a b : Str) : (a ++ b).cps.toList = a.cps.toList ++ b.cps.toList := Array.toList_append
theorem eqv_nil {ds : List PyData} : PyData.eqv (.list ds) (.list []) = ds.isEmpty := by
  cases ds <;> simp [PyData.eqv, PyData.eqvAll]
theorem strOk_of {z : Str} (h : ∀ c ∈ z.cps.toList, c < 1114112) : PyData.strOk z = true := by
  show (z.cps.all (· < 0x110000)) = true
  rw [← Array.all_toList, List.all_eq_true]
  intro c hc
  exact decide_eq_true (h c hc)
theorem L_nnT {A B : Prop} (a : A) : if (!!true) = true then A else B := L_T a
theorem L_nnF {A B : Prop} (b : B) : if (!!false) = true then A else B := L_F b
theorem bd_128 {i : Int} (h : -340282366920938463463374607431768211456 < i ∧ i < 340282366920938463463374607431768211456) : Bd 128 i := by
  unfold Bd
  have : (2 : Nat) ^ 128 = 340282366920938463463374607431768211456 := by decide
  omega
/-! ### an exception that was caught, held by a name beyond the clause -/
/-- an exception of the class cls at a, its own dict d -/
def ExI (cls : Value) (d : Option Addr) (a : Addr) : HO := .ext fun h => ∃ (oe : Obj) (vs : Array Value), h.get? a = some oe ∧ Zc cls d oe ∧ oe.data = .fields vs
section
variable {X : Cx} {pins : List (Addr × Obj)} {σ : L2.St} {H : Hp} {s : Shared}
theorem track {a : Addr} {d : Option Addr} {cls : Value} {oe : Obj} {vs : Array Value} (I : Inv X pins σ H s) (na : H a = none) (he : s.heap.get? a = some oe) (z : Zc cls d oe) (hd : oe.data = .fields vs) (n0 : X.s_0.heap.get? a = none)
    (nL : a ≠ X.env.locals) (np : ∀ p ∈ X.pn ++ pins, p.1 ≠ a) : Inv X pins σ (upd H a (ExI cls d a)) s where
  ok := I.ok
  os := I.os
  bare := I.bare
  base := {
    keep := I.base.keep
    slot := I.base.slot
    free := fun b o e n hx => by
      rw [upd_ne (fun z => by rw [z, n0] at e; cases e)]
      exact I.base.free b o e n hx
    there := I.base.there
    tups := fun b xs q => by
      have t := I.base.tups b xs q
      rw [upd_ne (ne_of_none t na)]; exact t
    frzs := fun b o u q => by
      have t := I.base.frzs b o u q
      rw [upd_ne (ne_of_none t na)]; exact t
    tbls := fun b ps q => by
      obtain ⟨more, t⟩ := I.base.tbls b ps q
      exact ⟨more, by rw [upd_ne (ne_of_none t na)]; exact t⟩ }
  loc := I.loc
  cell := I.cell
  free := by rw [upd_ne nL.symm]; exact I.free
  freeC := fun x c e => by
    obtain ⟨v, o, ho, hc⟩ := I.cell x c e
    rw [upd_ne (fun z => by rw [z, he] at ho; cases ho; rw [hd] at hc; cases hc)]
    exact I.freeC x c e
  pin := fun p hp => by
    obtain ⟨h1, h2, h3⟩ := I.pin p hp
    exact ⟨h1, by rw [upd_ne (np p hp)]; exact h2, h3⟩
  hok := fun b o e => by
    by_cases hb : b = a
    · cases hb
      rw [upd_same] at e
      cases e
      exact ⟨⟨oe, vs, he, z, hd⟩, ⟨oe, he⟩, fun _ _ ⟨o1, v1, q, r⟩ k => ⟨o1, v1, k o1 q, r⟩⟩
    · rw [upd_ne hb] at e
      exact (I.hok b o e).stay (fun _ _ _ q => q) (fun c q => by rw [upd_ne (ne_of_none q na)]; exact q) fun c xs q => by rw [upd_ne (ne_of_none q na)]; exact q
  len := I.len
end
/-- what 'except x as n' wishes of an exception, which is tracked behind the suite -/
def wAsT (K : PySem.W.Frag) (c : Value) (i : Nat) (ts : Addr → Value → Option Addr → TS) (Wout : WX) (D : Ends) : WX := fun cls d σ H =>
  ∃ b, PySem.W.exmOne K cls c = some b ∧
    (b = true → ∀ a, H a = none → ts a cls d ⟨fun σ' H' => H' a = none → D.nx (σ'.set i none) (upd H' a (ExI cls d a)), D.rt, fun σ' H' => D.bk (σ'.set i none) H', fun σ' H' => D.ct (σ'.set i none) H'⟩ (σ.set i (some (.ref a))) H) ∧
    (b = false → Wout cls d σ H)
section
variable {X : Cx} {x n : Str} {c : Value} {i : Nat} {body suite : List Stmt} {b₀ : Stmt} {np pos pos' : Pos} {tb : WX → TS} {ts : Addr → Value → Option Addr → TS} {Wout : WX}
theorem ps_try_asT (hs : X.stack = X.env :: X.outer) (hf : X.env.frame = some X.env.locals) (hN : X.N.Nodup) (hi : X.N[i]? = some n) (hln : X.env.kindOf n = some .local) (hex : X.ex = []) (hc : Names X x c) (tk : Takes X Wout)
    (hb : ∀ (W : WX) (pn : List (Addr × Obj)) (xe : Value → Shared → Prop), Takes (X.tr pn xe) W → PassesOwn (model X.prog X.w) X.A X.env xe → PSs (X.tr pn xe) body (tb W))
    (hsu : ∀ (a : Addr) (oe : Obj) (cls : Value) (d : Option Addr) (pn : List (Addr × Obj)), Zc cls d oe → (∃ vs, oe.data = .fields vs) → PSs (X.suite a ((a, oe) :: pn)) (b₀ :: suite) (ts a cls d)) :
    PS X (.Try body [.ExceptHandler (some (.Name x np)) (some n) (b₀ :: suite) pos'] [] [] pos) (fun D σ H => tb (wAsT X.K c i ts Wout D) D σ H) := by
  constructor
  intro pins s0 σ0 H0 D I0 start
  have okX := I0.ok
  have frames : X.A.frames = some (X.env :: X.outer) := by
    rw [okX.frames, hs]
  apply wpAny_Try_except
  -- what is raised in the body is looked at by the clause
  let look : Value → Shared → Prop := fun e t1 => wpAny (model X.prog X.w) X.A (noteFrame e X.env) (fun _ t2 => wpAny (model X.prog X.w) X.A (setFlight e none)
    (fun _ t3 => wpAny (model X.prog X.w) X.A (handleBy e X.env [.ExceptHandler (some (.Name x np)) (some n) (b₀ :: suite) pos']) (SP X pins D) X.xe t3) X.xe t2) X.xe t1
  have caught : Takes (X.tr (X.pn ++ pins) look) (wAsT X.K c i ts Wout D) := by
    intro u s' air
    obtain ⟨a, B, sI, pins', σ', H', cls, d, rfl, K', nb, up, sky, na, os, ag, b, exm, yes, no⟩ := air
    have K0 : Inv X pins σ' H' sI := K'.ofTry okX
    have sky1 : Sky B (X.env :: X.outer) a (Zc cls d) X.env.locals s'.heap := hs ▸ sky
    show wpAny (model X.prog X.w) X.A (noteFrame (.ref a) X.env) _ _ _
    apply Sky.land Zc.steady frames hf sky1
    intro h3 fl3 up3
    have J3 : Inv X pins σ' H' { s' with heap := h3 } := K0.landed nb fl3.1 (up.trans up3) os ag
    obtain ⟨oe3, vs3, at3, z3, data3⟩ := fl3.there
    have offFrames : a ∉ frs (X.env :: X.outer) := fun hm => by
      obtain ⟨_, o', there', hnf⟩ := fl3.2.2.1.mem hm
      rw [at3] at there'
      cases there'
      exact hnf _ data3
    have nL : a ≠ X.env.locals := fun e => offFrames (List.mem_filterMap.mpr ⟨X.env, List.mem_cons_self, by rw [hf, e]⟩)
    have nF : a ∉ X.fs := fun hm => by
      obtain ⟨e, he, q⟩ := List.mem_filterMap.mp hm
      exact offFrames (List.mem_filterMap.mpr ⟨e, List.mem_cons_of_mem _ he, q⟩)
    -- a is new: it stood neither at the try's entry nor at the def's
    have newB : B.get? a = none := fl3.2.1
    have newI : sI.heap.get? a = none := by
      cases q : sI.heap.get? a with
      | none => rfl
      | some o =>
        have := nb a o q (by rw [hs]; exact offFrames)
        rw [newB] at this
        cases this
    have new0 : X.s_0.heap.get? a = none := by
      cases q : X.s_0.heap.get? a with
      | none => rfl
      | some o =>
        obtain ⟨o', q'⟩ := K0.base.there a o q (by rw [hex]; exact List.not_mem_nil)
        rw [newI] at q'
        cases q'
    have apart : ∀ p ∈ X.pn ++ pins, p.1 ≠ a := fun p hp e => by
      have := (K0.pin p hp).1
      rw [e, newI] at this
      cases this
    have S3 := J3.suite at3 data3 na nL nF
    apply wpAny_handleBy_cons _ (by intro q; cases q)
    apply codeAny_handlers_test
    have tyA : PySem.W.Looks (model X.prog X.w) h3 (typeOf (.ref a)) cls := fun A Q E t k q => wpAny_typeOf_ref (k _ _ at3) (by rw [z3.1]; exact q)
    have matched := PySem.W.exm_one (M := model X.prog X.w) (J3.kIn) tyA exm
    have named : ∀ {Q : Value → Shared → Prop} {E : Value → Shared → Prop}, Q c { s' with heap := h3 } → wpAny (model X.prog X.w) (X.A.mark (some (.ref a))) (eval (.Name x np) X.env) Q E { s' with heap := h3 } := by
      intro Q E q
      obtain ⟨hg, hdbg, hm⟩ := hc
      rcases hm with hm | ⟨hm, hv, hnn⟩
      · exact ld_glob (X := X.suite a ((a, oe3) :: (X.pn ++ pins))) S3 hg hm q hdbg
      · exact ld_blt (X := X.suite a ((a, oe3) :: (X.pn ++ pins))) S3 hg hm hv q hnn hdbg
    apply named
    apply matched.here
    cases b with
    | true =>
      apply codeAny_handlers_suite_as
      apply HandSPX.lands_againZ fl3
      intro h4 fl4 up4
      have J4 : Inv X pins σ' H' { s' with heap := h4 } := K0.landed nb fl4.1 ((up.trans up3).trans up4) os ag
      obtain ⟨oe4, vs4, at4, z4, data4⟩ := fl4.there
      have S4 := J4.suite at4 data4 na nL nF
      refine store_ok (X := X.suite a ((a, oe4) :: (X.pn ++ pins))) (v := .ref a) S4 hN hi (.inl hln) rfl (fun s5 S5 => ?_) (.inr hln)
      refine wpAny_mono ((hsu a oe4 cls d (X.pn ++ pins) z4 ⟨_, data4⟩).run [] s5 _ H' _ S5 (yes rfl a na)) (fun f s6 hsp => ?_) (fun _ _ z => z.elim)
      -- out of the suite, the exception still pinned
      have out : ∀ {σ6 : L2.St} {H6 : Hp} {Q : Shared → Prop}, Inv (X.suite a ((a, oe4) :: (X.pn ++ pins))) [] σ6 H6 s6 → (∀ s7, Inv X pins (σ6.set i none) H6 s7 → H6 a = none → s7.heap.get? a = some oe4 → Q s7) →
          wpAny (model X.prog X.w) X.A (do bindName X.env n .none; unbindBehindTheSuite X.env n pos') (fun _ s7 => Q s7) X.xe s6 := fun {σ6 H6 Q} S6 hq => by
        have P6 : Inv X ((a, oe4) :: pins) σ6 H6 s6 := { S6.unsuite okX with
          pin := fun p hp => S6.pin p (by
            rcases List.mem_append.mp hp with hp | hp
            · exact List.mem_append_left _ (List.mem_cons_of_mem _ (List.mem_append_left _ hp))
            · rcases List.mem_cons.mp hp with e | hp
              · rw [e]; exact List.mem_append_left _ List.mem_cons_self
              · exact List.mem_append_left _ (List.mem_cons_of_mem _ (List.mem_append_right _ hp))) }
        refine gone_ok P6 hN hi hln fun s7 P7 => ?_
        have pinned := P7.pin (a, oe4) (List.mem_append_right _ List.mem_cons_self)
        refine hq s7 { P7 with pin := fun p hp => P7.pin p ?_ } pinned.2.1 pinned.1
        rcases List.mem_append.mp hp with hp | hp
        · exact List.mem_append_left _ hp
        · exact List.mem_append_right _ (List.mem_cons_of_mem _ hp)
      match f, hsp with
      | .next, ⟨σ6, H6, S6, q6⟩ => exact out S6 fun s7 J7 n6 a6 => ⟨_, _, track J7 n6 a6 z4 data4 new0 nL apart, q6 n6⟩
      | .brk, ⟨σ6, H6, S6, q6⟩ => exact out S6 fun s7 J7 _ _ => ⟨_, _, J7, q6⟩
      | .cont, ⟨σ6, H6, S6, q6⟩ => exact out S6 fun s7 J7 _ _ => ⟨_, _, J7, q6⟩
      | .ret u, ⟨v6, σ6, H6, S6, r6, q6⟩ => exact out S6 fun s7 J7 _ _ => ⟨_, _, _, J7, r6, q6⟩
    | false =>
      show wpAny _ X.A (handleBy (.ref a) X.env []) _ _ _
      apply wpAny_handleBy_nil
      obtain ⟨_, _, _, oe, vs, T, oT, ts', he, hz, hd, h1, hr⟩ := id fl3
      unfold PySem.passOn
      refine wpAny_bind (wpAny_field he hd h1 ?_)
      rw [if_neg (show ¬ ((Value.ref T == Value.none) = true) from by simp)]
      have on : wpAny (model X.prog X.w) X.A (setFlight (.ref a) X.env.frame) (fun _ s4 => wpAny (model X.prog X.w) X.A (throw (.ref a) : Sem Flow) (SP X pins D) X.xe s4) X.xe { s' with heap := h3 } := by
        rw [hf]
        apply HandSPX.setFlight_upZ fl3
        intro h4 held4 up4
        apply wpAny_throw
        apply tk
        exact ⟨a, B, sI, pins, σ', H', cls, d, rfl, K0, nb, (up.trans up3).trans up4, .inr (.inr (by rw [hs]; exact held4)), na, os, ag, no rfl⟩
      first
        | exact wpAny_bind (wpAny_pure (wpAny_bind on))
        | exact wpAny_bind on
  refine wpAny_mono ((hb (wAsT X.K c i ts Wout D) (X.pn ++ pins) look caught PassesOwn.looking).run [] s0 σ0 H0 D (I0.toTry _) start) (fun f s1 hsp => ?_) (fun e s1 he => he)
  match f, hsp with
  | .next, ⟨σ1, H1, J1, q⟩ => exact wpAny_execs_nil ⟨σ1, H1, J1.ofTry okX, q⟩
  | .brk, ⟨σ1, H1, J1, q⟩ => exact ⟨σ1, H1, J1.ofTry okX, q⟩
  | .cont, ⟨σ1, H1, J1, q⟩ => exact ⟨σ1, H1, J1.ofTry okX, q⟩
  | .ret u, ⟨v, σ1, H1, J1, r, q⟩ => exact ⟨v, σ1, H1, J1.ofTry okX, r, q⟩
end
/-- isinstance of a caught exception that a name holds -/
def rIsX (K : PySem.W.Frag) : List V → Hp → VK → Prop := fun xs H Q => ∃ (a D : Addr) (c : V) (u : Value) (b : Bool), xs = [.ref a, c] ∧ H a = some (ExI (.ref D) none a) ∧ L2.ExcC K D ∧ ClsV c u ∧ PySem.W.kitOne K (.ref D) u = some b ∧ Q (.bl b) H
def rIsXT (K : PySem.W.Frag) : List V → Hp → VK → Prop := fun xs H Q => ∃ (a D tp : Addr) (cs : List V) (us : List Value) (b : Bool), xs = [.ref a, .ref tp] ∧ H a = some (ExI (.ref D) none a) ∧ L2.ExcC K D ∧ H tp = some (.tup cs) ∧ Paired ClsV cs us ∧ PySem.W.kitAny K (.ref D) us = some b ∧ Q (.bl b) H
section
variable {X : Cx} {pins : List (Addr × Obj)} {σ : L2.St} {H : Hp} {s : Shared}
theorem exI_at {a D : Addr} (I : Inv X pins σ H s) (h : H a = some (ExI (.ref D) none a)) : ∃ oe, PySem.W.InstAt s.heap a oe D none := by
  obtain ⟨⟨oe, vs, q1, ⟨q2, q3⟩, q4⟩, _⟩ := I.hok a _ h
  obtain ⟨oc, od, oda, osl⟩ := oe
  dsimp only at q2 q3 q4
  subst q2 q3 q4
  exact ⟨_, q1, rfl, rfl, trivial⟩
theorem call_isX : CallR X (.builtin "isinstance") (rIsX X.K) := by
  intro pins s σ H xs us Q I r h
  obtain ⟨a, D, c, u, b, rfl, hx, C, k, e, q⟩ := h
  obtain ⟨u1, u2, rfl, r1, r2⟩ := vals2 r
  cases r1
  cases k.eq r2
  obtain ⟨oe, J⟩ := exI_at I hx
  exact PySem.W.kia_one (PySem.W.handS_kitx_exc C.hg C.hk C.hs C.hd C.ha C.hn C.ht C.hm) I.kIn J e (fun z => nomatch z) fun tk => ⟨.bl b, H, I.tok tk, rfl, q⟩
theorem call_isXT : CallR X (.builtin "isinstance") (rIsXT X.K) := by
  intro pins s σ H xs us Q I r h
  obtain ⟨a, D, tp, cs, ws, b, rfl, hx, C, hT, k, e, q⟩ := h
  obtain ⟨u1, u2, rfl, r1, r2⟩ := vals2 r
  cases r1
  cases (show u2 = Value.ref tp from r2)
  obtain ⟨oe, J⟩ := exI_at I hx
  obtain ⟨_, its, rv, o, h1, h2, n, h3⟩ := (show ObjOk X.prog X.w H s.heap tp (.tup cs) from I.hok tp _ hT)
  have e3 := ClsV.all k rv
  subst e3
  obtain ⟨oc, od, dt, sl⟩ := o
  simp only at h2 h3
  subst h2 h3
  exact PySem.W.kia_tup (PySem.W.handS_kitx_exc C.hg C.hk C.hs C.hd C.ha C.hn C.ht C.hm) I.kIn J h1 e (fun z => nomatch z) fun tk => ⟨.bl b, H, I.tok tk, rfl, q⟩
end
section
variable {K : PySem.W.Frag} {H : Hp} {Q : VK} {C D : Addr} {b : Bool}
theorem kit_ref (hD : PySem.W.subIn K (.ref D) (.ref D) = some true) (k : ExcK K C) (h : PySem.W.subIn K (.ref D) (.ref C) = some b) : PySem.W.kitOne K (.ref D) (.ref C) = some b := by
  unfold PySem.W.kitOne
  by_cases e : D = C
  · subst e
    rw [hD] at h
    cases h
    rw [if_pos (by simp)]
  · rw [if_neg (by simpa using e)]
    have h2 : (PySem.W.clsIn K C).isSome = true := k.i
    show (if ((PySem.W.clsIn K C).isSome && PySem.W.typeIn K (.ref C) == some (.type "type")) = true then PySem.W.subIn K (.ref D) (.ref C) else none) = some b
    rw [if_pos (by rw [h2, k.t]; rfl)]
    exact h
theorem kit_typ {T : String} (hm : PySem.W.kitMeta T = true) (h : PySem.W.subIn K (.ref D) (.type T) = some b) : PySem.W.kitOne K (.ref D) (.type T) = some b := by
  unfold PySem.W.kitOne
  rw [if_neg (by simp)]
  show (if PySem.W.kitMeta T = true then PySem.W.subIn K (.ref D) (.type T) else none) = some b
  rw [if_pos hm]
  exact h
theorem L_isX {a : Addr} {c : V} {u : Value} (h : H a = some (ExI (.ref D) none a)) (C : L2.ExcC K D) (k : ClsV c u) (e : PySem.W.kitOne K (.ref D) u = some b) (q : Q (.bl b) H) : rIsX K [.ref a, c] H Q := ⟨a, D, c, u, b, rfl, h, C, k, e, q⟩
theorem L_isXT {a tp : Addr} {cs : List V} {us : List Value} (h : H a = some (ExI (.ref D) none a)) (C : L2.ExcC K D) (hT : H tp = some (.tup cs)) (k : Paired ClsV cs us) (e : PySem.W.kitAny K (.ref D) us = some b) (q : Q (.bl b) H) : rIsXT K [.ref a, .ref tp] H Q := ⟨a, D, tp, cs, us, b, rfl, h, C, hT, k, e, q⟩
theorem kit_none : ∀ {us : List Value}, (∀ u ∈ us, PySem.W.kitOne K (.ref D) u = some false) → PySem.W.kitAny K (.ref D) us = some false
  | [], _ => rfl
  | u :: us, h => by
    unfold PySem.W.kitAny
    rw [h u (List.mem_cons_self ..)]
    exact kit_none fun x hx => h x (List.mem_cons_of_mem _ hx)
theorem L_asT {c : Value} {i : Nat} {ts : Addr → Value → Option Addr → TS} {Wout : WX} {D : Ends} {σ : L2.St} {cls : Value} {d : Option Addr} (h : PySem.W.exmOne K cls c = some true)
    (q : ∀ a, H a = none → ts a cls d ⟨fun σ' H' => H' a = none → D.nx (σ'.set i none) (upd H' a (ExI cls d a)), D.rt, fun σ' H' => D.bk (σ'.set i none) H', fun σ' H' => D.ct (σ'.set i none) H'⟩ (σ.set i (some (.ref a))) H) : wAsT K c i ts Wout D cls d σ H :=
  ⟨true, h, fun _ => q, fun z => nomatch z⟩
end
/-! ### lists of numbers, and what is none -/
def BadNs (K : PySem.W.Frag) (H : Hp) (v : V) (lo hi : Int) : Prop := NotL K H v ∨ ∃ a xs, v = .ref a ∧ SqL K H a xs ∧ (24 < xs.length ∨ ((∀ x ∈ xs, (∃ t, x = .int t ∧ lo ≤ t ∧ t ≤ hi) ∨ BadW K H x lo hi) ∧ ∃ x ∈ xs, BadW K H x lo hi))
def GoodNs (K : PySem.W.Frag) (H : Hp) (v : V) (ts : List Int) (lo hi : Int) : Prop := ∃ a, v = .ref a ∧ SqL K H a (ts.map V.int) ∧ ts.length ≤ 24 ∧ ∀ t ∈ ts, lo ≤ t ∧ t ≤ hi
section
variable {K : PySem.W.Frag} {H H' : Hp} {v : V} {lo hi : Int} {ts : List Int}
theorem BadNs.same (h : BadNs K H v lo hi) (e : Same H H') : BadNs K H' v lo hi := by
  rcases h with h | ⟨a, xs, h1, h2, h3⟩
  · exact .inl (h.same e)
  · refine .inr ⟨a, xs, h1, e.seq h2, ?_⟩
    rcases h3 with h3 | ⟨h3, x, h4, h5⟩
    · exact .inl h3
    · exact .inr ⟨fun x hx => (h3 x hx).imp id fun b => b.same e, x, h4, h5.same e⟩
theorem GoodNs.same (h : GoodNs K H v ts lo hi) (e : Same H H') : GoodNs K H' v ts lo hi := by
  obtain ⟨a, h1, h2, h3, h4⟩ := h
  exact ⟨a, h1, e.seq h2, h3, h4⟩
theorem bad_one {a : Addr} {x : V} (h : H a = some (.lst [x])) (b : BadW K H x lo hi) : BadNs K H (.ref a) lo hi := .inr ⟨a, _, rfl, .of h, .inr ⟨fun y hy => by rw [List.mem_singleton.mp hy]; exact .inr b, x, List.mem_singleton.mpr rfl, b⟩⟩
theorem good_ns {a : Addr} (h : H a = some (.lst (ts.map V.int))) (hl : ts.length ≤ 24) (hb : ∀ t ∈ ts, lo ≤ t ∧ t ≤ hi) : GoodNs K H (.ref a) ts lo hi := ⟨a, rfl, .of h, hl, hb⟩
theorem int_of_mem {x : V} (h : x ∈ ts.map V.int) : ∃ t ∈ ts, x = .int t := by
  obtain ⟨t, h1, h2⟩ := List.mem_map.mp h
  exact ⟨t, h1, h2.symm⟩
theorem getD_of {i : Nat} {t : Int} (h : ts[i]? = some t) : ts.getD i 0 = t := by rw [List.getD_eq_getElem?_getD, h]; rfl
theorem fm_int {f : Nat → Option Int} {n : Nat} : (List.range n).filterMap (fun i => (f i).map V.int) = ((List.range n).filterMap f).map V.int := by
  rw [List.map_filterMap]
end
/-- pairs of ints as data -/
def d2 (r : Int × Int) : PyData := .tuple [.int r.1, .int r.2]
section
variable {K : PySem.W.Frag} {H : Hp} {v : V} {us : List V} {rows : List (Int × Int)}
theorem of_d2 {r : Int × Int} (h : Dp K H v (d2 r)) : ∃ a, v = .ref a ∧ SqT K H a [.int r.1, .int r.2] := by
  obtain ⟨a, x, y, rfl, h1, h2, h3⟩ := of_t2 h
  rw [of_int h2, of_int h3] at h1
  exact ⟨a, rfl, h1⟩
theorem hit2 (hA : DpAll K H us (rows.map d2)) {i : Nat} {x : V} (hx : us[i]? = some x) : ∃ r t, rows[i]? = some r ∧ x = V.ref t ∧ SqT K H t [.int r.1, .int r.2] := by
  obtain ⟨d, h1, h2⟩ := hA.of hx
  rw [List.getElem?_map] at h1
  obtain ⟨r, h3, rfl⟩ := Option.map_eq_some_iff.mp h1
  obtain ⟨t, rfl, h4⟩ := of_d2 h2
  exact ⟨r, t, h3, rfl, h4⟩
theorem shp_d2s : SeqAt.shaped (.list (rows.map d2)) = true := (shp_lst (n := 1) (shp_map fun r _ => shp_tup (n := 0) (shp_cons shp_int (shp_cons shp_int shp_nil)))).ok
end
theorem cutG_take {α : Type} (xs : List α) (n : Nat) : cutG xs none (some (n : Int)) = xs.take n := by
  unfold cutG
  rw [HT.sIx_none, HT.sIx_nat, List.drop_zero, Nat.sub_zero]
  rcases Nat.le_total n xs.length with h | h
  · rw [Nat.min_eq_left h]
  · rw [Nat.min_eq_right h, List.take_of_length_le (Nat.le_refl _), List.take_of_length_le h]
theorem cutG_drop {α : Type} (xs : List α) (n : Nat) : cutG xs (some (n : Int)) none = xs.drop n := by
  unfold cutG
  rw [HT.sIx_none, HT.sIx_nat]
  rcases Nat.le_total n xs.length with h | h
  · rw [Nat.min_eq_left h, List.take_of_length_le (by rw [List.length_drop]; exact Nat.le_refl _)]
  · rw [Nat.min_eq_right h, List.drop_of_length_le (Nat.le_refl _), List.drop_of_length_le h, List.take_nil]
theorem strOk_lit {z : Str} (h : PyData.strOk z = true) : PyData.strOk z = true := h
theorem dpa_app {K : PySem.W.Frag} {H : Hp} : ∀ {ds es : List PyData} {vs us : List V}, DpAll K H (vs ++ us) (ds ++ es) → vs.length = ds.length → DpAll K H vs ds ∧ DpAll K H us es
  | [], _, [], _, h, _ => ⟨.nil, h⟩
  | [], _, _ :: _, _, _, e => by simp at e
  | _ :: _, _, [], _, _, e => by simp at e
  | d :: ds, _, v :: vs, _, h, e => by
    cases h with
    | cons h1 h2 =>
      obtain ⟨a, b⟩ := dpa_app h2 (by simpa using e)
      exact ⟨.cons h1 a, b⟩
theorem nn_ints_or {K : PySem.W.Frag} {H : Hp} {x : V} {ts : List Int} {lo hi : Int} (hb : ∀ t ∈ ts, lo ≤ t ∧ t ≤ hi) (h : x ∈ ts.map V.int) : (∃ t, x = .int t ∧ lo ≤ t ∧ t ≤ hi) ∨ BadW K H x lo hi := by
  obtain ⟨t, ht, e⟩ := int_of_mem h
  exact .inl ⟨t, e, hb t ht⟩
theorem rep_len {α : Type} (xs : List α) : ∀ n : Nat, (List.replicate n xs).flatten.length = n * xs.length
  | 0 => by simp
  | n + 1 => by rw [List.replicate_succ, List.flatten_cons, List.length_append, rep_len xs n, Nat.succ_mul, Nat.add_comm]
/-! ### exceptions whose own __init__ asks their base's by its name -/
/-- S.__init__, S an own class, is ValueError's -/
structure BaseI (K : PySem.W.Frag) (S : Addr) : Prop where
  rd : PySem.W.readsIn K S (.type "type") = true
  ga : PySem.W.specialIn K (.ref S) "__getattribute__" = some (some (.builtin "type.__getattribute__"))
  vi : PySem.W.findCls K (.ref S) (.type "type") "__init__" = some (.val (.builtin "ValueError.__init__"))
structure XIniAt (K : PySem.W.Frag) (C : Addr) (qual : Str) (st : Stmt) (ps : List Str) : Prop where
  ex : ∃ (f : Addr) (fd : FuncData), Fun K "__init__" qual st f fd ∧ PySem.W.findIn K (.ref C) "__init__" = some (some (.ref f)) ∧ PySem.W.isFn K (.ref f) = true ∧ Binds K fd ps []
/-- an exception that may be made by its class's name -/
structure XMak (P : Program) (w : World) (K : PySem.W.Frag) (mg : Str → Option Value) (base : Heap) (k : Nat) (x : Str) (C : Addr) (sp : Sp) : Prop where
  ex : ∃ (f : Addr) (fd : FuncData) (ps : List Str), FnOk P w K mg base CX0 k f fd ps sp ∧ PySem.W.findIn K (.ref C) "__init__" = some (some (.ref f)) ∧ PySem.W.typeIn K (.ref f) = some (.type "function") ∧ mg x = some (.ref C) ∧ Binds K fd ps []
section
variable {P : Program} {w : World} {K : PySem.W.Frag} {mg : Str → Option Value} {base : Heap}
theorem XIniAt.xmak {x : Str} {C : Addr} {qual : Str} {st : Stmt} {N ps : List Str} {k : Nat} {sp : Sp} (hx : mg x = some (.ref C)) (d : XIniAt K C qual st ps) (S : FnScope N ps (defScope st)) (len : ∀ vs H Q E, sp vs H Q E → vs.length = ps.length)
    (hbody : ∀ (f : Addr) (cdv : Value) (A : Around) (outer : List Env) (s : Shared) (H : Hp) (vs : List V) (Q : VK) (E : XK), Room k (A.deeper (envOfC qual (defScope st) s.heap.objs.size f cdv)) → sp vs H Q E →
      ∃ t, PSs (cxOf CX0 P w K mg base N qual (defScope st) f cdv A outer s H E).nox (defBody st) t ∧ t { nx := fun _ H' => Q .non H', rt := Q } (start N vs) H) : XMak P w K mg base (k + 1) x C sp := by
  obtain ⟨f, fd, F, h1, h2, b⟩ := d.ex
  exact ⟨f, fd, ps, F.ok S len (hbody f), h1, beq_iff_eq.mp h2, hx, b⟩
end
section
variable {X : Cx} {k j : Nat} {C S : Addr} {x : Str} {sp : Sp} {p p1 p2 pos : Pos} {e : Expr} {es : List Expr} {ta : TA}
theorem pmk_x (c : XMak X.prog X.w X.K X.mg X.base k x C sp) (T : OexC X.K C) (hr : Room j X.A) (hk : k + 1 ≤ j) (hg : Gl X x) (ha : PA X (e :: es) ta)
    (hdb : (x == ("__debug__" : Str)) = false := by decide) (he : starEach (e :: es) X.env = (false, eval e X.env) :: starEach es X.env := by rfl) (hpl : (backTo pos (starEach es X.env)).any (·.1) = false := by rfl) :
    PMk X (.Call (.Name x p) (e :: es) [] pos) (tMkO C sp [] ta) := by
  obtain ⟨f, fd, ps, F, h1, h2, hm, b⟩ := c.ex
  exact pmk_oex T h1 h2 F (hr.mono hk) b .nil pass0 hg hm ha hdb he hpl
theorem pe_baseI {pl : Sem Bool} (hg : Gl X x) (hm : X.mg x = some (.ref S)) (B : BaseI X.K S) (ha : PA X (e :: es) ta)
    (hc : eval (.Call (.Attribute (.Name x p1) "__init__" p2) (e :: es) [] pos) X.env = (do
      let ov ← eval (.Name x p1) X.env
      standAt p2.atName
      let (f, first) ← holding [ov] (getMethod ov "__init__" pl)
      callWith pos f first (backTo pos (starEach (e :: es) X.env)) (backToKw pos (keywordEach [] X.env))) := by rfl)
    (hdb : (x == ("__debug__" : Str)) = false := by decide) (he : starEach (e :: es) X.env = (false, eval e X.env) :: starEach es X.env := by rfl) (hpl : (backTo pos (starEach es X.env)).any (·.1) = false := by rfl) :
    PE X (.Call (.Attribute (.Name x p1) "__init__" p2) (e :: es) [] pos) (tVeI X.K ta) := by
  constructor
  intro pins s σ H Q I h
  have asked : ∀ s1, Inv X pins σ H s1 → wpAny (model X.prog X.w) X.A (callWith pos (Value.builtin "ValueError.__init__") [] (backTo pos (starEach (e :: es) X.env)) []) (EP X pins σ Q) X.xe s1 := fun s1 I1 =>
    PyProof.Rows.callWith_method1 (thn (ha.run pos pins s1 σ H _ I1 h) fun us s2 ⟨vs, H2, I2, r, a, D, ws, evs, few, T, atA, q⟩ => by
      subst evs
      cases r with
      | @cons _ u0 _ ur r0 rr =>
        obtain rfl : u0 = Value.ref a := r0
        have few' : ur.length ≤ sizeLine := by
          have := Paired.length rr
          have := sizeLine_eq
          omega
        exact oinit_ok T I2 atA few' fun s3 I3 => ⟨.non, H2, I3, rfl, q⟩) he hpl
  refine PySem.W.methodCall_KW (ld_glob I hg hm ?_ hdb) hc
  refine PySem.W.method_cls I.kIn B.ga (PySem.W.cls_value I.kIn B.rd B.vi (by decide +kernel) ?_)
  exact asked _ (I.tok _)
end
section
variable {K : PySem.W.Frag} {σ : L2.St} {H : Hp} {D : Ends} {C a : Addr} {f : Str} {y : V} {ta : TA} {te to : TE}
theorem L_veI {R : Hp → Prop} {ws : List V} (T : OexC K C) (h : H a = some (exo a C none)) (l : ws.length ≤ 1000) (q : R H) : ∃ (a' C : Addr) (ws' : List V), V.ref a :: ws = .ref a' :: ws' ∧ ws'.length ≤ 1000 ∧ OexC K C ∧ H a' = some (exo a' C none) ∧ R H := ⟨a, C, ws, rfl, l, T, h, q⟩
theorem L_tveI {Q : VK} (h : ta σ H fun vs H1 => ∃ (a C : Addr) (ws : List V), vs = .ref a :: ws ∧ ws.length ≤ 1000 ∧ OexC K C ∧ H1 a = some (exo a C none) ∧ Q .non H1) : tVeI K ta σ H Q := h
theorem L_ost (h : te σ H fun y H1 => to σ H1 fun x H2 => ∃ a C : Addr, x = .ref a ∧ OexC K C ∧ PySem.W.findIn K (.ref C) f = some none ∧
  ((H2 a = some (exo a C none) ∧ ∀ dx, H2 dx = none → dx ≠ a → D.nx σ (upd (upd H2 dx (exd dx [(f, y)])) a (exo a C (some dx)))) ∨
    ∃ (dx : Addr) (fs : List (Str × V)), H2 a = some (exo a C (some dx)) ∧ H2 dx = some (exd dx fs) ∧ fs.length ≤ 900 ∧ D.nx σ (upd H2 dx (exd dx ((f, y) :: fs))))) : tOst K f to te D σ H := h
theorem L_ost1 {R : Hp → Prop} (T : OexC K C) (nf : PySem.W.findIn K (.ref C) f = some none) (h : H a = some (exo a C none)) (q : ∀ dx, H dx = none → dx ≠ a → R (upd (upd H dx (exd dx [(f, y)])) a (exo a C (some dx)))) :
    ∃ a' C : Addr, V.ref a = .ref a' ∧ OexC K C ∧ PySem.W.findIn K (.ref C) f = some none ∧
  ((H a' = some (exo a' C none) ∧ ∀ dx, H dx = none → dx ≠ a' → R (upd (upd H dx (exd dx [(f, y)])) a' (exo a' C (some dx)))) ∨
    ∃ (dx : Addr) (fs : List (Str × V)), H a' = some (exo a' C (some dx)) ∧ H dx = some (exd dx fs) ∧ fs.length ≤ 900 ∧ R (upd H dx (exd dx ((f, y) :: fs)))) := ⟨a, C, rfl, T, nf, .inl ⟨h, q⟩⟩
/-- what an __init__ with one field keeps -/
def XIni1 (C : Addr) (f : Str) (a : Addr) (v : V) (H : Hp) (Q : VK) : Prop := H a = some (exo a C none) ∧ ∀ d, H d = none → d ≠ a → Q .non (upd (upd H d (exd d [(f, v)])) a (exo a C (some d)))
/-- C(v) is raised -/
theorem L_mkO1 {sp : Sp} {E : XK} {v : V} (hs : ∀ a H Q E, XIni1 C f a v H Q → sp [.ref a, v] H Q E) (q : ∀ d, H d = none → E (.ref C) (some d) (upd H d (.xd [(f, v)]))) : [v].length ≤ 1000 ∧ ∀ a, H a = none → sp (.ref a :: ([v] ++ [])) (upd H a (exo a C none))
  (fun v H2 => v = .non ∧ ∃ (d : Addr) (fs : List (Str × V)), H2 a = some (exo a C (some d)) ∧ H2 d = some (exd d fs) ∧ H d = none ∧ E (.ref C) (some d) (upd (del H2 a) d (.xd fs))) (fun _ _ _ => False) := by
  refine ⟨by rw [List.length_singleton]; decide, fun a na => hs a _ _ _ ⟨upd_same, fun d nd ne => ⟨rfl, d, [(f, v)], upd_same, ?_, ?_, ?_⟩⟩⟩
  · rw [upd_ne ne, upd_same]
  · rw [upd_ne ne] at nd
    exact nd
  · rw [upd_ne ne] at nd
    have z : upd (del (upd (upd (upd H a (exo a C none)) d (exd d [(f, v)])) a (exo a C (some d))) a) d (.xd [(f, v)]) = upd H d (.xd [(f, v)]) := by
      funext b
      by_cases hb : b = d
      · rw [hb, upd_same, upd_same]
      · rw [upd_ne hb, upd_ne hb]
        by_cases ha : b = a
        · rw [ha, del_same, na]
        · rw [del_ne ha, upd_ne ha, upd_ne hb, upd_ne ha]
    rw [z]
    exact q d nd
theorem L_mkO {sp : Sp} {dvs : List V} {Q : XK} (h : ta σ H fun vs H1 => vs.length ≤ 1000 ∧ ∀ a, H1 a = none → sp (.ref a :: (vs ++ dvs)) (upd H1 a (exo a C none))
  (fun v H2 => v = .non ∧ ∃ (d : Addr) (fs : List (Str × V)), H2 a = some (exo a C (some d)) ∧ H2 d = some (exd d fs) ∧ H1 d = none ∧ Q (.ref C) (some d) (upd (del H2 a) d (.xd fs))) (fun _ _ _ => False)) : tMkO C sp dvs ta σ H Q := h
end
/-- isinstance(e, c) in e's own suite, whatever its dict -/
def rIsS (K : PySem.W.Frag) (a : Addr) (cls : Value) (d : Option Addr) : List V → Hp → VK → Prop := fun xs H Q => ∃ (D : Addr) (c : V) (u : Value) (b : Bool), xs = [.ref a, c] ∧ cls = .ref D ∧ (∀ dd, d = some dd → ∃ fs, H dd = some (.xd fs)) ∧ L2.ExcC K D ∧ ClsV c u ∧ PySem.W.kitOne K (.ref D) u = some b ∧ Q (.bl b) H
theorem call_isS {X : Cx} {a : Addr} {cls : Value} {d : Option Addr} {oe : Obj} {pn : List (Addr × Obj)} (hz : Zc cls d oe) (hf : ∃ vs, oe.data = .fields vs) : CallR (X.suite a ((a, oe) :: pn)) (.builtin "isinstance") (rIsS X.K a cls d) := by
  intro pins s σ H xs us Q I r h
  obtain ⟨D, c, u, b, rfl, rfl, hd, C, k, e, q⟩ := h
  obtain ⟨u1, u2, rfl, r1, r2⟩ := vals2 r
  cases r1
  cases k.eq r2
  obtain ⟨there, _⟩ := I.pin (a, oe) (List.mem_append_left _ List.mem_cons_self)
  obtain ⟨vs, data⟩ := hf
  have J : ∃ od, PySem.W.InstAt s.heap a oe D od := by
    have nc : PySem.W.notCls oe = true := by unfold PySem.W.notCls; rw [data] <;> rfl
    cases d with
    | none => exact ⟨none, there, hz.1, nc, by rw [hz.2]; exact True.intro⟩
    | some dd =>
      obtain ⟨fs, hdd⟩ := hd dd rfl
      obtain ⟨mA, ⟨o, es, ep, ho, _⟩, _⟩ := (show ObjOk X.prog X.w H s.heap dd (.xd fs) from I.hok dd _ hdd)
      exact ⟨some o, there, hz.1, nc, by rw [hz.2]; exact ho⟩
  obtain ⟨od, J⟩ := J
  obtain ⟨cd, hcd, _⟩ := PySem.W.any_some C.hd
  exact PySem.W.kia_one (PySem.W.kitx_exc (show (PySem.W.clsIn _ D).isSome = true by rw [hcd]; rfl) C.hg C.hk C.hs C.ha C.hn C.ht C.hm) I.kIn J e (fun z => nomatch z) fun tk => ⟨.bl b, H, I.tok tk, rfl, q⟩
theorem L_isS {K : PySem.W.Frag} {H : Hp} {Q : VK} {a D : Addr} {d : Option Addr} {c : V} {u : Value} {b : Bool} (hd : ∀ dd, d = some dd → ∃ fs, H dd = some (.xd fs)) (C : L2.ExcC K D) (k : ClsV c u) (e : PySem.W.kitOne K (.ref D) u = some b) (q : Q (.bl b) H) : rIsS K a (.ref D) d [.ref a, c] H Q := ⟨D, c, u, b, rfl, rfl, hd, C, k, e, q⟩
/-- the same, of some classes -/
def rIsST (K : PySem.W.Frag) (a : Addr) (cls : Value) (d : Option Addr) : List V → Hp → VK → Prop := fun xs H Q => ∃ (D tp : Addr) (cs : List V) (ws : List Value) (b : Bool), xs = [.ref a, .ref tp] ∧ cls = .ref D ∧ (∀ dd, d = some dd → ∃ fs, H dd = some (.xd fs)) ∧ L2.ExcC K D ∧ H tp = some (.tup cs) ∧ Paired ClsV cs ws ∧ PySem.W.kitAny K (.ref D) ws = some b ∧ Q (.bl b) H
theorem call_isST {X : Cx} {a : Addr} {cls : Value} {d : Option Addr} {oe : Obj} {pn : List (Addr × Obj)} (hz : Zc cls d oe) (hf : ∃ vs, oe.data = .fields vs) : CallR (X.suite a ((a, oe) :: pn)) (.builtin "isinstance") (rIsST X.K a cls d) := by
  intro pins s σ H xs us Q I r h
  obtain ⟨D, tp, cs, ws, b, rfl, rfl, hd, C, hT, k, e, q⟩ := h
  obtain ⟨u1, u2, rfl, r1, r2⟩ := vals2 r
  cases r1
  cases (show u2 = Value.ref tp from r2)
  obtain ⟨there, _⟩ := I.pin (a, oe) (List.mem_append_left _ List.mem_cons_self)
  obtain ⟨vs, data⟩ := hf
  have J : ∃ od, PySem.W.InstAt s.heap a oe D od := by
    have nc : PySem.W.notCls oe = true := by unfold PySem.W.notCls; rw [data] <;> rfl
    cases d with
    | none => exact ⟨none, there, hz.1, nc, by rw [hz.2]; exact True.intro⟩
    | some dd =>
      obtain ⟨fs, hdd⟩ := hd dd rfl
      obtain ⟨mA, ⟨o, es, ep, ho, _⟩, _⟩ := (show ObjOk X.prog X.w H s.heap dd (.xd fs) from I.hok dd _ hdd)
      exact ⟨some o, there, hz.1, nc, by rw [hz.2]; exact ho⟩
  obtain ⟨od, J⟩ := J
  obtain ⟨_, its, rv, o, h1, h2, n, h3⟩ := (show ObjOk X.prog X.w H s.heap tp (.tup cs) from I.hok tp _ hT)
  have e3 := ClsV.all k rv
  subst e3
  obtain ⟨oc, od2, dt, sl⟩ := o
  simp only at h2 h3
  subst h2 h3
  obtain ⟨cd, hcd, _⟩ := PySem.W.any_some C.hd
  exact PySem.W.kia_tup (PySem.W.kitx_exc (show (PySem.W.clsIn _ D).isSome = true by rw [hcd]; rfl) C.hg C.hk C.hs C.ha C.hn C.ht C.hm) I.kIn J h1 e (fun z => nomatch z) fun tk => ⟨.bl b, H, I.tok tk, rfl, q⟩
theorem L_isST {K : PySem.W.Frag} {H : Hp} {Q : VK} {a D tp : Addr} {d : Option Addr} {cs : List V} {ws : List Value} {b : Bool} (hd : ∀ dd, d = some dd → ∃ fs, H dd = some (.xd fs)) (C : L2.ExcC K D) (hT : H tp = some (.tup cs)) (k : Paired ClsV cs ws) (e : PySem.W.kitAny K (.ref D) ws = some b) (q : Q (.bl b) H) : rIsST K a (.ref D) d [.ref a, .ref tp] H Q := ⟨D, tp, cs, ws, b, rfl, rfl, hd, C, hT, k, e, q⟩
/-- one of two derivations -/
def tOrE (t1 t2 : TE) : TE := fun σ H Q => t1 σ H Q ∨ t2 σ H Q
theorem PE.or {X : Cx} {e : Expr} {t1 t2 : TE} (h1 : PE X e t1) (h2 : PE X e t2) : PE X e (tOrE t1 t2) :=
  ⟨fun pins s σ H Q I h => h.elim (fun h => h1.run pins s σ H Q I h) (fun h => h2.run pins s σ H Q I h)⟩
/-- what isinstance asks of an instance's own class; of the class it is asked of -/
structure InsC (K : PySem.W.Frag) (C : Addr) : Prop where
  ha : PySem.W.findIn K (.ref C) "__class__" = some (some (.builtin "object.__class__"))
  hn : PySem.W.specialIn K (.builtin "object.__class__") "__get__" = some (some (.builtin "getset_descriptor.__get__"))
  ht : PySem.W.takesIn K (.builtin "object.__class__") = some true
  hm : PySem.W.mroIn K C (.type "object") = some true
structure ClsT (K : PySem.W.Frag) (C : Addr) : Prop where
  i : PySem.W.isClsIn K C = true
  t : PySem.W.typeIn K (.ref C) = some (.type "type")
theorem tyx_I {K : PySem.W.Frag} {H : Hp} {a C dx : Addr} {fs : List (Str × V)} (h : H a = some (.ins C dx fs)) (cl : Cls K C) (c : InsC K C) : TyX K H (.ref a) (.ref C) := .base (.ins h cl c.ha c.hn c.ht c.hm)
theorem kit_own {K : PySem.W.Frag} {C D : Addr} {b : Bool} (hD : PySem.W.subIn K (.ref D) (.ref D) = some true) (k : ClsT K C) (h : PySem.W.subIn K (.ref D) (.ref C) = some b) : PySem.W.kitOne K (.ref D) (.ref C) = some b := by
  unfold PySem.W.kitOne
  by_cases e : D = C
  · subst e
    rw [hD] at h
    cases h
    rw [if_pos (by simp)]
  · rw [if_neg (by simpa using e)]
    have h2 : (PySem.W.clsIn K C).isSome = true := k.i
    show (if ((PySem.W.clsIn K C).isSome && PySem.W.typeIn K (.ref C) == some (.type "type")) = true then PySem.W.subIn K (.ref D) (.ref C) else none) = some b
    rw [if_pos (by rw [h2, k.t]; rfl)]
    exact h
theorem kit_not {K : PySem.W.Frag} {T : String} {C : Addr} {b : Bool} (k : ClsT K C) (h : PySem.W.subIn K (.type T) (.ref C) = some b) : PySem.W.kitOne K (.type T) (.ref C) = some b := by
  unfold PySem.W.kitOne
  rw [if_neg (by simp)]
  have h2 : (PySem.W.clsIn K C).isSome = true := k.i
  show (if ((PySem.W.clsIn K C).isSome && PySem.W.typeIn K (.ref C) == some (.type "type")) = true then PySem.W.subIn K (.type T) (.ref C) else none) = some b
  rw [if_pos (by rw [h2, k.t]; rfl)]
  exact h
theorem L_orl {t1 t2 : TE} {σ : L2.St} {H : Hp} {Q : VK} (h : t1 σ H Q) : tOrE t1 t2 σ H Q := .inl h
theorem L_orr {t1 t2 : TE} {σ : L2.St} {H : Hp} {Q : VK} (h : t2 σ H Q) : tOrE t1 t2 σ H Q := .inr h
theorem L_xf {a C : Addr} {cls : Value} {d : Option Addr} {f : Str} {te : TE} {σ : L2.St} {H : Hp} {Q : VK} (h : te σ H fun x H1 => x = .ref a ∧ cls = .ref C ∧ ∃ (dd : Addr) (fs : List (Str × V)) (v : V), d = some dd ∧ H1 dd = some (.xd fs) ∧ fs.lookup f = some v ∧ Q v H1) : tXf a cls d C f te σ H Q := h
theorem ExcC.xf {K : PySem.W.Frag} {C : Addr} (c : L2.ExcC K C) : XfC K C := ⟨c.hg, c.hk, c.hs, c.hd⟩
theorem L_isC {K : PySem.W.Frag} {H : Hp} {Q : VK} {x : V} {T : Value} {C : Addr} {b : Bool} (ty : TyX K H x T) (e : PySem.W.kitOne K T (.ref C) = some b) (q : Q (.bl b) H) : rIsi K [x, .ref C] H Q := ⟨x, .ref C, T, .ref C, b, rfl, .own C, ty, e, q⟩
theorem L_str1 {H : Hp} {Q : VK} {t : Int} (h : 0 ≤ t ∧ t ≤ 1000) (q : Q (.str (toString t)) H) : aStr1 [.int t] H Q := ⟨t, rfl, by have := Nat.log2_le_self t.natAbs; omega, q⟩
theorem str_short : ∀ t : Int, 0 ≤ t → t ≤ 100 → (↑(toString t) : Str).length ≤ 3 := by
  have h : ∀ n ∈ List.range 101, (↑(toString ((n : Nat) : Int)) : Str).length ≤ 3 := by decide +kernel
  intro t h0 h1
  have := h t.toNat (List.mem_range.mpr (by omega))
  rwa [Int.toNat_of_nonneg h0] at this

/-! ### exceptions held as values -/
/-- at a: an exception of the own class D, not raised; fs: its own fields -/
def XVal (H : Hp) (a D : Addr) (fs : List (Str × V)) : Prop := (fs = [] ∧ H a = some (ExI (.ref D) none a)) ∨ ∃ d, H a = some (exo a D (some d)) ∧ H d = some (exd d fs)
theorem XVal.same {H H' : Hp} {a D : Addr} {fs : List (Str × V)} (h : XVal H a D fs) (s : Same H H') : XVal H' a D fs := by
  rcases h with ⟨h1, h2⟩ | ⟨d, h1, h2⟩
  · exact .inl ⟨h1, s _ _ h2⟩
  · exact .inr ⟨d, s _ _ h1, s _ _ h2⟩
theorem xval_inst {X : Cx} {pins : List (Addr × Obj)} {σ : L2.St} {H : Hp} {s : Shared} {a D : Addr} {fs : List (Str × V)} (I : Inv X pins σ H s) (h : XVal H a D fs) : ∃ oe od, PySem.W.InstAt s.heap a oe D od := by
  rcases h with ⟨_, h⟩ | ⟨d, h1, h2⟩
  · obtain ⟨oe, J⟩ := exI_at I h
    exact ⟨oe, none, J⟩
  · obtain ⟨t1, ho⟩ := exo_at I.hok h1
    obtain ⟨mA, ⟨o, _, _, hd, _⟩, _⟩ := exd_at I.hok h2
    exact ⟨_, some o, ho, rfl, rfl, hd⟩
def rIsV (K : PySem.W.Frag) : List V → Hp → VK → Prop := fun xs H Q => ∃ (a D : Addr) (fs : List (Str × V)) (c : V) (u : Value) (b : Bool), xs = [.ref a, c] ∧ XVal H a D fs ∧ L2.ExcC K D ∧ ClsV c u ∧ PySem.W.kitOne K (.ref D) u = some b ∧ Q (.bl b) H
theorem call_isV {X : Cx} : CallR X (.builtin "isinstance") (rIsV X.K) := by
  intro pins s σ H xs us Q I r h
  obtain ⟨a, D, fs, c, u, b, rfl, hx, C, k, e, q⟩ := h
  obtain ⟨u1, u2, rfl, r1, r2⟩ := vals2 r
  cases r1
  cases k.eq r2
  obtain ⟨oe, od, J⟩ := xval_inst I hx
  obtain ⟨cd, hcd, _⟩ := PySem.W.any_some C.hd
  exact PySem.W.kia_one (PySem.W.kitx_exc (show (PySem.W.clsIn _ D).isSome = true by rw [hcd]; rfl) C.hg C.hk C.hs C.ha C.hn C.ht C.hm) I.kIn J e (fun z => nomatch z) fun tk => ⟨.bl b, H, I.tok tk, rfl, q⟩
theorem L_isV {K : PySem.W.Frag} {H : Hp} {Q : VK} {a D : Addr} {fs : List (Str × V)} {c : V} {u : Value} {b : Bool} (h : XVal H a D fs) (C : L2.ExcC K D) (k : ClsV c u) (e : PySem.W.kitOne K (.ref D) u = some b) (q : Q (.bl b) H) : rIsV K [.ref a, c] H Q := ⟨a, D, fs, c, u, b, rfl, h, C, k, e, q⟩
/-- e.f, e such a value -/
def tXv (K : PySem.W.Frag) (f : Str) (te : TE) : TE := fun σ H Q => te σ H fun x H1 => ∃ (a D d : Addr) (fs : List (Str × V)) (v : V), x = .ref a ∧ L2.ExcC K D ∧ PySem.W.findIn K (.ref D) f = some none ∧ H1 a = some (exo a D (some d)) ∧ H1 d = some (exd d fs) ∧ fs.lookup f = some v ∧ Q v H1
theorem L_xv {K : PySem.W.Frag} {f : Str} {te : TE} {σ : L2.St} {H : Hp} {Q : VK} (h : te σ H fun x H1 => ∃ (a D d : Addr) (fs : List (Str × V)) (v : V), x = .ref a ∧ L2.ExcC K D ∧ PySem.W.findIn K (.ref D) f = some none ∧ H1 a = some (exo a D (some d)) ∧ H1 d = some (exd d fs) ∧ fs.lookup f = some v ∧ Q v H1) : tXv K f te σ H Q := h
theorem pe_xv {X : Cx} {e : Expr} {te : TE} {f : Str} {pos : Pos} (he : PE X e te) (hb : attributeBase e f X.env (eval e X.env) = eval e X.env := by rfl) : PE X (.Attribute e f pos) (tXv X.K f te) := by
  constructor
  intro pins s σ H Q I h
  refine attr_of hb (thn (he.run pins s σ H _ I h) fun u s1 ⟨x, H1, I1, rx, a, D, d, fs, v, ex, C, nf, h1, h2, l, q⟩ => ?_)
  subst ex
  cases rx
  obtain ⟨t1, ho⟩ := exo_at I1.hok h1
  obtain ⟨mA, hns, rel⟩ := exd_at I1.hok h2
  obtain ⟨od, hod, hlk⟩ := lookIn_ns hns
  obtain ⟨w, hw, rw'⟩ := RelO.some_of (v := v) (o := mA f) (by rw [← l]; exact rel f)
  have J : PySem.W.InstAt s1.heap a _ D (some od) := ⟨ho, rfl, rfl, hod⟩
  exact HandSPX.exc_get I1.kIn J C.hg C.hk C.hs (PySem.W.findObj_own C.hd nf rfl (by rw [hlk, hw])) (handed_of rw') ⟨v, H1, I1.tok _, rw', q⟩
/-- C(), C without an own __init__ -/
def tMk0V (C : Addr) : TE := fun _ H Q => ∀ a, H a = none → Q (.ref a) (upd H a (ExI (.ref C) none a))
theorem pe_mk0V {X : Cx} {C : Addr} {x : Str} {p pos : Pos} (c : ExcAt X.K C) (gC : X.mg x = some (.ref C)) (hg : Gl X x) (hdb : (x == ("__debug__" : Str)) = false := by decide) : PE X (.Call (.Name x p) [] [] pos) (tMk0V C) := by
  constructor
  intro pins s σ H Q I h
  refine wpAny_Call_Name_kw (ld_glob I hg gC ?_ hdb)
  refine PySem.W.callWith_K0 I.kIn c.k ?_
  obtain ⟨bm, N, nm, qn, bs, hdct, sn, sub, ab, col, dd, k0, k1, k2, k3, k5, mN, hC, hN, hni, T⟩ := exc_obj I.kIn c.x
  refine wpAny_call_exc_subT PySem.F.excBase_ValueError T hC hN hni (fun h' a hm => ?_) (Nat.zero_le _)
  have na : H a = none := I.hok.gone hm.new
  obtain ⟨t, at_, _, _⟩ := hm.there
  refine ⟨.ref a, _, I.laidN (o := ExI (.ref C) none a) hm.keeps hm.new na ⟨⟨_, _, at_, ⟨rfl, rfl⟩, rfl⟩, ⟨_, at_⟩, fun _ _ ⟨o1, v1, z, r⟩ k => ⟨o1, v1, k o1 z, r⟩⟩, rfl, h a na⟩
/-- C(..), C with an own __init__ -/
def tMkV (C : Addr) (sp : Sp) (ta : TA) : TE := fun σ H Q => ta σ H fun vs H1 => vs.length ≤ 1000 ∧ ∀ a, H1 a = none → sp (.ref a :: vs) (upd H1 a (exo a C none)) (fun v H2 => v = .non ∧ Q (.ref a) H2) E0
theorem L_mkV {C : Addr} {sp : Sp} {ta : TA} {σ : L2.St} {H : Hp} {Q : VK} (h : ta σ H fun vs H1 => vs.length ≤ 1000 ∧ ∀ a, H1 a = none → sp (.ref a :: vs) (upd H1 a (exo a C none)) (fun v H2 => v = .non ∧ Q (.ref a) H2) E0) : tMkV C sp ta σ H Q := h
theorem L_mk0V {C : Addr} {σ : L2.St} {H : Hp} {Q : VK} (h : ∀ a, H a = none → Q (.ref a) (upd H a (ExI (.ref C) none a))) : tMk0V C σ H Q := h
theorem pe_mkV {X : Cx} {k j : Nat} {C : Addr} {x : Str} {sp : Sp} {p pos : Pos} {e : Expr} {es : List Expr} {ta : TA} (c : XMak X.prog X.w X.K X.mg X.base k x C sp) (T : OexC X.K C) (hr : Room j X.A) (hk : k + 1 ≤ j) (hg : Gl X x) (ha : PA X (e :: es) ta)
    (hdb : (x == ("__debug__" : Str)) = false := by decide) (he : starEach (e :: es) X.env = (false, eval e X.env) :: starEach es X.env := by rfl) (hpl : (backTo pos (starEach es X.env)).any (·.1) = false := by rfl) :
    PE X (.Call (.Name x p) (e :: es) [] pos) (tMkV C sp ta) := by
  obtain ⟨f, fd, ps, F, iC, tI, hm, hb⟩ := c.ex
  have room := hr.mono hk
  obtain ⟨nm, q, N, bs, bm, sn, sub, ab, col, dd, k0, k1, k2, k3, k5, hC, hbm⟩ := T.cls
  constructor
  intro pins s σ H Q I h
  refine wpAny_Call_Name_kw (ld_glob I hg hm ?_ hdb)
  refine PySem.W.callWith_K (h₀ := X.base) I.ok.mod.kin T.kC (thn (ha.run pos pins s σ H _ I h) fun us s1 ⟨vs, H1, I1, r1, hz, q1⟩ => ⟨I1.kIn, ?_⟩) he hpl
  show wpAny _ _ (call (.ref C) us) _ _ _
  have r1 : Vals vs us := r1
  have few : us.length ≤ sizeLine := by
    have z1 := Paired.length r1
    have z2 := sizeLine_eq
    omega
  obtain ⟨hp, g, dr, tk, os⟩ := s1
  -- the arguments' tuple and the exception's own place
  have old : ∀ b o, hp.get? b = some o → ((hp.push (PySem.W.kdv_tup us)).push (PySem.HandSPX.excO C hp.objs.size)).get? b = some o := fun b o z => Heap.get?_push_of_some _ (Heap.get?_push_of_some _ z)
  have here : ((hp.push (PySem.W.kdv_tup us)).push (PySem.HandSPX.excO C hp.objs.size)).get? (hp.objs.size + 1) = some (PySem.HandSPX.excO C hp.objs.size) := by heap_get
  have free : H1 (hp.objs.size + 1) = none := I1.hok.fresh (Nat.le_succ _)
  have J : Inv X pins σ (upd H1 (hp.objs.size + 1) (exo (hp.objs.size + 1) C none)) ⟨(hp.push (PySem.W.kdv_tup us)).push (PySem.HandSPX.excO C hp.objs.size), g, dr, tk, os⟩ :=
    I1.laid (t' := tk) old (Nat.le_succ _) (exo_ok here)
  have asked := q1 _ free
  have args : Vals (V.ref (hp.objs.size + 1) :: vs) (Value.ref (hp.objs.size + 1) :: us) := .cons rfl r1
  have many : (Value.ref (hp.objs.size + 1) :: us).length = ps.length := args.length.symm.trans (F.len _ _ _ _ asked)
  have bound := hb _ (Value.ref (hp.objs.size + 1) :: us) J.kIn (by rw [List.append_nil]; exact many)
  rw [List.append_nil] at bound
  refine wpAny_call (PySem.HandSPX.call_own PySem.F.excBase_ValueError (fun Y => PySem.HandSPX.refsVE_contains Y bm hbm) (I1.kIn _ _ hC) (PySem.W.looks_findIn I1.kIn iC) (fun self => PySem.W.bind_fn I1.kIn self tI) few ?_)
  refine codeAny_mono (F.run _ X.stack _ _ ⟨_, []⟩ _ _ _ E0 (room.make C us []) (J.env0.make C us []) bound args asked) fun out s' ho => ?_
  match out, ho with
  | .error e, ho => exact pass0 pins σ _ _ e s' J ho
  | .ok (.ret u), ho =>
    obtain ⟨v, H', J', rel, hv, rest⟩ := J.after ho
    cases hv
    exact ⟨rel, .ref (hp.objs.size + 1), H', J', rfl, rest⟩
  | .ok .next, ho => exact ho.elim
  | .ok .brk, ho => exact ho.elim
  | .ok .cont, ho => exact ho.elim
theorem L_dsetd {td ty tx : TE} {σ : L2.St} {H : Hp} {Q : VK} (h : td σ H fun x H1 => ∃ a, x = .ref a ∧ IsD H1 a ∧ ty σ H1 fun y H2 => tx σ H2 fun z H3 => ∃ (kvs : List (Key × V)) (k : Key), H3 a = some (.dK kvs) ∧ y = kV k ∧ kvs.length < sizeLine ∧
  (∀ v, valV kvs k = some v → Q v H3) ∧ (valV kvs k = none → Q z (upd H3 a (.dK (putK kvs k z))))) : tDSetd td ty tx σ H Q := h
/-! ### the tuples of a heap; fields changed by += -/
noncomputable def tp (H : Hp) : Hp := rs (fun b => ∃ xs, H b = some (.tup xs)) H
theorem tp_same {H H' : Hp} (h : ∀ b xs, H b = some (.tup xs) → H' b = some (.tup xs)) : Same (tp H) (tp H') := rs_same fun b o ⟨xs, e⟩ z => ⟨⟨xs, h b xs e⟩, by rw [e] at z; cases z; exact h b xs e⟩
theorem tp_upd {H : Hp} {a : Addr} {o : HO} (h : ∀ xs, H a ≠ some (.tup xs)) : Same (tp H) (tp (upd H a o)) := tp_same fun b xs e => by rw [upd_ne fun z => h xs (by rw [← z]; exact e)]; exact e
theorem tp_at {H : Hp} {b : Addr} {xs : List V} (h : H b = some (.tup xs)) : tp H b = some (.tup xs) := rs_at ⟨xs, h⟩ h
theorem tp_of {H H' : Hp} (e : Same H H') : Same (tp H) (tp H') := tp_same fun b xs z => e _ _ z
theorem L_fldaug {K : PySem.W.Frag} {σ : L2.St} {H : Hp} {N B C' : L2.St → Hp → Prop} {R : VK} {f : Str} {ta tv : TE} {rd : V → V → Hp → VK → Prop} (h : ta σ H fun x H1 => ∃ a C dx fs v, x = .ref a ∧ H1 a = some (.ins C dx fs) ∧ Cls K C ∧ NoAttr K C f ∧ fs.lookup f = some v ∧
  tv σ H1 fun y H2 => rd v y H2 fun z H3 => ∃ dx' fs', H3 a = some (.ins C dx' fs') ∧ fs'.length < 1000 ∧ N σ (upd H3 a (.ins C dx' (putF f z fs')))) : sFldAug K ta tv rd f ⟨N, R, B, C'⟩ σ H := h
theorem L_rAdd {H : Hp} {Q : VK} {i j : Int} (h : Q (.int (i + j)) H) : rAdd (.int i) (.int j) H Q := ⟨i, j, rfl, rfl, h⟩
theorem fm_flt {α β : Type} (c : α → Bool) (g : α → β) : ∀ l : List α, (List.range l.length).filterMap (fun i => (l[i]?).bind fun x => if c x = true then some (g x) else none) = (l.filter c).map g
  | [] => rfl
  | a :: l => by
    have ih := fm_flt c g l
    rw [List.length_cons, List.range_succ_eq_map]
    simp only [List.filterMap_cons, List.getElem?_cons_zero, Option.bind_some, List.filterMap_map, Function.comp_def, List.getElem?_cons_succ]
    rw [ih]
    cases h : c a
    · rw [List.filter_cons_of_neg (by simp [h])]; simp
    · rw [List.filter_cons_of_pos h]; simp
/-- t * n, t a text -/
def rRepS : R2 := fun x y H Q => ∃ (z : Str) (k : Int), x = .str z ∧ y = .int k ∧ MulOk z k ∧ Q (.str (Txt.mul z k)) H
theorem op_repS {X : Cx} : OpR X (binaryOp .Mult) rRepS := by
  intro pins s σ H x y v u Q I rx ry h
  obtain ⟨z, k, rfl, rfl, hz, q⟩ := h
  obtain ⟨t, rfl⟩ := rx
  obtain ⟨t', rfl⟩ := ry
  exact SB.mul hz fun t' tk => ⟨.str (Txt.mul z k), H, I.tok _, ⟨_, rfl⟩, q⟩
theorem L_repS0 {H : Hp} {Q : VK} {z : Str} {k : Int} (h : k = 0) (q : Q (.str Str.empty) H) : rRepS (.str z) (.int k) H Q := by
  subst h
  exact ⟨z, 0, rfl, rfl, ⟨by decide, fun h => absurd (by decide) h, fun h => absurd (by decide) h⟩, q⟩
theorem sqT_upd {K : PySem.W.Frag} {H : Hp} {p a : Addr} {us xs : List V} {o : HO} (hp : H p = some (.lst us)) (h : SqT K H a xs) : SqT K (upd H p o) a xs := by
  rcases h with (h | ⟨o', h⟩) | h
  · exact .inl (.inl (by rw [upd_ne fun z => by rw [z, hp] at h; cases h]; exact h))
  · exact .inl (.inr ⟨o', by rw [upd_ne fun z => by rw [z, hp] at h; cases h]; exact h⟩)
  · exact .inr h
theorem rep_map {α : Type} (f : α → V) (xs : List α) (n : Nat) : (List.replicate n (xs.map f)).flatten = ((List.replicate n xs).flatten).map f := by
  induction n with
  | zero => rfl
  | succ n ih => rw [List.replicate_succ, List.flatten_cons, List.replicate_succ, List.flatten_cons, List.map_append, ih]
theorem cutG_both {α : Type} (xs : List α) {a b : Nat} (h1 : a ≤ b) (h2 : b ≤ xs.length) : cutG xs (some (a : Int)) (some (b : Int)) = (xs.drop a).take (b - a) := by
  unfold cutG
  rw [HT.sIx_nat, HT.sIx_nat, Nat.min_eq_left h2, Nat.min_eq_left (Nat.le_trans h1 h2)]
/-! ### looks at a question's form, ahead of steps that show something -/
section
variable {K : PySem.W.Frag} {σ : L2.St} {H : Hp} {Q : VK} {x y v : V}
theorem G_mul (h : aMul x y H Q) : aMul x y H Q := h
theorem G_mod {g : Int → Int → V} (h : rI (fun _ j => 0 < j) g x y H Q) : rI (fun _ j => 0 < j) g x y H Q := h
theorem G_div {g : Int → Int → V} (h : rI CDivW g x y H Q) : rI CDivW g x y H Q := h
theorem G_pow {g : Int → Int → V} (h : rI CPow g x y H Q) : rI CPow g x y H Q := h
theorem G_ix {p : Addr} {i : Int} (h : rIx K (.ref p) (.int i) H Q) : rIx K (.ref p) (.int i) H Q := h
theorem G_len {p : Addr} (h : aLen K [.ref p] H Q) : aLen K [.ref p] H Q := h
theorem G_meth {a : Addr} {C : Addr} {m : Str} {R : Addr → Addr → List (Str × V) → Prop} (h : ∃ a' dx fs, V.ref a = V.ref a' ∧ H a' = some (.ins C dx fs) ∧ fs.lookup m = none ∧ R a' dx fs) : ∃ a' dx fs, V.ref a = V.ref a' ∧ H a' = some (.ins C dx fs) ∧ fs.lookup m = none ∧ R a' dx fs := h
theorem G_isi {i : Int} {n : String} (h : rIsi K [.int i, .ty n] H Q) : rIsi K [.int i, .ty n] H Q := h
theorem G_d {p : Prop} [Decidable p] {A B : Prop} (h : if decide p = true then A else B) : if decide p = true then A else B := h
theorem G_nd {p : Prop} [Decidable p] {A B : Prop} (h : if (!decide p) = true then A else B) : if (!decide p) = true then A else B := h
theorem G_gn {i : Nat} {N : L2.St → Hp → Prop} (h : gName i v σ H N) : gName i v σ H N := h
end
theorem inV_strs (n : Str) : ∀ ns : List Str, inV (.str n) (ns.map V.str) = decide (n ∈ ns)
  | [] => by simp [inV]
  | k :: ns => by
    have ih := inV_strs n ns
    unfold inV at ih ⊢
    rw [List.map_cons, List.any_cons, ih]
    by_cases e : n = k
    · subst e
      simp [eqV]
    · have e' : ¬ k = n := fun z => e z.symm
      simp [eqV, e, e']
theorem flat_strs : ∀ ns : List Str, (ns.map V.str).all flatV = true
  | [] => rfl
  | _ :: ns => by rw [List.map_cons, List.all_cons, flat_strs ns]; rfl
section
variable {K : PySem.W.Frag} {H : Hp} {Q : VK} {p : Addr} {z : Str} {ns : List Str}
theorem L_notInSs (h : SqL K H p (ns.map V.str)) (q : Q (.bl (!decide (z ∈ ns))) H) : aNotIn K (.str z) (.ref p) H Q := .inr ⟨p, _, rfl, .inl h, rfl, flat_strs _, by rw [if_pos rfl, inV_strs]; exact q⟩
theorem L_inSs (h : SqL K H p (ns.map V.str)) (q : Q (.bl (decide (z ∈ ns))) H) : aIn K (.str z) (.ref p) H Q := .inr ⟨p, _, rfl, .inl h, rfl, flat_strs _, by rw [if_neg (by decide), inV_strs]; exact q⟩
end
/-! ### dicts: in, not in, d[k] = v -/
section
variable {K : PySem.W.Frag} {σ : L2.St} {H : Hp} {Q : VK} {ty td tv : TE} {y v : V} {a : Addr} {k : Key} {kvs : List (Key × V)}
theorem L_din (h : ty σ H fun y H1 => td σ H1 fun x H2 => ∃ a o, x = .ref a ∧ DGet H2 a y o ∧ Q (.bl o.isSome) H2) : tDIn ty td σ H Q := h
theorem L_dnin (h : ty σ H fun y H1 => td σ H1 fun x H2 => ∃ a o, x = .ref a ∧ DGet H2 a y o ∧ Q (.bl (!o.isSome)) H2) : tDNotIn ty td σ H Q := h
theorem L_dget (h : td σ H fun x H1 => ty σ H1 fun y H2 => ∃ a v, x = .ref a ∧ DGet H2 a y (some v) ∧ Q v H2) : tDGet td ty σ H Q := h
theorem L_dinv {R : Option V → Prop} (e : y = kV k) (h : H a = some (.dK kvs)) (q : R (valV kvs k)) : ∃ a' o, V.ref a = .ref a' ∧ DGet H a' y o ∧ R o := ⟨a, _, rfl, by rw [e]; exact DGet.k h, q⟩
theorem L_dgetv {R : V → Prop} (e : y = kV k) (h : H a = some (.dK kvs)) (hv : valV kvs k = some v) (q : R v) : ∃ a' v, V.ref a = .ref a' ∧ DGet H a' y (some v) ∧ R v := ⟨a, v, rfl, by rw [e, ← hv]; exact DGet.k h, q⟩
theorem L_dput {N B C : L2.St → Hp → Prop} {R : VK} (h : tv σ H fun v H1 => td σ H1 fun x H2 => ty σ H2 fun y H3 => ∃ a H4, x = .ref a ∧ DPut H3 a y v H4 ∧ N σ H4) : sDPut td ty tv ⟨N, R, B, C⟩ σ H := h
theorem L_dputv {R : Hp → Prop} (e : y = kV k) (h : H a = some (.dK kvs)) (hl : kvs.length < 1000000) (q : R (upd H a (.dK (putK kvs k v)))) : ∃ a' H4, V.ref a = .ref a' ∧ DPut H a' y v H4 ∧ R H4 := ⟨a, _, rfl, by rw [e]; exact DPut.k h (sz_lt hl), q⟩
end
theorem putK_len {kvs : List (Key × V)} {k : Key} {v : V} : (putK kvs k v).length ≤ kvs.length + 1 := by
  unfold putK
  split
  · rw [List.length_map]; omega
  · rw [List.length_append, List.length_singleton]; omega
/-! ### a comprehension of new pairs of ints -/
def T2 (H : Hp) (v : V) (p : Int × Int) : Prop := ∃ t, v = .ref t ∧ H t = some (.tup [.int p.1, .int p.2])
theorem paired_imp2 {α β : Type} {F G : α → β → Prop} (h : ∀ a b, F a b → G a b) : ∀ {xs : List α} {ys : List β}, Paired F xs ys → Paired G xs ys
  | [], _, p => by cases p; exact .nil
  | x :: xs, _, p => by cases p with | cons h1 h2 => exact .cons (h _ _ h1) (paired_imp2 h h2)
theorem paired_app {α β : Type} {F : α → β → Prop} : ∀ {xs us : List α} {ys ws : List β}, Paired F xs ys → Paired F us ws → Paired F (xs ++ us) (ys ++ ws)
  | [], _, _, _, p, q => by cases p; exact q
  | x :: xs, _, _, _, p, q => by cases p with | cons h1 h2 => exact .cons h1 (paired_app h2 q)
section
variable {σ : L2.St} {H : Hp} {g : TG} {tt : TT} {te : TE}
theorem lc_pr {J : It} {n : Nat} {G : Hp → Prop} {Y : Nat → Hp → V → Hp → Prop} (w : L2.Walk J n G Y) {vs : List Nat} {Qd : Addr → Hp → Prop} (f : Nat → Option (Int × Int)) (hn : n ≤ 1000000) (hG : ∀ H', Same H H' → G H')
    (hs : ∀ i x H2 H' (R : V → Hp → Prop) (R' : Hp → Prop), i < n → Same H H2 → Y i H2 x H' → (∀ t p H4, f i = some p → Same H2 H4 → H4 t = some (.tup [.int p.1, .int p.2]) → R (.ref t) H4) → (∀ H3, f i = none → Same H2 H3 → R' H3) →
      g x (wipe σ vs) H' fun σ2 H2 => wipe σ2 vs = wipe σ vs ∧ tt σ2 H2 fun b H3 => if b = true then te σ2 H3 R else R' H3)
    (q : ∀ p H' vs, H p = none → Same H H' → H' p = some (.lst vs) → Paired (T2 H') vs ((List.range n).filterMap f) → Qd p H') :
    ∀ D, H D = none → ∃ W : Nat → Nat → Hp → Prop, (∃ m, W 0 m (upd H D (.lst []))) ∧ ∀ i m H, W i m H →
      (J.stop i H ∧ Qd D H) ∨ (J.go i H ∧ ∃ Nx : Hp → Prop, (∀ H', Nx H' → ∃ m', m' < m ∧ W (i + 1) m' H') ∧ ∀ x H', J.yld i H x H' → g x (wipe σ vs) H' fun σ2 H2 => wipe σ2 vs = wipe σ vs ∧ tt σ2 H2 fun b H3 =>
        if b = true then te σ2 H3 fun y H4 => ∃ acc, H4 D = some (.lst acc) ∧ acc.length < sizeLine ∧ Nx (upd H4 D (.lst (acc ++ [y]))) else Nx H3) := by
  intro D hD
  refine lc_it w (fun i H2 => Same H H2 ∧ ∃ us, H2 D = some (.lst us) ∧ Paired (T2 H2) us ((List.range i).filterMap f)) ⟨same_new hD, [], upd_same, .nil⟩ (fun i H2 _ p => hG H2 p.1) ?_ (fun H2 ⟨p1, us, p2, p3⟩ => q D H2 us hD p1 p2 p3)
  rintro i x H2 H' hi ⟨p1, us, p2, p3⟩ y
  refine hs i x H2 H' _ _ hi p1 y (fun t d H4 e s et => ?_) (fun H3 e s => ?_)
  · have e4 := s _ _ p2
    have ne : ∀ t o, H4 t = some o → (∀ l, o ≠ .lst l) → t ≠ D := fun t o h h' z => by rw [z, e4] at h; injection h with h; exact h' _ h.symm
    refine ⟨us, e4, sz_lt (by have := Paired.length p3; have := fm_len' f i; omega), same_mut (p1.trans s) hD, _, upd_same, ?_⟩
    rw [fm_succ', e]
    have up : ∀ v p, T2 H4 v p → T2 (upd H4 D (.lst (us ++ [.ref t]))) v p := fun v p h => by
      obtain ⟨t', h1, h2⟩ := h
      exact ⟨t', h1, by rw [upd_ne (ne t' _ h2 (fun _ z => by cases z))]; exact h2⟩
    exact paired_app (paired_imp2 (fun v p h => up v p (by obtain ⟨t', h1, h2⟩ := h; exact ⟨t', h1, s _ _ h2⟩)) p3) (.cons (up _ _ ⟨t, rfl, et⟩) .nil)
  · refine ⟨p1.trans s, us, s _ _ p2, ?_⟩
    rw [fm_succ', e, List.append_nil]
    exact paired_imp2 (fun v p ⟨t, h1, h2⟩ => ⟨t, h1, s _ _ h2⟩) p3
end
/-! ### methods with defaults -/
structure MethD (K : PySem.W.Frag) (C : Addr) (m qual : Str) (st : Stmt) (ps : List Str) (dvs : List V) : Prop where
  ex : ∃ (f : Addr) (fd : FuncData), FunD K m qual (defArgs st) (defBody st) (defScope st) dvs [] f fd ∧ Meth K C m f ∧ Binds K fd ps [] ∧ ∃ ds, Vals dvs ds ∧ Binds K fd ps ds
theorem binds_full {K : PySem.W.Frag} {fd : FuncData} {ps : List Str} {dvs : List V} {j : Nat} (h : ∃ ds, Vals (dvs.drop j) ds ∧ Binds K fd ps ds) (hj : dvs.length ≤ j := by decide) : Binds K fd ps [] := by
  obtain ⟨ds, r, b⟩ := h
  rw [List.drop_eq_nil_of_le hj] at r
  cases r
  exact b
structure MetXD (P : Program) (w : World) (K : PySem.W.Frag) (mg : Str → Option Value) (base : Heap) (k : Nat) (C : Addr) (m : Str) (sp : Sp) (dvs : List V) : Prop where
  ex : ∃ (f : Addr) (fd : FuncData) (ps : List Str) (ds : List Value), Cls K C ∧ Meth K C m f ∧ FnOk P w K mg base (L2.CX P w) k f fd ps sp ∧ Binds K fd ps [] ∧ Vals dvs ds ∧ Binds K fd ps ds
section
variable {P : Program} {w : World} {K : PySem.W.Frag} {mg : Str → Option Value} {base : Heap}
theorem MethD.metXD {C : Addr} {m qual : Str} {st : Stmt} {N ps : List Str} {k : Nat} {sp : Sp} {dvs : List V} (c : Cls K C) (d : MethD K C m qual st ps dvs) (S : FnScope N ps (defScope st)) (len : ∀ vs H Q E, sp vs H Q E → vs.length = ps.length)
    (hbody : ∀ (f : Addr) (cdv : Value) (A : Around) (outer : List Env) (s : Shared) (H : Hp) (vs : List V) (Q : VK) (E : XK), Room k (A.deeper (envOfC qual (defScope st) s.heap.objs.size f cdv)) → sp vs H Q E →
      ∃ t, PSs (cxOf (L2.CX P w) P w K mg base N qual (defScope st) f cdv A outer s H E) (defBody st) t ∧ t { nx := fun _ H' => Q .non H', rt := Q } (start N vs) H) : MetXD P w K mg base (k + 1) C m sp dvs := by
  obtain ⟨f, fd, F, hm, b, ds, r, b2⟩ := d.ex
  exact ⟨f, fd, ps, ds, c, hm, F.ok S len (hbody f), b, r, b2⟩
theorem MetXD.m {k : Nat} {C : Addr} {m : Str} {sp : Sp} {dvs : List V} (c : MetXD P w K mg base k C m sp dvs) : MetX P w K mg base k C m sp := by
  obtain ⟨f, fd, ps, ds, hc, hm, F, b, r, b2⟩ := c.ex
  exact ⟨f, fd, ps, hc, hm, F, b⟩
end
def tMethDE (C : Addr) (m : Str) (sp : Sp) (dvs : List V) (E : L2.St → XK) (ta : TE) (t : TA) : TE := fun σ H Q => ta σ H fun x H1 => ∃ a dx fs, x = .ref a ∧ H1 a = some (.ins C dx fs) ∧ fs.lookup m = none ∧ t σ H1 fun vs H2 => sp (x :: vs ++ dvs) H2 Q (E σ)
section
variable {X : Cx} {CX : CXT} {k j : Nat} {f C : Addr} {fd : FuncData} {ps : List Str} {x m : Str} {sp : Sp} {p pos apos : Pos} {e o : Expr} {es : List Expr} {ta : TE} {t : TA} {E : L2.St → XK} {dvs : List V}
theorem L_methD {σ : L2.St} {H : Hp} {Q : VK} (h : ta σ H fun x H1 => ∃ a dx fs, x = .ref a ∧ H1 a = some (.ins C dx fs) ∧ fs.lookup m = none ∧ t σ H1 fun vs H2 => sp (x :: vs ++ dvs) H2 Q (E σ)) : tMethDE C m sp dvs E ta t σ H Q := h
theorem pe_xMtD {pl : Sem Bool} (c : MetXD X.prog X.w X.K X.mg X.base k C m sp dvs) (hr : Room j X.A) (hk : k ≤ j) (hx : ∀ σ, PassesAt (L2.CX X.prog X.w) X σ (E σ)) (he : PE X o ta) (ha : PA X (e :: es) t)
    (hst : starEach (e :: es) X.env = (false, eval e X.env) :: starEach es X.env := by rfl) (hpl : (backTo pos (starEach es X.env)).any (·.1) = false := by rfl)
    (ht : eval (.Call (.Attribute o m apos) (e :: es) [] pos) X.env = (do
      let ov ← eval o X.env
      standAt apos.atName
      let (f, first) ← holding [ov] (getMethod ov m pl)
      callWith pos f first (backTo pos (starEach (e :: es) X.env)) (backToKw pos (keywordEach [] X.env))) := by rfl) :
    PE X (.Call (.Attribute o m apos) (e :: es) [] pos) (tMethDE C m sp dvs E ta t) := by
  obtain ⟨f, fd, ps, ds, hc, hm, F, _, hd, hb⟩ := c.ex
  refine ⟨fun pins s σ H Q I h => ?_⟩
  refine PySem.W.methodCall_KW (pl := pl) (thn (he.run pins s σ H _ I h) fun u s1 ⟨x, H1, I1, rx, a, dx, fs, ex, ea, l, q⟩ => ?_) ht
  subst ex
  obtain rfl : u = Value.ref a := rx
  refine getmeth_ok I1 ea hc hm l ?_
  refine PySem.W.callWith_K (first := [.ref a]) (h₀ := X.base) I.ok.mod.kin hm.kp (thn (ha.run pos pins s1 σ H1 _ I1 q) fun us s2 ⟨vs, H2, I2, r, q2⟩ => ⟨I2.kIn, ?_⟩) hst hpl
  exact run_fnSD (us := .ref a :: us) (vs := .ref a :: vs) F (hr.mono hk) hb hd (hx σ) I2 (.cons rfl r) q2
end
/-! ### dicts with ints as keys -/
def rSortDI : List V → Hp → VK → Prop := fun xs H Q => ∃ (a : Addr) (kvs : List (Key × V)) (ks : List Int), xs = [.ref a] ∧ Rd H a (.dK kvs) ∧ kvs.map (·.1) = ks.map Sum.inl ∧ ks.length < 64 ∧
    ∀ (ys : List Int) (p : Addr), ys.Perm ks → ys.Pairwise (· ≤ ·) → H p = none → Q (.ref p) (upd H p (.lst (ys.map V.int)))
theorem cr_sortDI {X : Cx} (hc : X.calm = true) : CallR X (.builtin "sorted") rSortDI := call_sortedDI hc
/-- the dict kvs is the function g: a key stands where g is not nought -/
def DGr (kvs : List (Key × V)) (g : Int → Int) : Prop := ∃ ks : List Int, kvs.map (·.1) = ks.map Sum.inl ∧ ks.Nodup ∧ (∀ f, f ∈ ks ↔ g f ≠ 0) ∧ ∀ f, g f ≠ 0 → valV kvs (Sum.inl f : Key) = some (.int (g f))
theorem DGr.none {kvs : List (Key × V)} {g : Int → Int} (h : DGr kvs g) {f : Int} (hf : g f = 0) : valV kvs (Sum.inl f : Key) = none := by
  obtain ⟨ks, h1, h2, h3, h4⟩ := h
  cases e : valV kvs (Sum.inl f : Key) with
  | none => rfl
  | some v =>
    obtain ⟨kv, hk, _⟩ := Option.map_eq_some_iff.mp e
    have hm := List.mem_of_find?_eq_some hk
    have he : kv.1 = (Sum.inl f : Key) := of_decide_eq_true (List.find?_some (p := fun kv : Key × V => decide (kv.1 = (Sum.inl f : Key))) hk)
    have : (Sum.inl f : Key) ∈ ks.map Sum.inl := by rw [← h1, ← he]; exact List.mem_map_of_mem hm
    obtain ⟨f', hf', e'⟩ := List.mem_map.mp this
    cases e'
    exact absurd hf ((h3 f).mp hf')
theorem DGr.getD {kvs : List (Key × V)} {g : Int → Int} (h : DGr kvs g) (f : Int) : (valV kvs (Sum.inl f : Key)).getD (.int 0) = .int (g f) := by
  by_cases hf : g f = 0
  · rw [h.none hf, hf]; rfl
  · obtain ⟨ks, h1, h2, h3, h4⟩ := h
    rw [h4 f hf]; rfl
theorem DGr.nil : DGr [] (fun _ => 0) := ⟨[], rfl, .nil, fun f => by simp, fun f h => absurd rfl h⟩
theorem DGr.one {k v : Int} (hv : v ≠ 0) : DGr [(Sum.inl k, .int v)] (fun f => if f = k then v else 0) := ⟨[k], rfl, by simp, fun f => by
  rw [List.mem_singleton]
  by_cases h : f = k
  · simp [h, hv]
  · simp [h], fun f h => by
  by_cases e : f = k
  · subst e; simp [valV]
  · simp [e] at h⟩
theorem DGr.put {kvs : List (Key × V)} {g : Int → Int} (h : DGr kvs g) (k v : Int) (hv : v ≠ 0) : DGr (putK kvs (Sum.inl k) (.int v)) (fun f => if f = k then v else g f) := by
  have hval : ∀ f, (if f = k then v else g f) ≠ 0 → valV (putK kvs (Sum.inl k : Key) (.int v)) (Sum.inl f) = some (.int (if f = k then v else g f)) := fun f hf => by
    rw [L2.valV_put]
    by_cases e : f = k
    · rw [if_pos e, if_pos (by rw [e])]
    · rw [if_neg e] at hf ⊢
      rw [if_neg (fun z => e (Sum.inl.inj z))]
      obtain ⟨ks, h1, h2, h3, h4⟩ := h
      exact h4 f hf
  by_cases hk : g k = 0
  · have hn := h.none hk
    obtain ⟨ks, h1, h2, h3, h4⟩ := h
    have e : putK kvs (Sum.inl k : Key) (.int v) = kvs ++ [(Sum.inl k, .int v)] := L2.putK_new (.int v) hn
    refine ⟨ks ++ [k], by rw [e, List.map_append, List.map_append, h1]; rfl, ?_, fun f => ?_, hval⟩
    · rw [List.nodup_append]
      refine ⟨h2, by simp, fun a ha b hb => ?_⟩
      rw [List.mem_singleton] at hb
      rintro rfl
      subst hb
      exact (h3 _).mp ha hk
    · rw [List.mem_append, List.mem_singleton, h3]
      by_cases e : f = k
      · simp [e, hv]
      · simp [e]
  · obtain ⟨ks, h1, h2, h3, h4⟩ := h
    have hany : (kvs.any fun kv => decide (kv.1 = (Sum.inl k : Key))) = true := by
      rw [List.any_eq_true]
      have : (Sum.inl k : Key) ∈ kvs.map (·.1) := by rw [h1]; exact List.mem_map_of_mem ((h3 k).mpr hk)
      obtain ⟨kv, hm, e⟩ := List.mem_map.mp this
      exact ⟨kv, hm, decide_eq_true e⟩
    refine ⟨ks, ?_, h2, fun f => ?_, hval⟩
    · unfold putK
      rw [if_pos hany, List.map_map, ← h1]
      refine List.map_congr_left fun kv _ => ?_
      show (if kv.1 = Sum.inl k then (kv.1, V.int v) else kv).1 = kv.1
      split <;> rfl
    · rw [h3]
      by_cases e : f = k
      · simp [e, hv, hk]
      · simp [e]
theorem DGr.congr {kvs : List (Key × V)} {g g' : Int → Int} (h : DGr kvs g) (e : ∀ f, g f = g' f) : DGr kvs g' := by
  rw [show g' = g from funext fun f => (e f).symm]; exact h
/-- a rising list of whole numbers from 0 to n - 1 is known by its members -/
def upN (n : Nat) : List Int := (List.range n).map fun i : Nat => (i : Int)
def keysOf (n : Nat) (h : Int → Int) : List Int := (upN n).filter fun f => decide (h f ≠ 0)
theorem upN_mem {n : Nat} {f : Int} : f ∈ upN n ↔ 0 ≤ f ∧ f < n := by
  unfold upN
  rw [List.mem_map]
  constructor
  · rintro ⟨i, hi, rfl⟩
    have := List.mem_range.mp hi
    omega
  · rintro ⟨h0, h1⟩
    exact ⟨f.toNat, List.mem_range.mpr (by omega), by omega⟩
theorem upN_lt (n : Nat) : (upN n).Pairwise (· < ·) := by
  unfold upN
  rw [List.pairwise_map]
  exact List.pairwise_lt_range.imp fun h => by omega
theorem lt_perm : ∀ {l l' : List Int}, l.Pairwise (· < ·) → l'.Pairwise (· < ·) → (∀ x, x ∈ l ↔ x ∈ l') → l = l'
  | [], [], _, _, _ => rfl
  | [], b :: l', _, _, h => absurd ((h b).mpr (List.mem_cons_self ..)) (by simp)
  | a :: l, [], _, _, h => absurd ((h a).mp (List.mem_cons_self ..)) (by simp)
  | a :: l, b :: l', h1, h2, h => by
    rw [List.pairwise_cons] at h1 h2
    have hab : a = b := by
      have ha := (h a).mp (List.mem_cons_self ..)
      have hb := (h b).mpr (List.mem_cons_self ..)
      rcases List.mem_cons.mp ha with e | e
      · exact e
      · rcases List.mem_cons.mp hb with e' | e'
        · exact e'.symm
        · have := h1.1 b e'
          have := h2.1 a e
          omega
    subst hab
    rw [lt_perm h1.2 h2.2 fun x => ?_]
    constructor
    · intro hx
      have := h1.1 x hx
      rcases List.mem_cons.mp ((h x).mp (List.mem_cons_of_mem _ hx)) with e | e
      · omega
      · exact e
    · intro hx
      have := h2.1 x hx
      rcases List.mem_cons.mp ((h x).mpr (List.mem_cons_of_mem _ hx)) with e | e
      · omega
      · exact e
theorem L_sortDI {H : Hp} {Q : VK} {a : Addr} {kvs : List (Key × V)} {g : Int → Int} {n : Nat} (hn : n < 64) (h : H a = some (.dK kvs)) (hg : DGr kvs g) (hb : ∀ f, g f ≠ 0 → 0 ≤ f ∧ f < n) (q : ∀ p, H p = none → Q (.ref p) (upd H p (.lst ((keysOf n g).map V.int)))) : rSortDI [.ref a] H Q := by
  obtain ⟨ks, h1, h2, h3, h4⟩ := hg
  have key : ∀ ys : List Int, ys.Perm ks → ys.Pairwise (· ≤ ·) → ys = keysOf n g := fun ys hp hs => by
    refine lt_perm ?_ ((upN_lt n).filter _) fun x => ?_
    · have nd := hp.nodup_iff.mpr h2
      exact (hs.and nd).imp fun ⟨h1, h2⟩ => by omega
    · rw [hp.mem_iff, h3]
      unfold keysOf
      rw [List.mem_filter, upN_mem, decide_eq_true_eq]
      exact ⟨fun z => ⟨hb x z, z⟩, fun z => z.2⟩
  refine ⟨a, kvs, ks, rfl, .inl h, h1, ?_, fun ys p hp hs hf => ?_⟩
  · have : ks.Perm (keysOf n g) := (List.perm_ext_iff_of_nodup h2 ((upN_lt n).imp (fun h => by omega) |>.filter _)).mpr fun x => by
      rw [h3]
      rw [List.mem_filter, upN_mem, decide_eq_true_eq]
      exact ⟨fun z => ⟨hb x z, z⟩, fun z => z.2⟩
    rw [this.length_eq]
    refine Nat.lt_of_le_of_lt (List.length_filter_le ..) ?_
    unfold upN
    rw [List.length_map, List.length_range]
    exact hn
  · rw [key ys hp hs]
    exact q p hf
theorem L_dget2 {σ : L2.St} {H : Hp} {Q : VK} {td ty tx : TE} (h : td σ H fun x H1 => ∃ a, x = .ref a ∧ IsD H1 a ∧ ty σ H1 fun y H2 => tx σ H2 fun z H3 => ∃ o, DGet H3 a y o ∧ Q (o.getD z) H3) : tDGet2 td ty tx σ H Q := h
theorem isD_at' {H : Hp} {a : Addr} {kvs : List (Key × V)} (h : H a = some (.dK kvs)) : IsD H a := .inl ⟨kvs, .inl h⟩
/-! ### a chain of three comparisons -/
def tChain3 (r r' r'' : R2) (ta tb tc td : TE) : TE := fun σ H Q => ta σ H fun x H1 => tb σ H1 fun y H2 => r x y H2 fun z H3 => ∃ k, z = .bl k ∧
  (if k = true then tc σ H3 fun w' H4 => r' y w' H4 fun z2 H5 => ∃ k2, z2 = .bl k2 ∧ (if k2 = true then td σ H5 fun u' H6 => r'' w' u' H6 Q else Q (.bl false) H5) else Q (.bl false) H3)
section
variable {X : Cx} {a b c d : Expr} {ta tb tc td : TE} {pos : Pos}
theorem pe_chain3 {op op' op'' : CmpOp} {r r' r'' : R2} (ho : OpR X (compareOp op) r) (ho' : OpR X (compareOp op') r') (ho'' : OpR X (compareOp op'') r'') (ha : PE X a ta) (hb : PE X b tb) (hc : PE X c tc) (hd : PE X d td)
    (hm : lastMarks [op, op', op''] [b, c, d] = false := by with_unfolding_all rfl) : PE X (.Compare a [op, op', op''] [b, c, d] pos) (tChain3 r r' r'' ta tb tc td) := by
  refine ⟨fun pins s σ H Q I h => ?_⟩
  refine Compare_chain (thn (ha.run pins s σ H _ I h) fun v s1 ⟨x, H1, I1, r1, q1⟩ => chain_link (thn (hb.run pins s1 σ H1 _ I1 q1) fun u s2 ⟨y, H2, I2, r2, q2⟩ =>
    thn (ho pins s2 σ H2 x y v u _ I2 r1 r2 q2) fun d s3 ⟨z, H3, I3, r3, k, e, q3⟩ => ?_)) hm
  subst e
  cases r3
  refine wpAny_truthy_bool ?_
  cases k with
  | false => exact ite_ff ⟨.bl false, H3, I3, rfl, q3⟩
  | true =>
    refine ite_tt (chain_link (thn (hc.run pins s3 σ H3 _ I3 q3) fun w' s4 ⟨z', H4, I4, r4, q4⟩ => thn (ho' pins s4 σ H4 y z' u w' _ I4 r2 r4 q4) fun d2 s5 ⟨z2, H5, I5, r5, k2, e2, q5⟩ => ?_))
    subst e2
    cases r5
    refine wpAny_truthy_bool ?_
    cases k2 with
    | false => exact ite_ff ⟨.bl false, H5, I5, rfl, q5⟩
    | true => exact ite_tt (chain_last (thn (hd.run pins s5 σ H5 _ I5 q5) fun u' s6 ⟨z3, H6, I6, r6, q6⟩ => ho'' pins s6 σ H6 z' z3 w' u' Q I6 r4 r6 q6))
theorem L_chain3 {r r' r'' : R2} {σ : L2.St} {H : Hp} {Q : VK} (h : ta σ H fun x H1 => tb σ H1 fun y H2 => r x y H2 fun z H3 => ∃ k, z = .bl k ∧
  (if k = true then tc σ H3 fun w' H4 => r' y w' H4 fun z2 H5 => ∃ k2, z2 = .bl k2 ∧ (if k2 = true then td σ H5 fun u' H6 => r'' w' u' H6 Q else Q (.bl false) H5) else Q (.bl false) H3)) : tChain3 r r' r'' ta tb tc td σ H Q := h
end
/-- the chain's test, as a value's -/
theorem L_catA {K : PySem.W.Frag} {H : Hp} {a b : Addr} {xs ys : List V} {Q : VK} (h1 : SqT K H a xs) (h2 : SqT K H b ys) (n1 : xs ≠ []) (n2 : ys ≠ []) (hl : xs.length + ys.length ≤ sizeLine) (q : ∀ p, H p = none → Q (.ref p) (upd H p (.tup (xs ++ ys)))) : aAdd K (.ref a) (.ref b) H Q :=
  .inr (.inr (.inr ⟨a, b, xs, ys, rfl, rfl, h1, h2, hl, fun e => absurd e n1, fun _ e => absurd e n2, fun _ _ => q⟩))
/-! ### several except clauses, some of them with a name -/
abbrev HdA := Value × Option Nat × (Addr → Value → Option Addr → TS)
def wManyA (K : PySem.W.Frag) (Wout : WX) (D : Ends) : List HdA → WX
  | [] => Wout
  | (c, none, ts) :: r => fun cls d σ H => ∃ b, PySem.W.exmOne K cls c = some b ∧ (b = true → ∀ a, H a = none → ts a cls d D σ H) ∧ (b = false → wManyA K Wout D r cls d σ H)
  | (c, some i, ts) :: r => fun cls d σ H => ∃ b, PySem.W.exmOne K cls c = some b ∧
    (b = true → ∀ a, H a = none → ts a cls d ⟨fun σ' H' => H' a = none → D.nx (σ'.set i none) (upd H' a (ExI cls d a)), D.rt, fun σ' H' => D.bk (σ'.set i none) H', fun σ' H' => D.ct (σ'.set i none) H'⟩ (σ.set i (some (.ref a))) H) ∧
    (b = false → wManyA K Wout D r cls d σ H)
inductive HdsA (X : Cx) : List ExceptHandler → List HdA → Prop
  | nil : HdsA X [] []
  | cons {x : Str} {c : Value} {ts : Addr → Value → Option Addr → TS} {b₀ : Stmt} {suite : List Stmt} {np pos' : Pos} {hds : List ExceptHandler} {l : List HdA} (hc : Names X x c)
      (hsu : ∀ (a : Addr) (oe : Obj) (cls : Value) (d : Option Addr) (pn : List (Addr × Obj)), Zc cls d oe → (∃ vs, oe.data = .fields vs) → PSs (X.suite a ((a, oe) :: pn)) (b₀ :: suite) (ts a cls d)) (r : HdsA X hds l) :
      HdsA X (.ExceptHandler (some (.Name x np)) none (b₀ :: suite) pos' :: hds) ((c, none, ts) :: l)
  | consA {x n : Str} {c : Value} {i : Nat} {ts : Addr → Value → Option Addr → TS} {b₀ : Stmt} {suite : List Stmt} {np pos' : Pos} {hds : List ExceptHandler} {l : List HdA} (hi : X.N[i]? = some n) (hln : X.env.kindOf n = some .local) (hc : Names X x c)
      (hsu : ∀ (a : Addr) (oe : Obj) (cls : Value) (d : Option Addr) (pn : List (Addr × Obj)), Zc cls d oe → (∃ vs, oe.data = .fields vs) → PSs (X.suite a ((a, oe) :: pn)) (b₀ :: suite) (ts a cls d)) (r : HdsA X hds l) :
      HdsA X (.ExceptHandler (some (.Name x np)) (some n) (b₀ :: suite) pos' :: hds) ((c, some i, ts) :: l)
section
variable {X : Cx} {body : List Stmt} {h₀ : ExceptHandler} {hds : List ExceptHandler} {l : List HdA} {pos : Pos} {tb : WX → TS} {Wout : WX}
theorem ps_try_manyA (hs : X.stack = X.env :: X.outer) (hf : X.env.frame = some X.env.locals) (hN : X.N.Nodup) (hex : X.ex = []) (tk : Takes X Wout)
    (hb : ∀ (W : WX) (pn : List (Addr × Obj)) (xe : Value → Shared → Prop), Takes (X.tr pn xe) W → PassesOwn (model X.prog X.w) X.A X.env xe → PSs (X.tr pn xe) body (tb W))
    (hh : HdsA X (h₀ :: hds) l) : PS X (.Try body (h₀ :: hds) [] [] pos) (fun D σ H => tb (wManyA X.K Wout D l) D σ H) := by
  constructor
  intro pins s0 σ0 H0 D I0 start
  have okX := I0.ok
  have frames : X.A.frames = some (X.env :: X.outer) := by
    rw [okX.frames, hs]
  apply wpAny_Try_except
  let look : Value → Shared → Prop := fun e t1 => wpAny (model X.prog X.w) X.A (noteFrame e X.env) (fun _ t2 => wpAny (model X.prog X.w) X.A (setFlight e none)
    (fun _ t3 => wpAny (model X.prog X.w) X.A (handleBy e X.env (h₀ :: hds)) (SP X pins D) X.xe t3) X.xe t2) X.xe t1
  have caught : Takes (X.tr (X.pn ++ pins) look) (wManyA X.K Wout D l) := by
    intro u s' air
    obtain ⟨a, B, sI, pins', σ', H', cls, d, rfl, K', nb, up, sky, na, os, ag, w⟩ := air
    have K0 : Inv X pins σ' H' sI := K'.ofTry okX
    have sky1 : Sky B (X.env :: X.outer) a (Zc cls d) X.env.locals s'.heap := hs ▸ sky
    show wpAny (model X.prog X.w) X.A (noteFrame (.ref a) X.env) _ _ _
    apply Sky.land Zc.steady frames hf sky1
    intro h3 fl3 up3
    have J3 : Inv X pins σ' H' { s' with heap := h3 } := K0.landed nb fl3.1 (up.trans up3) os ag
    obtain ⟨oe3, vs3, at3, z3, data3⟩ := fl3.there
    have offFrames : a ∉ frs (X.env :: X.outer) := fun hm => by
      obtain ⟨_, o', there', hnf⟩ := fl3.2.2.1.mem hm
      rw [at3] at there'
      cases there'
      exact hnf _ data3
    have nL : a ≠ X.env.locals := fun e => offFrames (List.mem_filterMap.mpr ⟨X.env, List.mem_cons_self, by rw [hf, e]⟩)
    have nF : a ∉ X.fs := fun hm => by
      obtain ⟨e, he, q⟩ := List.mem_filterMap.mp hm
      exact offFrames (List.mem_filterMap.mpr ⟨e, List.mem_cons_of_mem _ he, q⟩)
    -- a is new: it stood neither at the try's entry nor at the def's
    have newB : B.get? a = none := fl3.2.1
    have newI : sI.heap.get? a = none := by
      cases q : sI.heap.get? a with
      | none => rfl
      | some o =>
        have := nb a o q (by rw [hs]; exact offFrames)
        rw [newB] at this
        cases this
    have new0 : X.s_0.heap.get? a = none := by
      cases q : X.s_0.heap.get? a with
      | none => rfl
      | some o =>
        obtain ⟨o', q'⟩ := K0.base.there a o q (by rw [hex]; exact List.not_mem_nil)
        rw [newI] at q'
        cases q'
    have apart : ∀ p ∈ X.pn ++ pins, p.1 ≠ a := fun p hp e => by
      have := (K0.pin p hp).1
      rw [e, newI] at this
      cases this
    have S3 := J3.suite at3 data3 na nL nF
    have go : ∀ {hds' : List ExceptHandler} {l' : List HdA}, HdsA X hds' l' → wManyA X.K Wout D l' cls d σ' H' →
        wpAny (model X.prog X.w) X.A (handleBy (.ref a) X.env hds') (SP X pins D) X.xe { s' with heap := h3 } := by
      intro hds' l' hk
      induction hk with
      | nil =>
        intro no
        apply wpAny_handleBy_nil
        obtain ⟨_, _, _, oe, vs, T, oT, ts', he, hz, hd, h1, hr⟩ := id fl3
        unfold PySem.passOn
        refine wpAny_bind (wpAny_field he hd h1 ?_)
        rw [if_neg (show ¬ ((Value.ref T == Value.none) = true) from by simp)]
        have on : wpAny (model X.prog X.w) X.A (setFlight (.ref a) X.env.frame) (fun _ s4 => wpAny (model X.prog X.w) X.A (throw (.ref a) : Sem Flow) (SP X pins D) X.xe s4) X.xe { s' with heap := h3 } := by
          rw [hf]
          apply HandSPX.setFlight_upZ fl3
          intro h4 held4 up4
          apply wpAny_throw
          apply tk
          exact ⟨a, B, sI, pins, σ', H', cls, d, rfl, K0, nb, (up.trans up3).trans up4, .inr (.inr (by rw [hs]; exact held4)), na, os, ag, no⟩
        first
          | exact wpAny_bind (wpAny_pure (wpAny_bind on))
          | exact wpAny_bind on

      | @cons x c ts b₀ suite np pos' hds2 l2 hc hsu r ih =>
        intro w
        obtain ⟨b, exm, yes, no⟩ := w
        refine wpAny_handleBy_cons (codeAny_handlers_test ?_) (by intro q; cases q)
        have tyA : PySem.W.Looks (model X.prog X.w) h3 (typeOf (.ref a)) cls := fun A Q E t k q => wpAny_typeOf_ref (k _ _ at3) (by rw [z3.1]; exact q)
        have matched := PySem.W.exm_one (M := model X.prog X.w) (J3.kIn) tyA exm
        have named : ∀ {Q : Value → Shared → Prop} {E : Value → Shared → Prop}, Q c { s' with heap := h3 } → wpAny (model X.prog X.w) (X.A.mark (some (.ref a))) (eval (.Name x np) X.env) Q E { s' with heap := h3 } := by
          intro Q E q
          obtain ⟨hg, hdbg, hm⟩ := hc
          rcases hm with hm | ⟨hm, hv, hnn⟩
          · exact ld_glob (X := X.suite a ((a, oe3) :: (X.pn ++ pins))) S3 hg hm q hdbg
          · exact ld_blt (X := X.suite a ((a, oe3) :: (X.pn ++ pins))) S3 hg hm hv q hnn hdbg
        apply named
        apply matched.here
        cases b with
        | true =>
          refine codeAny_handlers_suite ?_
          refine HandSPX.lands_againZ fl3 fun h4 fl4 up4 => ?_
          have J4 : Inv X pins σ' H' { s' with heap := h4 } := K0.landed nb fl4.1 ((up.trans up3).trans up4) os ag
          obtain ⟨oe4, vs4, he4, hz4, hd4⟩ := fl4.there
          have S4 := J4.suite he4 hd4 na nL nF
          refine wpAny_mono ((hsu a oe4 cls d (X.pn ++ pins) hz4 ⟨_, hd4⟩).run [] _ _ H' _ S4 (yes rfl a na)) (fun f s6 hsp => ?_) (fun _ _ z => False.elim z)
          cases f with
          | next =>
            obtain ⟨σ6, H6, S6, q6⟩ := hsp
            exact ⟨_, _, S6.unsuite okX, q6⟩
          | brk =>
            obtain ⟨σ6, H6, S6, q6⟩ := hsp
            exact ⟨_, _, S6.unsuite okX, q6⟩
          | cont =>
            obtain ⟨σ6, H6, S6, q6⟩ := hsp
            exact ⟨_, _, S6.unsuite okX, q6⟩
          | ret u =>
            obtain ⟨v6, σ6, H6, S6, r6, q6⟩ := hsp
            exact ⟨_, _, _, S6.unsuite okX, r6, q6⟩
        | false =>
          show wpAny _ X.A (handleBy (.ref a) X.env hds2) _ _ _
          exact ih (no rfl)
      | @consA x n c i ts b₀ suite np pos' hds2 l2 hi hln hc hsu r ih =>
        intro w
        obtain ⟨b, exm, yes, no⟩ := w
        refine wpAny_handleBy_cons (codeAny_handlers_test ?_) (by intro q; cases q)
        have tyA : PySem.W.Looks (model X.prog X.w) h3 (typeOf (.ref a)) cls := fun A Q E t k q => wpAny_typeOf_ref (k _ _ at3) (by rw [z3.1]; exact q)
        have matched := PySem.W.exm_one (M := model X.prog X.w) (J3.kIn) tyA exm
        have named : ∀ {Q : Value → Shared → Prop} {E : Value → Shared → Prop}, Q c { s' with heap := h3 } → wpAny (model X.prog X.w) (X.A.mark (some (.ref a))) (eval (.Name x np) X.env) Q E { s' with heap := h3 } := by
          intro Q E q
          obtain ⟨hg, hdbg, hm⟩ := hc
          rcases hm with hm | ⟨hm, hv, hnn⟩
          · exact ld_glob (X := X.suite a ((a, oe3) :: (X.pn ++ pins))) S3 hg hm q hdbg
          · exact ld_blt (X := X.suite a ((a, oe3) :: (X.pn ++ pins))) S3 hg hm hv q hnn hdbg
        apply named
        apply matched.here
        cases b with
        | true =>
          apply codeAny_handlers_suite_as
          apply HandSPX.lands_againZ fl3
          intro h4 fl4 up4
          have J4 : Inv X pins σ' H' { s' with heap := h4 } := K0.landed nb fl4.1 ((up.trans up3).trans up4) os ag
          obtain ⟨oe4, vs4, at4, z4, data4⟩ := fl4.there
          have S4 := J4.suite at4 data4 na nL nF
          refine store_ok (X := X.suite a ((a, oe4) :: (X.pn ++ pins))) (v := .ref a) S4 hN hi (.inl hln) rfl (fun s5 S5 => ?_) (.inr hln)
          refine wpAny_mono ((hsu a oe4 cls d (X.pn ++ pins) z4 ⟨_, data4⟩).run [] s5 _ H' _ S5 (yes rfl a na)) (fun f s6 hsp => ?_) (fun _ _ z => z.elim)
          -- out of the suite, the exception still pinned
          have out : ∀ {σ6 : L2.St} {H6 : Hp} {Q : Shared → Prop}, Inv (X.suite a ((a, oe4) :: (X.pn ++ pins))) [] σ6 H6 s6 → (∀ s7, Inv X pins (σ6.set i none) H6 s7 → H6 a = none → s7.heap.get? a = some oe4 → Q s7) →
              wpAny (model X.prog X.w) X.A (do bindName X.env n .none; unbindBehindTheSuite X.env n pos') (fun _ s7 => Q s7) X.xe s6 := fun {σ6 H6 Q} S6 hq => by
            have P6 : Inv X ((a, oe4) :: pins) σ6 H6 s6 := { S6.unsuite okX with
              pin := fun p hp => S6.pin p (by
                rcases List.mem_append.mp hp with hp | hp
                · exact List.mem_append_left _ (List.mem_cons_of_mem _ (List.mem_append_left _ hp))
                · rcases List.mem_cons.mp hp with e | hp
                  · rw [e]; exact List.mem_append_left _ List.mem_cons_self
                  · exact List.mem_append_left _ (List.mem_cons_of_mem _ (List.mem_append_right _ hp))) }
            refine gone_ok P6 hN hi hln fun s7 P7 => ?_
            have pinned := P7.pin (a, oe4) (List.mem_append_right _ List.mem_cons_self)
            refine hq s7 { P7 with pin := fun p hp => P7.pin p ?_ } pinned.2.1 pinned.1
            rcases List.mem_append.mp hp with hp | hp
            · exact List.mem_append_left _ hp
            · exact List.mem_append_right _ (List.mem_cons_of_mem _ hp)
          match f, hsp with
          | .next, ⟨σ6, H6, S6, q6⟩ => exact out S6 fun s7 J7 n6 a6 => ⟨_, _, track J7 n6 a6 z4 data4 new0 nL apart, q6 n6⟩
          | .brk, ⟨σ6, H6, S6, q6⟩ => exact out S6 fun s7 J7 _ _ => ⟨_, _, J7, q6⟩
          | .cont, ⟨σ6, H6, S6, q6⟩ => exact out S6 fun s7 J7 _ _ => ⟨_, _, J7, q6⟩
          | .ret u, ⟨v6, σ6, H6, S6, r6, q6⟩ => exact out S6 fun s7 J7 _ _ => ⟨_, _, _, J7, r6, q6⟩
        | false =>
          show wpAny _ X.A (handleBy (.ref a) X.env hds2) _ _ _
          exact ih (no rfl)
    exact go hh w
  refine wpAny_mono ((hb (wManyA X.K Wout D l) (X.pn ++ pins) look caught PassesOwn.looking).run [] s0 σ0 H0 D (I0.toTry _) start) (fun f s1 hsp => ?_) (fun e s1 he => he)
  match f, hsp with
  | .next, ⟨σ1, H1, J1, q⟩ => exact wpAny_execs_nil ⟨σ1, H1, J1.ofTry okX, q⟩
  | .brk, ⟨σ1, H1, J1, q⟩ => exact ⟨σ1, H1, J1.ofTry okX, q⟩
  | .cont, ⟨σ1, H1, J1, q⟩ => exact ⟨σ1, H1, J1.ofTry okX, q⟩
  | .ret u, ⟨v, σ1, H1, J1, r, q⟩ => exact ⟨v, σ1, H1, J1.ofTry okX, r, q⟩
end
theorem L_many {K : PySem.W.Frag} {H : Hp} {c : Value} {ts : Addr → Value → Option Addr → TS} {r : List HdA} {Wout : WX} {D : Ends} {σ : L2.St} {cls : Value} {d : Option Addr} (h : PySem.W.exmOne K cls c = some true)
    (q : ∀ a, H a = none → ts a cls d D σ H) : wManyA K Wout D ((c, none, ts) :: r) cls d σ H := ⟨true, h, fun _ => q, fun z => nomatch z⟩
theorem L_manyA {K : PySem.W.Frag} {H : Hp} {c : Value} {i : Nat} {ts : Addr → Value → Option Addr → TS} {r : List HdA} {Wout : WX} {D : Ends} {σ : L2.St} {cls : Value} {d : Option Addr} (h : PySem.W.exmOne K cls c = some true)
    (q : ∀ a, H a = none → ts a cls d ⟨fun σ' H' => H' a = none → D.nx (σ'.set i none) (upd H' a (ExI cls d a)), D.rt, fun σ' H' => D.bk (σ'.set i none) H', fun σ' H' => D.ct (σ'.set i none) H'⟩ (σ.set i (some (.ref a))) H) : wManyA K Wout D ((c, some i, ts) :: r) cls d σ H := ⟨true, h, fun _ => q, fun z => nomatch z⟩
theorem L_manyN {K : PySem.W.Frag} {H : Hp} {c : Value} {ts : Addr → Value → Option Addr → TS} {r : List HdA} {Wout : WX} {D : Ends} {σ : L2.St} {cls : Value} {d : Option Addr} (h : PySem.W.exmOne K cls c = some false)
    (q : wManyA K Wout D r cls d σ H) : wManyA K Wout D ((c, none, ts) :: r) cls d σ H := ⟨false, h, (fun z => nomatch z), fun _ => q⟩
/-! ### a != b of two lists of the same objects; xs[i] op= e; any of ints -/
def rNeRefs (K : PySem.W.Frag) : R2 := fun x y H Q => ∃ (a b : Addr) (os : List Addr), x = .ref a ∧ y = .ref b ∧ SqL K H a (os.map V.ref) ∧ SqL K H b (os.map V.ref) ∧ Q (.bl false) H
theorem vals_refs : ∀ {os : List Addr} {us : List Value}, Vals (os.map V.ref) us → us = os.map Value.ref
  | [], _, r => by cases r; rfl
  | o :: os, _, r => by
    cases r with
    | cons h t =>
      rw [show _ = Value.ref o from h, vals_refs t]
      rfl
theorem op_neRefs {X : Cx} (hu : X.A.units < cLine) : OpR X (compareOp .NotEq) (rNeRefs X.K) := by
  intro pins s σ H x y v u Q I rx ry h
  obtain ⟨a, b, os, rfl, rfl, ha, hb, q⟩ := h
  cases (show v = Value.ref a from rx)
  cases (show u = Value.ref b from ry)
  obtain ⟨us, r1, p1, _⟩ := I.list ha
  obtain ⟨ws, r2, p2, _⟩ := I.list hb
  obtain rfl := vals_refs r1
  obtain rfl := vals_refs r2
  refine SeqAt.RcNeAt.lists (e := fun _ => true) p1.isList p2.isList rfl hu (fun j h1 h2 => SeqAt.EqAt.same _) X.prog X.w _ _ ?_
  exact ⟨.bl false, H, I, by
    show Value.bool _ = Value.bool _
    rw [show ((List.range _).all fun _ => true) = true from List.all_eq_true.mpr fun _ _ => rfl]
    rfl, q⟩
def rGetL (K : PySem.W.Frag) : V → V → Hp → VK → Prop := fun o i H Q => ∃ (p : Addr) (xs : List V) (k : Int) (v : V), o = .ref p ∧ i = .int k ∧ SqL K H p xs ∧ 0 ≤ k ∧ xs[k.toNat]? = some v ∧ Q v H
theorem pget_list {X : Cx} : PGet X (rGetL X.K) := by
  intro pins s σ H o i ov iv Q I ro ri h
  obtain ⟨p, xs, k, v, rfl, rfl, hL, h0, hv, q⟩ := h
  cases (show ov = Value.ref p from ro)
  obtain ⟨t, rfl⟩ := ri
  obtain ⟨its, r, pl, hz⟩ := I.list hL
  obtain ⟨u, eu, ru⟩ := r.get hv
  have hl := r.length
  have hn := line63
  have lt := (List.getElem?_eq_some_iff.mp hv).1
  exact wpAny_getItem_list pl.isList h0 (by omega) (by simpa using eu) ⟨v, H, I, ru, q⟩
theorem L_augS {σ : L2.St} {H : Hp} {to ti te : TE} {tget : V → V → Hp → VK → Prop} {tip : TIp} {tset : TSet} {N B C : L2.St → Hp → Prop} {R : VK} (h : to σ H fun o H1 => ti σ H1 fun i H2 => tget o i H2 fun x H3 => te σ H3 fun y H4 => tip x y H4 fun z H5 => tset o i z H5 fun H6 => N σ H6) : tAugS to ti te tget tip tset ⟨N, R, B, C⟩ σ H := h
theorem L_getL {K : PySem.W.Frag} {H : Hp} {Q : VK} {p : Addr} {xs : List V} {k : Int} {v : V} (h : SqL K H p xs) (h0 : 0 ≤ k) (hv : xs[k.toNat]? = some v) (q : Q v H) : rGetL K (.ref p) (.int k) H Q := ⟨p, xs, k, v, rfl, rfl, h, h0, hv, q⟩
theorem truth_of_ints {prog : Program} {w : World} {A : Around} {ns : List Int} {its : List Value} (e : IntsAre its ns) :
    TruthOf prog w A (fun i v => its.toArray[i]? = some v) (fun i => ns.getD i 0 != 0) := fun i v s Q E hv hq => by
  have hv' : its[i]? = some v := by simpa using hv
  obtain ⟨tk, e2⟩ := PyProof.Rows.IntsAre.int_at e i v hv'
  rw [e2]
  exact truthy_int hq
theorem any_ints : ∀ ns : List Int, (List.range ns.length).any (fun i => ns.getD i 0 != 0) = ns.any (· != 0)
  | [] => rfl
  | n :: ns => by
    have ih := any_ints ns
    rw [List.length_cons, List.range_succ_eq_map, List.any_cons, List.any_map, List.any_cons, ← ih]
    rfl
def rAnyI (K : PySem.W.Frag) : List V → Hp → VK → Prop := fun vs H Q => ∃ (a : Addr) (ns : List Int), vs = [.ref a] ∧ SqL K H a (ns.map V.int) ∧ Q (.bl (ns.any (· != 0))) H
theorem cr_anyI {X : Cx} (calm : X.calm = true) : CallR X (.builtin "any") (rAnyI X.K) := by
  intro pins s σ H vs us Q I r h
  obtain ⟨a, ns, rfl, hL, q⟩ := h
  obtain ⟨its, rv, pl, _⟩ := I.list hL
  have few := rv.length
  rw [Vals.ref1 r]
  apply call_any_walk
  apply iter_any pl.isList
  intro s2 e2 st apart
  subst e2
  refine ⟨_, _, _, _, _, _, _, rfl, Walks.list (A := X.A.in1) (I.ok.hd calm) _ a apart its.toArray, st, truth_of_ints (intsAre_of rv), fun g tk k => ?_⟩
  refine ⟨.bl _, H, I.kept fun b o eo => k b o ?_ (Heap.get?_push_of_some _ eo), ?_, q⟩
  · intro hm
    rw [List.mem_singleton] at hm
    exact absurd (hm ▸ Heap.lt_size eo) (Nat.lt_irrefl _)
  · change Value.bool _ = Value.bool _
    rw [← any_ints, List.size_toArray, ← few, List.length_map]
end Kt

set_option Elab.async false
set_option linter.all false
set_option maxRecDepth 100000
set_option maxHeartbeats 4000000
namespace Kt
open PySem PySem.Spec PyProof.Rows L2
/-! ### set(xs) of a list of ints -/
abbrev freshSet (w : World) : Obj := { cls := .type "set", dict := none, data := .set #[] 0 (.fresh 0 0 (!w.params.followText "set-order")) }
section
variable {P : Program} {w : World} {A : Around} {E : Value → Shared → Prop} {t : Shared}
theorem set_of_list {l : Addr} {xs : Array Value} (ms : List Int) {R : Value → Shared → Prop} (calm : A.handled = none) (isL : t.heap.IsList l xs) (allI : IntsAre xs.toList ms) (few : ms.length + 1 < scanBound)
    (k : ∀ (g : Heap) (tk n : Nat), SetR w g t.heap.objs.size (fun j => decide (j ∈ ms)) n → n ≤ ms.length → (∀ b o, t.heap.get? b = some o → g.get? b = some o) → R (.ref t.heap.objs.size) { t with heap := g, toks := tk }) :
    wpAny (model P w) A (call (.type "set") [.ref l]) R E t := by
  have size : xs.size = ms.length := by
    have e := IntsAre.length allI
    rwa [Array.length_toList] at e
  obtain ⟨c, tl, mro⟩ := F.called_set.mro
  have made := F.called_set.made
  have sub := F.called_set.sub
  apply wpAny_call
  apply codeAny_of_tree
  change wpAny _ _ (callAny (Value.type "set") _) _ _ _
  apply wpAny_pure
  refine ⟨Code.quiet_builtin _ (by decide +kernel), ?_⟩
  apply codeAny_builtin F.entry_type_call
  rw [Around.under_plain (weight_type_call_type "set" [Value.ref l] []) rfl]
  have n1 := F.called_set.notType
  have n2 := F.called_set.canCreate
  have ct := F.typeCall_set_1 (Value.ref l)
  repeat (any_goals (first | assumption | wp_step))
  apply codeAny_mono (code_set_led1 (w := w) (.ref l) (E := E) (Q₁ := fun obj u => obj = .ref t.heap.objs.size ∧ u = { t with heap := t.heap.push (freshSet w) }) ⟨rfl, rfl⟩)
  intro r u ru
  match r, ru with
  | .error e, ru => exact ru
  | .ok (.ret obj), ⟨e1, e2⟩ =>
    subst e1 e2
    have at0 : (t.heap.push (freshSet w)).get? t.heap.objs.size = some (freshSet w) := Heap.get?_push_size _ rfl
    have ty : Shared.TypeIs { t with heap := t.heap.push (freshSet w) } (.ref t.heap.objs.size) "set" := ⟨_, at0, rfl⟩
    have look := F.called_set.init.lookup
    have bind := F.called_set.init.bind (.ref t.heap.objs.size)
    repeat (any_goals (first | assumption | wp_step))
    let Told : Value → Shared → Prop := fun z u => z = .none ∧ ∃ (g : Heap) (tk n : Nat), u = { t with heap := g, toks := tk } ∧ SetR w g t.heap.objs.size (fun j => decide (j ∈ ms)) n ∧ n ≤ ms.length ∧ ∀ b o, t.heap.get? b = some o → g.get? b = some o
    apply codeAny_mono (codeAny_call_builtin (R := wants Told E) F.called_set.init.plain F.entry_set_init (check_set_init_1 ty ?inits))
    case inits =>
      obtain ⟨ob, there, cls, n, dat⟩ := isL
      obtain ⟨oc, od, odt, osl⟩ := ob
      dsimp only at cls dat
      subst cls dat
      have up1 : (t.heap.push (freshSet w)).get? l = some { cls := .type "list", dict := od, data := .seq xs n, slots := osl } := Heap.get?_push_of_some _ there
      have b1 := F.sub_list_set
      have b2 := F.sub_list_frozenset
      have b3 : (Value.type "list" == Value.type "dict") = false := by decide
      have isL1 : (t.heap.push (freshSet w)).IsList l xs := ⟨_, up1, rfl, n, rfl⟩
      unfold Builtin.«set.__init__» noKeywords Builtin.Frozenset.updateFrom
      generalize hit : pyIter = it
      wp_walk
      subst hit
      apply wpAny_pyIter_list isL1
      apply wpAny_bind
      apply wpAny_runValue
      have lt0 : l < t.heap.objs.size := Heap.lt_size there
      have calm3 : A.in1.in1.in1.handled = none := by simp [calm]
      have apart1 : l ≠ (t.heap.push (freshSet w)).objs.size := by
        rw [Heap.size_push]
        exact Nat.ne_of_lt (Nat.lt_succ_of_lt lt0)
      have apart2 : t.heap.objs.size ∉ [(t.heap.push (freshSet w)).objs.size, l] := by
        rw [Heap.size_push, List.mem_cons, List.mem_singleton]
        exact fun z => z.elim (Nat.ne_of_lt (Nat.lt_succ_self _)) (Nat.ne_of_gt lt0)
      have vals : ∀ (i : Nat) (v : Value), xs[i]? = some v → ∃ z tk, ms[i]? = some z ∧ v = .int z tk := by
        intro i v hv
        have lt : i < ms.length := size ▸ (Array.getElem?_eq_some_iff.mp hv).1
        obtain ⟨tk, e⟩ := PyProof.Rows.IntsAre.int_at allI i v (by rw [Array.getElem?_toList, hv])
        have em : ms[i]? = some ms[i] := List.getElem?_eq_getElem lt
        exact ⟨ms[i], tk, em, by rw [e, List.getD_eq_getElem?_getD, em]; rfl⟩
      apply set_update_ints (Walks.list calm3 _ l apart1 xs).toS t.heap.objs.size apart2 ms size few vals (xs.size - 0) 0 _ (by omega) (Nat.zero_le _) ⟨⟨_, Heap.get?_push_size _ rfl, rfl, rfl⟩, isL1.push _⟩
      · exact ⟨0, Nat.le_refl 0, setR_new_at (Heap.get?_push_of_some _ at0)⟩
      · intro v n' mv le' R'
        obtain ⟨g, gn, dr, tk, osx⟩ := v
        obtain rfl : gn = t.gens := mv.gens
        obtain rfl : dr = t.drawn := mv.drawn
        obtain rfl : osx = t.os := mv.os
        change wpAny _ _ _ _ _ _
        apply wpAny_pure
        change wpAny _ _ (ret Value.none) _ _ _
        apply wpAny_pure
        refine ⟨rfl, g, tk, n', rfl, R', size ▸ le', fun b ob eb => ?_⟩
        have lb : b < t.heap.objs.size := Heap.lt_size eb
        apply mv.heap b ob
        · rw [Heap.size_push, List.mem_cons, List.mem_singleton]
          exact fun z => z.elim (Nat.ne_of_lt lb) (Nat.ne_of_lt (Nat.lt_succ_of_lt lb))
        · exact Heap.get?_push_of_some _ (Heap.get?_push_of_some _ eb)
    intro r2 u2 ru2
    match r2, ru2 with
    | .error e, ru2 => exact ru2
    | .ok (.ret z), ⟨e1, g, tk, n, e2, hS, hn, hk⟩ =>
      subst e1 e2
      repeat (any_goals (first | assumption | wp_step))
      exact k g tk n hS hn hk
    | .ok .next, ru2 => exact ru2.elim
    | .ok .brk, ru2 => exact ru2.elim
    | .ok .cont, ru2 => exact ru2.elim
  | .ok .next, ru => exact ru.elim
  | .ok .brk, ru => exact ru.elim
  | .ok .cont, ru => exact ru.elim
end
def rSetL (K : PySem.W.Frag) (w : World) : List V → Hp → VK → Prop := fun vs H Q => ∃ (p : Addr) (ms : List Int), vs = [.ref p] ∧ SqL K H p (ms.map V.int) ∧ ms.length < 1000 ∧ ∀ q n, H q = none → n ≤ ms.length → Q (.ref q) (upd H q (SetO w q (fun j => decide (j ∈ ms)) n))
theorem cr_setL {X : Cx} (calm : X.calm = true) : CallR X (.type "set") (rSetL X.K X.w) := by
  intro pins s σ H vs us Q I r h
  obtain ⟨p, ms, rfl, hL, few, q⟩ := h
  obtain ⟨its, rv, pl, _⟩ := I.list hL
  rw [Vals.ref1 r]
  refine set_of_list ms (I.ok.hd calm) pl.isList (by simpa using intsAre_of rv) (by unfold scanBound; omega) fun g tk n R hn k => ?_
  exact ⟨.ref _, _, I.laid k (Nat.le_refl _) (setO_new R), rfl, q _ n (I.hok.fresh (Nat.le_refl _)) hn⟩
end Kt
set_option Elab.async false
set_option linter.all false
set_option maxRecDepth 100000
set_option maxHeartbeats 4000000
namespace My
open PySem PySem.Spec PyProof.Rows L2 Kt
/-! one step of a reading; a look at the heap -/
local macro_rules | `(tactic| walk_at "hp") => `(tactic| first
  | assumption
  | exact upd_same
  | (with_reducible apply hp_from; assumption; walk_at "sm"))
local macro_rules | `(tactic| walk_at "hpL") => `(tactic| first | assumption | (with_reducible apply hpL; walk_at "hp"))
local macro_rules | `(tactic| walk_at "hpT") => `(tactic| first | assumption | (with_reducible apply hpT; walk_at "hp"))
local macro_rules | `(tactic| walk_at "st1") => `(tactic| with_reducible first
  | refine L_var rfl ?_
  | refine L_cons ?_
  | refine L_nil ?_
  | refine L_c ?_
  | refine L_op ?_
  | refine L_seq ?_
  | refine L_asg ?_
  | (refine G_gn ?_; refine L_gnameE (by dsimp only [L2.wipe, List.foldl, List.set] <;> rfl) ?_)
  | refine L_k ?_
  | refine L_I0 ?_
  | refine L_addI ?_
  | refine L_tTest ?_
  | refine L_ifS ?_
  | refine L_next ?_
  | refine L_call ?_
  | refine L_callS ?_
  | refine L_T ?_
  | refine L_F ?_
  | refine L_nT ?_
  | refine L_nF ?_
  | refine L_cb ?_
  | refine L_ret ?_
  | refine L_eqI ?_
  | refine L_neI ?_
  | refine L_leI ?_
  | refine L_ltI ?_
  | refine L_or ?_
  | refine L_and ?_
  | refine L_not ?_
  | refine L_tB ?_
  | refine L_drop ?_
  | refine L_bm ?_
  | refine L_tup ?_
  | refine L_lst ?_
  | refine L_fld ?_
  | refine L_chain ?_
  | refine L_chain3 ?_
  | refine L_gname ?_
  | refine L_eqS ?_
  | refine L_neS ?_
  | refine L_eqB ?_
  | refine L_leS ?_
  | refine L_isN ?_
  | refine L_notN ?_
  | refine L_inC ?_
  | refine L_notInC ?_
  | refine L_un ?_
  | refine L_rU ?_
  | refine L_andV ?_
  | refine L_orV ?_
  | refine L_notV ?_
  | refine L_par ?_
  | refine L_par3 ?_
  | refine L_vs2 ?_
  | refine L_vs3 ?_
  | refine L_aug rfl ?_
  | refine L_augS ?_
  | refine L_ipI ?_
  | refine L_retN ?_
  | refine L_brk ?_
  | refine L_cont ?_
  | refine L_tru ?_
  | refine L_truB ?_
  | refine L_truI ?_
  | refine L_abs ?_
  | refine L_max2 ?_
  | refine L_min2 ?_
  | refine L_int1 ?_
  | refine L_int1B ?_
  | refine L_for ?_
  | refine L_iRng1 ?_
  | refine L_iRng2 ?_
  | refine L_iList ?_
  | refine L_iTup ?_
  | refine L_yes ?_
  | refine L_iZip ?_
  | refine L_iEnum ?_
  | refine L_iStr ?_
  | refine L_iRng3 ?_
  | refine L_lc ?_
  | refine L_make ?_
  | refine L_nnT ?_
  | refine L_nnF ?_
  | refine L_disp1 ?_
  | refine L_rng2 ?_
  | refine L_bm0 ?_
  | refine L_neB ?_
  | refine L_dnew ?_
  | refine L_sl ?_
  | refine L_noPart ?_
  | refine L_part ?_
  | refine L_ki ?_
  | refine L_methE ?_
  | refine L_meth ?_
  | refine L_makeE ?_
  | refine L_gCons ?_
  | refine L_gNil ?_
  | refine L_sub ?_
  | refine L_sFld ?_
  | refine L_din ?_
  | refine L_dnin ?_
  | refine L_dget ?_
  | refine L_dput ?_
  | refine L_dget2 ?_
  | refine L_methD ?_)
local macro_rules | `(tactic| walk_at "st") => `(tactic| first | walk_at "st1" | walk_at "op" | with_reducible refine L_ifE ?_)
local macro_rules | `(tactic| walk_at "stn") => `(tactic| repeat first | walk_at "st1" | walk_at "op")
local macro_rules | `(tactic| walk_at "sts") => `(tactic| repeat walk_at "st")
/-! the same, and what is shown by itself: sizes, bounds, what stands in the heap -/
local macro_rules | `(tactic| walk_at "bd") => `(tactic| first | exact bd_mod (by decide) | exact bd_64 (by decide) | exact bd_64 (by omega))
local macro_rules | `(tactic| walk_at "sa1") => `(tactic| first
  | walk_at "st"
  | (with_reducible refine G_mod ?_; with_reducible refine L_I (show _ < _ by first | decide | omega) ?_)
  | (with_reducible refine G_mul ?_; with_reducible refine L_mulI (Bd.cmul (n := 64) (m := 64) (by walk_at "bd") (by walk_at "bd")) ?_)
  | (with_reducible refine G_div ?_; with_reducible refine L_I (cdiv_lit (by first | decide | omega)) ?_)
  | (with_reducible refine G_pow ?_; with_reducible first
    | refine L_powE (i := 10) (j := 9) (n := 1000000000) (cpow_lit (by decide)) (by decide) ?_
    | refine L_powE (i := 10) (j := 6) (n := 1000000) (cpow_lit (by decide)) (by decide) ?_
    | refine L_powE (i := 10) (j := 10) (n := 10000000000) (cpow_lit (by decide)) (by decide) ?_
    | refine L_powE (i := 10) (j := 12) (n := 1000000000000) (cpow_lit (by decide)) (by decide) ?_
    | refine L_powE (i := 10) (j := 13) (n := 10000000000000) (cpow_lit (by decide)) (by decide) ?_
    | refine L_powE (i := 10) (j := 20) (n := 100000000000000000000) (cpow_lit (by decide)) (by decide) ?_
    | refine L_powE (i := 10) (j := 29) (n := 100000000000000000000000000000) (cpow_lit (by decide)) (by decide) ?_
    | refine L_powE (i := 10) (j := 30) (n := 1000000000000000000000000000000) (cpow_lit (by decide)) (by decide) ?_
    | refine L_powE (i := 10) (j := 39) (n := 1000000000000000000000000000000000000000) (cpow_lit (by decide)) (by decide) ?_
    | refine L_powE (i := 10) (j := 40) (n := 10000000000000000000000000000000000000000) (cpow_lit (by decide)) (by decide) ?_
    | refine L_powE (i := 10) (j := 60) (n := 1000000000000000000000000000000000000000000000000000000000000) (cpow_lit (by decide)) (by decide) ?_
    | refine L_powE (i := 2) (j := 3) (n := 8) (cpow_lit (by decide)) (by decide) ?_
    | refine L_powE (i := 2) (j := 40) (n := 1099511627776) (cpow_lit (by decide)) (by decide) ?_)
  | (with_reducible refine G_ix ?_; with_reducible first | refine L_ixT (by walk_at "hpT") (by with_unfolding_all rfl) ?_ | refine L_ixL (by walk_at "hpL") (by with_unfolding_all rfl) ?_)
  | (with_reducible refine G_len ?_; with_reducible first | refine L_lenL (by walk_at "hpL") ?_ | refine L_lenT (by walk_at "hpT") ?_)
  | walk_at "fd"
  | (with_reducible refine G_meth ?_; with_reducible refine L_methv (by walk_at "hp") (by with_unfolding_all rfl) ?_)
  | (with_reducible refine G_isi ?_; with_reducible first | refine L_isi (.base (.int _)) (b := true) (by decide +kernel) ?_ | refine L_isi (.base (.int _)) (b := false) (by decide +kernel) ?_)
  | (with_reducible refine G_d ?_; with_reducible first | refine L_dT (by first | assumption | omega) ?_ | refine L_dF (by first | assumption | omega) ?_)
  | (with_reducible refine G_nd ?_; with_reducible first | refine L_ndT (by first | assumption | omega) ?_ | refine L_ndF (by first | assumption | omega) ?_))
local macro_rules | `(tactic| walk_at "sa") => `(tactic| repeat walk_at "sa1")
/-! what stood stands -/
local macro_rules | `(tactic| walk_at "sm") => `(tactic| first
  | assumption
  | exact Same.refl _
  | (with_reducible apply same_upd'; assumption; walk_at "sm")
  | (with_reducible apply same_mut'; assumption; walk_at "sm")
  | (with_reducible apply same_via; assumption; walk_at "sm"))
/-! a new list or tuple: its place p, hp : H p = none, the heap behind it Hn, that all stands, what stands at p -/
local macro_rules | `(tactic| walk_at "nw") => `(tactic| (
  (refine L_new (by first | decide | exact sz_dec (by simp)) ?_)
  (intro p hp)
  (generalize hg : upd _ p _ = Hn)
  (have sn := same_newE hg hp)
  (have en := upd_at hg)
  (clear hg)))
/-! plain things as data -/
local macro_rules | `(tactic| walk_at "dpa") => `(tactic| first
  | exact .nil
  | (refine .cons (by first | exact .int _ | exact .str _ | exact .bl _ | exact .non | assumption) ?_; walk_at "dpa"))
local macro_rules | `(tactic| walk_at "nwp") => `(tactic| (
  (intro p hp)
  (generalize hg : upd _ p _ = Hn)
  (have sn := same_newE hg hp)
  (have en := upd_at hg)
  (clear hg)))

def top (i : Nat) : Stmt := PySem.Challenge.pw_fewspeak_k64_panels_and_counts.main.body.getD i (.Pass ⟨0, 0, 0, 0⟩)
abbrev s__law_cell_at : Stmt := top 17
abbrev s__law_mix : Stmt := top 18
abbrev s__law_numbers : Stmt := top 19
abbrev s__law_marks : Stmt := top 20
abbrev s__law_turn : Stmt := top 21
abbrev s_is_whole : Stmt := top 5
abbrev s_need_number : Stmt := top 9
abbrev s_need_many : Stmt := top 10
abbrev s_Turn___init__ : Stmt := inClass (top 11) 0
abbrev s_Turn_has : Stmt := inClass (top 11) 1
abbrev s_panel : Stmt := top 12
abbrev s_stays : Stmt := top 13
abbrev s_stretches : Stmt := top 14
abbrev s_counts : Stmt := top 15
abbrev s__law_counted : Stmt := top 23
abbrev s__law_stays : Stmt := top 24
abbrev s__law_refused : Stmt := top 22
abbrev s_law : Stmt := top 25
theorem sc__law_cell_at : FnScope ["_law_script", "_law_k"] ["_law_script", "_law_k"] (defScope s__law_cell_at) := ⟨rfl, rfl, rfl, by decide +kernel, rfl, by decide +kernel, by decide +kernel⟩
theorem sc__law_mix : FnScope ["_law_cell", "_law_k", "_law_number"] ["_law_cell", "_law_k"] (defScope s__law_mix) := ⟨rfl, rfl, rfl, by decide +kernel, rfl, by decide +kernel, by decide +kernel⟩
theorem sc__law_numbers : FnScope ["_law_cell", "_law_digits", "_law_bases", "_law_numbers_here", "_law_k", "_law_base"] ["_law_cell", "_law_digits", "_law_bases"] (defScope s__law_numbers) := ⟨rfl, rfl, rfl, by decide +kernel, rfl, by decide +kernel, by decide +kernel⟩
theorem sc__law_marks : FnScope ["_law_start", "_law_many", "_law_marks_here", "_law_k"] ["_law_start", "_law_many"] (defScope s__law_marks) := ⟨rfl, rfl, rfl, by decide +kernel, rfl, by decide +kernel, by decide +kernel⟩
theorem sc__law_turn : FnScope ["_law_cell", "_law_digits", "_law_start", "_law_many", "_law_way"] ["_law_cell", "_law_digits"] (defScope s__law_turn) := ⟨rfl, rfl, rfl, by decide +kernel, rfl, by decide +kernel, by decide +kernel⟩
theorem sc_is_whole : FnScope ["thing", "low", "high"] ["thing", "low", "high"] (defScope s_is_whole) := ⟨rfl, rfl, rfl, by decide +kernel, rfl, by decide +kernel, by decide +kernel⟩
theorem sc_need_number : FnScope ["thing"] ["thing"] (defScope s_need_number) := ⟨rfl, rfl, rfl, by decide +kernel, rfl, by decide +kernel, by decide +kernel⟩
theorem sc_need_many : FnScope ["thing"] ["thing"] (defScope s_need_many) := ⟨rfl, rfl, rfl, by decide +kernel, rfl, by decide +kernel, by decide +kernel⟩
theorem sc_Turn___init__ : FnScope ["self", "start", "many"] ["self", "start", "many"] (defScope s_Turn___init__) := ⟨rfl, rfl, rfl, by decide +kernel, rfl, by decide +kernel, by decide +kernel⟩
theorem sc_Turn_has : FnScope ["self", "number"] ["self", "number"] (defScope s_Turn_has) := ⟨rfl, rfl, rfl, by decide +kernel, rfl, by decide +kernel, by decide +kernel⟩
theorem sc_panel : FnScope ["many", "by", "count", "place"] ["many", "by", "count"] (defScope s_panel) := ⟨rfl, rfl, rfl, by decide +kernel, rfl, by decide +kernel, by decide +kernel⟩
theorem sc_stays : FnScope ["turns", "number", "place", "turn"] ["turns", "number"] (defScope s_stays) := ⟨rfl, rfl, rfl, by decide +kernel, rfl, by decide +kernel, by decide +kernel⟩
theorem sc_stretches : FnScope ["turns", "borders", "turn", "found", "begin", "end", "here"] ["turns"] (defScope s_stretches) := ⟨rfl, rfl, rfl, by decide +kernel, rfl, by decide +kernel, by decide +kernel⟩
theorem sc_counts : FnScope ["turns", "found", "many", "here"] ["turns"] (defScope s_counts) := ⟨rfl, rfl, rfl, by decide +kernel, rfl, by decide +kernel, by decide +kernel⟩
theorem sc__law_counted : FnScope ["_law_turns", "_law_marks_here", "_law_due", "_law_number", "_law_many", "_law_handed", "_law_found", "_law_row"] ["_law_turns", "_law_marks_here"] (defScope s__law_counted) := ⟨rfl, rfl, rfl, by decide +kernel, rfl, by decide +kernel, by decide +kernel⟩
theorem sc__law_stays : FnScope ["_law_turns", "_law_marks_here", "_law_numbers_here", "_law_number", "_law_due", "_law_found", "_law_k"] ["_law_turns", "_law_marks_here", "_law_numbers_here"] (defScope s__law_stays) := ⟨rfl, rfl, rfl, by decide +kernel, rfl, by decide +kernel, by decide +kernel⟩
theorem sc__law_refused : FnScope ["_law_way", "_law_thing", "_law_refused_here"] ["_law_way", "_law_thing"] (defScope s__law_refused) := ⟨rfl, rfl, rfl, by decide +kernel, rfl, by decide +kernel, by decide +kernel⟩
theorem sc_law : FnScope ["_law_script", "_law_digits", "_law_many", "_law_by", "_law_count", "_law_numbers_here", "_law_turns", "_law_due", "_law_marks_here", "_law_rows", "_law_some", "_law_bad", "_law_way", "_law_k", "_law_turn_here", "_law_cell", "_law_start", "_law_size"] ["_law_script"] (defScope s_law) := ⟨rfl, rfl, rfl, by decide +kernel, rfl, by decide +kernel, by decide +kernel⟩
/-- what the top has written -/
structure Txt (K : PySem.W.Frag) (mg : Str → Option Value) : Prop where
  n_len : mg "len" = none
  n_enumerate : mg "enumerate" = none
  n_range : mg "range" = none
  n_bool : mg "bool" = none
  n_int : mg "int" = none
  n_isinstance : mg "isinstance" = none
  g_CIRCLE : ∃ u, mg "CIRCLE" = some u ∧ RelV (.int 1000) u
  m_NoTurn : mg "NoTurn" = some (.ref (cA mg "NoTurn"))
  x_NoTurn : ExcAt K (cA mg "NoTurn")
  m_Turn : mg "Turn" = some (.ref (cA mg "Turn"))
  k_Turn : Cls K (cA mg "Turn")
  na_Turn_start : NoAttr K (cA mg "Turn") "start"
  na_Turn_many : NoAttr K (cA mg "Turn") "many"
  g_MOST_TURNS : ∃ u, mg "MOST_TURNS" = some u ∧ RelV (.int 24) u
  n_set : mg "set" = none
  n_sorted : mg "sorted" = none
  n_zip : mg "zip" = none
  n_list : mg "list" = none
  n_sum : mg "sum" = none
  y_NoTurn : ExcK K (cA mg "NoTurn")
  e_NoTurn_NoTurn : PySem.W.subIn K (.ref (cA mg "NoTurn")) (.ref (cA mg "NoTurn")) = some true
  d__law_cell_at : DefAt K mg "_law_cell_at" s__law_cell_at ["_law_script", "_law_k"]
  d__law_mix : DefAt K mg "_law_mix" s__law_mix ["_law_cell", "_law_k"]
  d__law_numbers : DefAt K mg "_law_numbers" s__law_numbers ["_law_cell", "_law_digits", "_law_bases"]
  d__law_marks : DefAt K mg "_law_marks" s__law_marks ["_law_start", "_law_many"]
  d__law_turn : DefAt K mg "_law_turn" s__law_turn ["_law_cell", "_law_digits"]
  d_is_whole : DefAt K mg "is_whole" s_is_whole ["thing", "low", "high"]
  d_need_number : DefAt K mg "need_number" s_need_number ["thing"]
  d_need_many : DefAt K mg "need_many" s_need_many ["thing"]
  i_Turn : InitAt K (cA mg "Turn") "Turn.__init__" s_Turn___init__ ["self", "start", "many"]
  d_Turn_has : MethAt K (cA mg "Turn") "has" "Turn.has" s_Turn_has ["self", "number"]
  d_panel : DefAt K mg "panel" s_panel ["many", "by", "count"]
  d_stays : DefAt K mg "stays" s_stays ["turns", "number"]
  d_stretches : DefAt K mg "stretches" s_stretches ["turns"]
  d_counts : DefAt K mg "counts" s_counts ["turns"]
  d__law_counted : DefAt K mg "_law_counted" s__law_counted ["_law_turns", "_law_marks_here"]
  d__law_stays : DefAt K mg "_law_stays" s__law_stays ["_law_turns", "_law_marks_here", "_law_numbers_here"]
  d__law_refused : DefAt K mg "_law_refused" s__law_refused ["_law_way", "_law_thing"]
  d_law : DefAt K mg "law" s_law ["_law_script"]
section
variable {P : Program} {w : World} {K : PySem.W.Frag} {mg : Str → Option Value} {base : Heap}
theorem fd_Turn_start (T : Txt K mg) {H : Hp} {a dx : Addr} {fs : List (Str × V)} {v : V} {Q : V → Prop} (h : H a = some (.ins (cA mg "Turn") dx fs)) (l : fs.lookup ("start" : Str) = some v) (q : Q v) : ∃ a1 C dx fs v, V.ref a = V.ref a1 ∧ H a1 = some (.ins C dx fs) ∧ Cls K C ∧ NoAttr K C "start" ∧ fs.lookup ("start" : Str) = some v ∧ Q v := L_fldv h T.k_Turn T.na_Turn_start l q
theorem fg_Turn_start {H : Hp} {a : Addr} {Q : V → Prop} (h : ∃ a1 C dx fs v, V.ref a = V.ref a1 ∧ H a1 = some (.ins C dx fs) ∧ Cls K C ∧ NoAttr K C "start" ∧ fs.lookup ("start" : Str) = some v ∧ Q v) : ∃ a1 C dx fs v, V.ref a = V.ref a1 ∧ H a1 = some (.ins C dx fs) ∧ Cls K C ∧ NoAttr K C "start" ∧ fs.lookup ("start" : Str) = some v ∧ Q v := h
local macro_rules | `(tactic| walk_at "fd") => `(tactic| (with_reducible refine fg_Turn_start ?_; with_reducible refine fd_Turn_start (by assumption) (by walk_at "hp") (by with_unfolding_all rfl) ?_))
theorem fd_Turn_many (T : Txt K mg) {H : Hp} {a dx : Addr} {fs : List (Str × V)} {v : V} {Q : V → Prop} (h : H a = some (.ins (cA mg "Turn") dx fs)) (l : fs.lookup ("many" : Str) = some v) (q : Q v) : ∃ a1 C dx fs v, V.ref a = V.ref a1 ∧ H a1 = some (.ins C dx fs) ∧ Cls K C ∧ NoAttr K C "many" ∧ fs.lookup ("many" : Str) = some v ∧ Q v := L_fldv h T.k_Turn T.na_Turn_many l q
theorem fg_Turn_many {H : Hp} {a : Addr} {Q : V → Prop} (h : ∃ a1 C dx fs v, V.ref a = V.ref a1 ∧ H a1 = some (.ins C dx fs) ∧ Cls K C ∧ NoAttr K C "many" ∧ fs.lookup ("many" : Str) = some v ∧ Q v) : ∃ a1 C dx fs v, V.ref a = V.ref a1 ∧ H a1 = some (.ins C dx fs) ∧ Cls K C ∧ NoAttr K C "many" ∧ fs.lookup ("many" : Str) = some v ∧ Q v := h
local macro_rules | `(tactic| walk_at "fd") => `(tactic| (with_reducible refine fg_Turn_many ?_; with_reducible refine fd_Turn_many (by assumption) (by walk_at "hp") (by with_unfolding_all rfl) ?_))
/-! ### turns: marks and counts -/
def sumR (F : Nat → Int) : Nat → Int
  | 0 => 0
  | n + 1 => sumR F n + F n
theorem sumR_eq (F : Nat → Int) : ∀ n, ((List.range n).map F).sum = sumR F n
  | 0 => rfl
  | n + 1 => by
    rw [List.range_succ, List.map_append, List.sum_append, sumR_eq F n]
    simp [sumR]
theorem sumR_congr {F G : Nat → Int} : ∀ {n : Nat}, (∀ i, i < n → F i = G i) → sumR F n = sumR G n
  | 0, _ => rfl
  | n + 1, h => by
    show sumR F n + F n = sumR G n + G n
    rw [sumR_congr (n := n) fun i hi => h i (by omega), h n (by omega)]
/-- going round -/
theorem rot (G : Int → Int) (s : Nat) (hs : s < 1000) : sumR (fun j => G (((j : Int) - s) % 1000)) 1000 = sumR (fun t => G t) 1000 := by
  have A : ∀ n, n ≤ s → sumR (fun j => G (((j : Int) - s) % 1000)) n = sumR (fun t => G t) (1000 - s + n) - sumR (fun t => G t) (1000 - s) := by
    intro n
    induction n with
    | zero => intro _; simp [sumR]
    | succ n ih =>
      intro hn
      have e : ((n : Int) - s) % 1000 = ((1000 - s + n : Nat) : Int) := by omega
      show sumR _ n + G (((n : Int) - s) % 1000) = (sumR (fun t => G t) (1000 - s + n) + G ((1000 - s + n : Nat) : Int)) - _
      rw [ih (by omega), e]
      omega
  have B : ∀ n, s + n ≤ 1000 → sumR (fun j => G (((j : Int) - s) % 1000)) (s + n) = sumR (fun t => G t) 1000 - sumR (fun t => G t) (1000 - s) + sumR (fun t => G t) n := by
    intro n
    induction n with
    | zero =>
      intro _
      rw [Nat.add_zero, A s (Nat.le_refl s), show 1000 - s + s = 1000 by omega]
      simp [sumR]
    | succ n ih =>
      intro hn
      have e : (((s + n : Nat) : Int) - s) % 1000 = (n : Int) := by omega
      show sumR _ (s + n) + G ((((s + n : Nat) : Int) - s) % 1000) = _ - _ + (sumR (fun t => G t) n + G (n : Int))
      rw [ih (by omega), e]
      omega
  have h := B (1000 - s) (by omega)
  rw [show s + (1000 - s) = 1000 by omega] at h
  omega
/-- 1 for a number that is in the turn -/
def mk (s m j : Int) : Int := if (j - s) % 1000 < m then 1 else 0
def ov (s m s' m' : Int) : Int := max 0 (min m ((s' - s) % 1000 + m') - (s' - s) % 1000) + max 0 (min m ((s' - s) % 1000 + m' - 1000))
theorem cnt (m m' b : Int) (hm : 0 ≤ m ∧ m ≤ 1000) (hm' : 0 ≤ m' ∧ m' ≤ 1000) (hb : 0 ≤ b ∧ b < 1000) : ∀ n : Nat, n ≤ 1000 →
    sumR (fun t => (if (t : Int) < m then 1 else 0) * (if ((t : Int) - b) % 1000 < m' then 1 else 0)) n = max 0 (min (min (n : Int) m) (b + m') - b) + max 0 (min (min (n : Int) m) (b + m' - 1000)) := by
  intro n
  induction n with
  | zero => intro _; simp [sumR]; omega
  | succ n ih =>
    intro hn
    show sumR _ n + _ = _
    rw [ih (by omega)]
    by_cases h1 : (n : Int) < m
    · by_cases h2 : ((n : Int) - b) % 1000 < m'
      · simp only [if_pos h1, if_pos h2]
        omega
      · simp only [if_pos h1, if_neg h2]
        omega
    · simp only [if_neg h1]
      omega
theorem ov_eq {s m s' m' : Int} (hs : 0 ≤ s ∧ s < 1000) (hm : 0 ≤ m ∧ m ≤ 1000) (hs' : 0 ≤ s' ∧ s' < 1000) (hm' : 0 ≤ m' ∧ m' ≤ 1000) :
    ((List.range 1000).map fun j : Nat => mk s m (j : Int) * mk s' m' (j : Int)).sum = ov s m s' m' := by
  rw [sumR_eq]
  have hb := And.intro (Int.emod_nonneg (s' - s) (show (1000 : Int) ≠ 0 by decide)) (Int.emod_lt_of_pos (s' - s) (show (0 : Int) < 1000 by decide))
  have e : sumR (fun j => mk s m (j : Int) * mk s' m' (j : Int)) 1000 = sumR (fun j => (fun t : Int => (if t < m then 1 else 0) * (if (t - (s' - s) % 1000) % 1000 < m' then 1 else 0)) (((j : Int) - s.toNat) % 1000)) 1000 := by
    refine sumR_congr fun j _ => ?_
    have e1 : ((j : Int) - s.toNat) % 1000 = ((j : Int) - s) % 1000 := by omega
    have e2 : (((j : Int) - s) % 1000 - (s' - s) % 1000) % 1000 = ((j : Int) - s') % 1000 := by omega
    show mk s m j * mk s' m' j = (if ((j : Int) - s.toNat) % 1000 < m then 1 else 0) * (if (((j : Int) - s.toNat) % 1000 - (s' - s) % 1000) % 1000 < m' then 1 else 0)
    rw [e1, e2]
    rfl
  rw [e, rot (fun t : Int => (if t < m then 1 else 0) * (if (t - (s' - s) % 1000) % 1000 < m' then 1 else 0)) s.toNat (by omega), cnt m m' _ hm hm' hb 1000 (Nat.le_refl _)]
  unfold ov
  omega
theorem ov_comm {s m s' m' : Int} (hs : 0 ≤ s ∧ s < 1000) (hm : 0 ≤ m ∧ m ≤ 1000) (hs' : 0 ≤ s' ∧ s' < 1000) (hm' : 0 ≤ m' ∧ m' ≤ 1000) : ov s' m' s m = ov s m s' m' := by
  rw [← ov_eq hs hm hs' hm', ← ov_eq hs' hm' hs hm]
  congr 1
  refine List.map_congr_left fun j _ => Int.mul_comm _ _
theorem ov_self {s m : Int} (hm : 0 ≤ m ∧ m ≤ 1000) : ov s m s m = m := by
  unfold ov
  rw [Int.sub_self]
  omega
theorem mk_set {s : Int} {i : Nat} (hs : 0 ≤ s ∧ s < 1000) (hi : i < 1000) : (((List.range 1000).map fun j : Nat => mk s (i : Int) (j : Int)).map V.int).set ((s + i) % 1000).toNat (.int 1) = ((List.range 1000).map fun j : Nat => mk s ((i + 1 : Nat) : Int) (j : Int)).map V.int := by
  apply List.ext_getElem
  · simp
  · intro j h1 h2
    simp only [List.length_set, List.length_map, List.length_range] at h1
    rw [List.getElem_set]
    simp only [List.getElem_map, List.getElem_range]
    unfold mk
    by_cases h : ((s + i) % 1000).toNat = j
    · rw [if_pos h, if_pos (by omega)]
    · rw [if_neg h]
      by_cases h3 : ((j : Int) - s) % 1000 < (i : Int)
      · rw [if_pos h3, if_pos (by omega)]
      · rw [if_neg h3, if_neg (by omega)]
theorem mk_zero (s : Int) : (List.replicate 1000 [V.int 0]).flatten = ((List.range 1000).map fun j : Nat => mk s ((0 : Nat) : Int) (j : Int)).map V.int := by
  rw [List.map_map]
  have e : (V.int ∘ fun j : Nat => mk s ((0 : Nat) : Int) (j : Int)) = fun _ => V.int 0 := by
    funext j
    show V.int (mk s 0 j) = _
    unfold mk
    rw [if_neg (by omega)]
  rw [e, List.map_const', List.length_range]
  have : ∀ n, (List.replicate n [V.int 0]).flatten = List.replicate n (V.int 0) := fun n => by
    induction n with
    | zero => rfl
    | succ n ih => rw [List.replicate_succ, List.flatten_cons, ih]; rfl
  exact this 1000
theorem common_eq {s m s' m' : Int} (hs : 0 ≤ s ∧ s < 1000) (hm : 0 ≤ m ∧ m ≤ 1000) (hs' : 0 ≤ s' ∧ s' < 1000) (hm' : 0 ≤ m' ∧ m' ≤ 1000) : ((List.range m.toNat).map fun k : Nat => mk s' m' ((s + k) % 1000)).sum = ov s m s' m' := by
  rw [sumR_eq]
  have hb := And.intro (Int.emod_nonneg (s' - s) (show (1000 : Int) ≠ 0 by decide)) (Int.emod_lt_of_pos (s' - s) (show (0 : Int) < 1000 by decide))
  have e : sumR (fun k => mk s' m' ((s + k) % 1000)) m.toNat = sumR (fun t => (if (t : Int) < m then 1 else 0) * (if ((t : Int) - (s' - s) % 1000) % 1000 < m' then 1 else 0)) m.toNat := by
    refine sumR_congr fun i hi => ?_
    rw [if_pos (show (i : Int) < m by omega), Int.one_mul]
    unfold mk
    rw [show ((s + (i : Int)) % 1000 - s') % 1000 = ((i : Int) - (s' - s) % 1000) % 1000 by omega]
  rw [e, cnt m m' _ hm hm' hb _ (by omega)]
  unfold ov
  omega
/-! the law's mixing of a cell -/
def mix (c k : Int) : Int :=
  let a := (c % 2147483629 + 7919 * k + 101) * 48271 % 2147483647
  let b := a * a % 2147483629
  b * (b + 7) % 2147483587
theorem mix_b (c k : Int) : 0 ≤ mix c k ∧ mix c k < 2147483587 := by
  unfold mix
  exact ⟨Int.emod_nonneg _ (by decide), Int.emod_lt_of_pos _ (by decide)⟩
def sp__law_cell_at (K : PySem.W.Frag) (mg : Str → Option Value) : Sp := fun vs H Q _ => match vs with | [.ref a, .int k] => ∃ ns : List Int, SqL K H a (ns.map V.int) ∧ 0 ≤ k ∧ Q (.int (cellAt ns k 0)) H | _ => False
theorem q__law_cell_at {H : Hp} {Q : VK} {E : XK} {a : Addr} {k : Int} (q : ∃ ns : List Int, SqL K H a (ns.map V.int) ∧ 0 ≤ k ∧ Q (.int (cellAt ns k 0)) H) : sp__law_cell_at K mg [.ref a, .int k] H Q E := q
local macro_rules | `(tactic| walk_at "op") => `(tactic| with_reducible refine q__law_cell_at ?_)
theorem c__law_cell_at (T : Txt K mg) : Cal P w K mg base 1 "_law_cell_at" (sp__law_cell_at K mg) := by
  refine T.d__law_cell_at.cal (k := 0) sc__law_cell_at (by intro vs H Q E h; unfold sp__law_cell_at at h; split at h <;> first | rfl | exact h.elim) fun f cdv A outer s H vs Q E hr h => ?_
  refine ⟨_, (pss_cons (ps_if (pt_cmpR op_ltA (pv 1) (pe_callB call_lenA (by rfl) T.n_len (by decide +kernel) (pa_cons (pv 0) pa_nil)) (nomark _))
    (pss_one (ps_ret (pe_ix ix_seq (pv 0) (pv 1) (fun _ _ => rfl))))
    pss_nil)
    (pss_one (ps_ret pe_int))), ?_⟩
  try simp only [cxOf_K, cxOf_K', cxOf_mg, cxOf_mg']
  unfold sp__law_cell_at at h
  split at h
  case h_2 => exact h.elim
  rename_i a k
  rw [show L2.start ["_law_script", "_law_k"] [V.ref a, V.int k] = [some (V.ref a), some (V.int k)] from rfl]
  obtain ⟨ns, hS, hk, q⟩ := h
  walk_at "sa"
  rw [List.length_map]
  refine L_d (fun c => ?_) (fun c => ?_)
  · walk_at "sts"
    exact L_ixL hS (cellAt_in hk c) q
  · walk_at "sts"
    rw [cellAt_out c] at q
    exact q
def sp__law_mix (K : PySem.W.Frag) (mg : Str → Option Value) : Sp := fun vs H Q _ => match vs with | [.int c, .int k] => 0 ≤ k ∧ k < 1000000 ∧ Q (.int (mix c k)) H | _ => False
theorem q__law_mix {H : Hp} {Q : VK} {E : XK} {c : Int} {k : Int} (q : 0 ≤ k ∧ k < 1000000 ∧ Q (.int (mix c k)) H) : sp__law_mix K mg [.int c, .int k] H Q E := q
local macro_rules | `(tactic| walk_at "op") => `(tactic| with_reducible refine q__law_mix ?_)
theorem c__law_mix (T : Txt K mg) : Cal P w K mg base 1 "_law_mix" (sp__law_mix K mg) := by
  refine T.d__law_mix.cal (k := 0) sc__law_mix (by intro vs H Q E h; unfold sp__law_mix at h; split at h <;> first | rfl | exact h.elim) fun f cdv A outer s H vs Q E hr h => ?_
  refine ⟨_, (pss_cons (ps_set (i := 2) sc__law_mix.nd rfl (.inl rfl) (pe_op op_mod (pe_op op_mulA (pe_op op_addA (pe_op op_addA (pe_op op_mod (pv 0) pe_int) (pe_op op_mulA pe_int (pv 1))) pe_int) pe_int) pe_int))
    (pss_cons (ps_set (i := 2) sc__law_mix.nd rfl (.inl rfl) (pe_op op_mod (pe_op op_mulA (pv 2) (pv 2)) pe_int))
    (pss_one (ps_ret (pe_op op_mod (pe_op op_mulA (pv 2) (pe_op op_addA (pv 2) pe_int)) pe_int))))), ?_⟩
  try simp only [cxOf_K, cxOf_K', cxOf_mg, cxOf_mg']
  unfold sp__law_mix at h
  split at h
  case h_2 => exact h.elim
  rename_i c k
  rw [show L2.start ["_law_cell", "_law_k", "_law_number"] [V.int c, V.int k] = [some (V.int c), some (V.int k), none] from rfl]
  obtain ⟨hk, hk2, q⟩ := h
  walk_at "sa"
  exact q
/-- what the law takes of a cell, base by base -/
def nums (d : Bool) : Int → Nat → List Int → List Int
  | _, _, [] => []
  | c, k, b :: r => if d = true then (c % b) :: nums d (c / b) (k + 1) r else (mix c (3 + (k : Int)) % b) :: nums d c (k + 1) r
theorem nums_len (d : Bool) : ∀ (bs : List Int) (c : Int) (k : Nat), (nums d c k bs).length = bs.length
  | [], _, _ => rfl
  | b :: r, c, k => by
    unfold nums
    split
    · rw [List.length_cons, List.length_cons, nums_len d r]
    · rw [List.length_cons, List.length_cons, nums_len d r]
theorem nums_b (d : Bool) : ∀ (bs : List Int) (c : Int) (k : Nat), (∀ b ∈ bs, 0 < b) → ∀ (i : Nat) (z b : Int), (nums d c k bs)[i]? = some z → bs[i]? = some b → 0 ≤ z ∧ z < b
  | [], _, _, _, i, z, b, h, _ => by simp [nums] at h
  | b :: r, c, k, hb, i, z, b', h, h' => by
    have h0 := hb b (List.mem_cons_self ..)
    have hr : ∀ x ∈ r, 0 < x := fun x hx => hb x (List.mem_cons_of_mem _ hx)
    unfold nums at h
    split at h
    · cases i with
      | zero =>
        simp at h h'
        subst h; subst h'
        exact ⟨Int.emod_nonneg _ (by omega), Int.emod_lt_of_pos _ h0⟩
      | succ i => exact nums_b d r _ _ hr i z b' (by simpa using h) (by simpa using h')
    · cases i with
      | zero =>
        simp at h h'
        subst h; subst h'
        exact ⟨Int.emod_nonneg _ (by omega), Int.emod_lt_of_pos _ h0⟩
      | succ i => exact nums_b d r _ _ hr i z b' (by simpa using h) (by simpa using h')
def sp__law_numbers (K : PySem.W.Frag) (mg : Str → Option Value) : Sp := fun vs H Q _ => match vs with | [.int c, .bl d, .ref l] => ∃ bs : List Int, H l = some (.lst (bs.map V.int)) ∧ bs.length ≤ 1000 ∧ (∀ b ∈ bs, 0 < b ∧ b < 18446744073709551616) ∧ NewL H ((nums d c 0 bs).map V.int) Q | _ => False
theorem q__law_numbers {H : Hp} {Q : VK} {E : XK} {c : Int} {d : Bool} {l : Addr} (q : ∃ bs : List Int, H l = some (.lst (bs.map V.int)) ∧ bs.length ≤ 1000 ∧ (∀ b ∈ bs, 0 < b ∧ b < 18446744073709551616) ∧ NewL H ((nums d c 0 bs).map V.int) Q) : sp__law_numbers K mg [.int c, .bl d, .ref l] H Q E := q
local macro_rules | `(tactic| walk_at "op") => `(tactic| with_reducible refine q__law_numbers ?_)
theorem c__law_numbers (T : Txt K mg) : Cal P w K mg base 2 "_law_numbers" (sp__law_numbers K mg) := by
  refine T.d__law_numbers.cal (k := 1) sc__law_numbers (by intro vs H Q E h; unfold sp__law_numbers at h; split at h <;> first | rfl | exact h.elim) fun f cdv A outer s H vs Q E hr h => ?_
  refine ⟨_, (pss_cons (ps_set (i := 3) sc__law_numbers.nd rfl (.inl rfl) (pe_lst pa_nil))
    (pss_cons (ps_for PassesOwn.never rfl (pi_enum (by rfl) T.n_enumerate (pa_cons (pv 2) pa_nil)) (pg_tup rfl (pgs_cons (pg_name (i := 4) sc__law_numbers.nd rfl (.inl rfl)) (pgs_cons (pg_name (i := 5) sc__law_numbers.nd rfl (.inl rfl)) pgs_nil)))
    (pss_one (ps_if (pt_tru (pv 1) (by intro _; rfl))
    (pss_cons (ps_expr (pe_bm PySem.F.plainAttrs_list PySem.F.slot_list_append PySem.F.type_list_append mt_append (pv 3) (pa_cons (pe_op op_mod (pv 0) (pv 5)) pa_nil)))
    (pss_one (ps_set (i := 0) sc__law_numbers.nd rfl (.inl rfl) (pe_op op_fdivW (pv 0) (pv 5)))))
    (pss_one (ps_expr (pe_bm PySem.F.plainAttrs_list PySem.F.slot_list_append PySem.F.type_list_append mt_append (pv 3) (pa_cons (pe_op op_mod (pe_c (c__law_mix T) hr (by decide) (by rfl) (pa_cons (pv 0) (pa_cons (pe_op op_addA pe_int (pv 4)) pa_nil))) (pv 5)) pa_nil)))))))
    (pss_one (ps_ret (pv 3))))), ?_⟩
  try simp only [cxOf_K, cxOf_K', cxOf_mg, cxOf_mg']
  unfold sp__law_numbers at h
  split at h
  case h_2 => exact h.elim
  rename_i c d l
  rw [show L2.start ["_law_cell", "_law_digits", "_law_bases", "_law_numbers_here", "_law_k", "_law_base"] [V.int c, V.bl d, V.ref l] = [some (V.int c), some (V.bl d), some (V.ref l), none, none, none] from rfl]
  obtain ⟨bs, hl, hb, hp, q⟩ := h
  walk_at "sa"
  refine L_new (by decide) fun p hpn => ?_
  walk_at "sa"
  refine L_re (.of (hp_new hpn hl)) ?_
  refine f_it walk_enum (fun i σ' H' => ∃ (c' : Int) (done : List Int) (v1 v2 : Option V), σ' = [some (.int c'), some (.bl d), some (.ref l), some (.ref p), v1, v2] ∧ Same H H' ∧ H' p = some (.lst (done.map V.int)) ∧ done.length = i ∧ nums d c 0 bs = done ++ nums d c' i (bs.drop i)) ⟨c, [], none, none, rfl, same_new hpn, upd_same, rfl, rfl⟩ (fun i σ' H' _ ⟨_, _, _, _, _, s, _⟩ => .of (s _ _ hl)) ?_ ?_
  · rintro i x σ' H' H'' hi ⟨c', done, v1, v2, rfl, s, hd, hlen, e⟩ ⟨T, k0, b0, rfl, hT, rfl, hk, hbv⟩
    cases hk
    rw [List.length_map] at hi
    replace hbv : (bs.map V.int)[i]? = some b0 := hbv
    rw [List.getElem?_map, List.getElem?_eq_getElem hi] at hbv
    cases hbv
    have hb0 := hp bs[i] (List.getElem_mem hi)
    have e2 : bs.drop i = bs[i] :: bs.drop (i + 1) := List.drop_eq_getElem_cons hi
    refine L_gTup (.of upd_same) rfl ?_
    have s2 := same_upd (o := HO.tup [V.int (i : Int), V.int bs[i]]) s hT
    have hd2 := hp_new (o := HO.tup [V.int (i : Int), V.int bs[i]]) hT hd
    walk_at "sts"
    refine L_b (fun hdt => ?_) (fun hdt => ?_)
    · walk_at "sts"
      refine L_tyL (.of hd2) ?_
      walk_at "sts"
      refine L_I hb0.1 ?_
      walk_at "sts"
      refine L_app hd2 (by rw [List.length_map]; exact sz_lt (by omega)) ?_
      walk_at "sts"
      refine L_I ((bd_64 (by omega)).cdiv hb0.1) ?_
      walk_at "sts"
      refine ⟨c' / bs[i], done ++ [c' % bs[i]], _, _, rfl, fun b o hbo => ?_, by rw [List.map_append]; exact upd_same, by simp [hlen], ?_⟩
      · rw [upd_ne (ne_of_none hbo hpn)]; exact s2 _ _ hbo
      · rw [e, e2, nums, if_pos hdt, List.append_assoc]; rfl
    · walk_at "sts"
      refine L_tyL (.of hd2) ?_
      walk_at "sts"
      refine ⟨by omega, by omega, ?_⟩
      walk_at "sts"
      refine L_I hb0.1 ?_
      walk_at "sts"
      refine L_app hd2 (by rw [List.length_map]; exact sz_lt (by omega)) ?_
      walk_at "sts"
      refine ⟨c', done ++ [mix c' (3 + (i : Int)) % bs[i]], _, _, rfl, fun b o hbo => ?_, by rw [List.map_append]; exact upd_same, by simp [hlen], ?_⟩
      · rw [upd_ne (ne_of_none hbo hpn)]; exact s2 _ _ hbo
      · rw [e, e2, nums, if_neg (by simp [hdt]), List.append_assoc]; rfl
  · rintro σ' H' ⟨c', done, v1, v2, rfl, s, hd, hlen, e⟩
    walk_at "sts"
    rw [List.length_map, List.drop_length, nums, List.append_nil] at e
    rw [← e] at hd
    exact q p H' hpn s hd
def sp__law_marks (K : PySem.W.Frag) (mg : Str → Option Value) : Sp := fun vs H Q _ => match vs with | [.int s, .int m] => 0 ≤ s ∧ s < 1000 ∧ 0 ≤ m ∧ m ≤ 1000 ∧ NewL H (((List.range 1000).map fun j : Nat => mk s m (j : Int)).map V.int) Q | _ => False
theorem q__law_marks {H : Hp} {Q : VK} {E : XK} {s : Int} {m : Int} (q : 0 ≤ s ∧ s < 1000 ∧ 0 ≤ m ∧ m ≤ 1000 ∧ NewL H (((List.range 1000).map fun j : Nat => mk s m (j : Int)).map V.int) Q) : sp__law_marks K mg [.int s, .int m] H Q E := q
local macro_rules | `(tactic| walk_at "op") => `(tactic| with_reducible refine q__law_marks ?_)
theorem c__law_marks (T : Txt K mg) : Cal P w K mg base 1 "_law_marks" (sp__law_marks K mg) := by
  refine T.d__law_marks.cal (k := 0) sc__law_marks (by intro vs H Q E h; unfold sp__law_marks at h; split at h <;> first | rfl | exact h.elim) fun f cdv A outer s H vs Q E hr h => ?_
  refine ⟨_, (pss_cons (ps_set (i := 2) sc__law_marks.nd rfl (.inl rfl) (pe_op op_mulA (pe_lst (pa_cons pe_int pa_nil)) pe_int))
    (pss_cons (ps_for PassesOwn.never rfl (pi_range1 (by rfl) T.n_range (pa_cons (pv 1) pa_nil)) (pg_name (i := 3) sc__law_marks.nd rfl (.inl rfl))
    (pss_one (ps_asg pe_int (pg_sub (pv 2) (pe_op op_mod (pe_op op_addA (pv 0) (pv 3)) pe_int) set_list))))
    (pss_one (ps_ret (pv 2))))), ?_⟩
  try simp only [cxOf_K, cxOf_K', cxOf_mg, cxOf_mg']
  unfold sp__law_marks at h
  split at h
  case h_2 => exact h.elim
  rename_i s m
  rw [show L2.start ["_law_start", "_law_many", "_law_marks_here", "_law_k"] [V.int s, V.int m] = [some (V.int s), some (V.int m), none, none] from rfl]
  obtain ⟨hs, hs2, hm, hm2, q⟩ := h
  walk_at "sa"
  refine L_new (by decide) fun p0 hp0 => ?_
  walk_at "sa"
  refine L_repL upd_same (by decide) (by decide) (sz_dec (by decide)) fun p hp => ?_
  have s1 := same_upd (o := HO.lst (List.replicate (1000 : Int).toNat [V.int 0]).flatten) (same_new (o := HO.lst [V.int 0]) hp0) hp
  walk_at "sa"
  refine L_r1 (by omega) (by omega) ?_
  refine f_range (fun i σ' H' => ∃ v1 : Option V, σ' = [some (.int s), some (.int m), some (.ref p), v1] ∧ Same H H' ∧ H' p = some (.lst (((List.range 1000).map fun j : Nat => mk s (i : Int) (j : Int)).map V.int))) ⟨none, rfl, s1, ?_⟩ ?_ ?_
  · rw [upd_same]
    exact congrArg (fun x => some (HO.lst x)) (mk_zero s)
  · rintro i σ' H' hi ⟨v1, rfl, s2, hp2⟩
    walk_at "sa"
    refine L_setL hp2 (ixN_of (by omega) (by rw [List.length_map, List.length_map, List.length_range]; omega)) ?_
    refine ⟨_, rfl, fun b o hb => ?_, ?_⟩
    · rw [upd_ne (fun e => ?_)]
      · exact s2 _ _ hb
      · rw [e] at hb
        rw [(same_new (o := HO.lst [V.int 0]) hp0).free hp] at hb
        cases hb
    · rw [upd_same]
      have e := mk_set (s := s) (i := i) ⟨hs, hs2⟩ (by omega)
      have e0 : (0 : Int) + (i : Int) = (i : Int) := Int.zero_add _
      rw [e0]
      exact congrArg (fun x => some (HO.lst x)) e
  · rintro σ' H' ⟨v1, rfl, s2, hp2⟩
    walk_at "sa"
    refine q p H' ((same_new (o := HO.lst [V.int 0]) hp0).free hp) s2 ?_
    rw [hp2, show ((m.toNat : Nat) : Int) = m by omega]
theorem nums3 {d : Bool} {c : Int} : ∃ s m w, nums d c 0 [1000, 1001, 8] = [s, m, w] ∧ (0 ≤ s ∧ s < 1000) ∧ (0 ≤ m ∧ m < 1001) ∧ (0 ≤ w ∧ w < 8) := by
  have hl := nums_len d [1000, 1001, 8] c 0
  have hb := nums_b d [1000, 1001, 8] c 0 (by decide)
  generalize nums d c 0 [1000, 1001, 8] = l at *
  match l, hl with
  | [s, m, w], _ => exact ⟨s, m, w, rfl, hb 0 s 1000 rfl rfl, hb 1 m 1001 rfl rfl, hb 2 w 8 rfl rfl⟩
def sp__law_turn (K : PySem.W.Frag) (mg : Str → Option Value) : Sp := fun vs H Q _ => match vs with | [.int c, .bl d] => ∀ s m, 0 ≤ s → s < 1000 → 0 ≤ m → m ≤ 1000 → NewT H [.int s, .int m] Q | _ => False
theorem q__law_turn {H : Hp} {Q : VK} {E : XK} {c : Int} {d : Bool} (q : ∀ s m, 0 ≤ s → s < 1000 → 0 ≤ m → m ≤ 1000 → NewT H [.int s, .int m] Q) : sp__law_turn K mg [.int c, .bl d] H Q E := q
local macro_rules | `(tactic| walk_at "op") => `(tactic| with_reducible refine q__law_turn ?_)
theorem c__law_turn (T : Txt K mg) : Cal P w K mg base 3 "_law_turn" (sp__law_turn K mg) := by
  refine T.d__law_turn.cal (k := 2) sc__law_turn (by intro vs H Q E h; unfold sp__law_turn at h; split at h <;> first | rfl | exact h.elim) fun f cdv A outer s H vs Q E hr h => ?_
  refine ⟨_, (pss_cons (ps_asg (pe_c (c__law_numbers T) hr (by decide) (by rfl) (pa_cons (pv 0) (pa_cons (pv 1) (pa_cons (pe_lst (pa_cons pe_int (pa_cons pe_int (pa_cons pe_int pa_nil)))) pa_nil)))) (pg_lst rfl (pgs_cons (pg_name (i := 2) sc__law_turn.nd rfl (.inl rfl)) (pgs_cons (pg_name (i := 3) sc__law_turn.nd rfl (.inl rfl)) (pgs_cons (pg_name (i := 4) sc__law_turn.nd rfl (.inl rfl)) pgs_nil)))))
    (Evl.pss_cut (ps_if (pt_cmpR (op_eqA hr) (pv 4) pe_int (nomark _))
    (pss_one (ps_set (i := 3) sc__law_turn.nd rfl (.inl rfl) (pe_ix ix_seq (pe_lst (pa_cons pe_int (pa_cons pe_int (pa_cons pe_int (pa_cons pe_int (pa_cons pe_int (pa_cons pe_int (pa_cons pe_int (pa_cons pe_int pa_nil))))))))) (pe_op op_mod (pv 3) pe_int) (fun _ _ => rfl))))
    pss_nil)
    (pss_cons (ps_if (pt_cmpR (op_eqA hr) (pv 4) pe_int (nomark _))
    (pss_one (ps_set (i := 3) sc__law_turn.nd rfl (.inl rfl) (pe_op op_mod (pv 3) pe_int)))
    pss_nil)
    (pss_one (ps_ret (pe_tup (pa_cons (pv 2) (pa_cons (pv 3) pa_nil)))))))), ?_⟩
  try simp only [cxOf_K, cxOf_K', cxOf_mg, cxOf_mg']
  unfold sp__law_turn at h
  split at h
  case h_2 => exact h.elim
  rename_i c d
  rw [show L2.start ["_law_cell", "_law_digits", "_law_start", "_law_many", "_law_way"] [V.int c, V.bl d] = [some (V.int c), some (V.bl d), none, none, none] from rfl]
  walk_at "sa"
  refine L_new (by decide) fun p0 hp0 => ?_
  walk_at "sa"
  refine ⟨[1000, 1001, 8], upd_same, by decide, by decide, fun p H1 hp s1 e1 => ?_⟩
  obtain ⟨s, m, way, e, hs, hm, hw⟩ := nums3 (d := d) (c := c)
  rw [e] at e1
  replace e1 : H1 p = some (HO.lst [V.int s, V.int m, V.int way]) := e1
  refine L_gLst (.of e1) rfl ?_
  walk_at "sts"
  refine L_cut (Mid := fun σ' H' => ∃ m' : Int, 0 ≤ m' ∧ m' ≤ 1000 ∧ σ' = [some (.int c), some (.bl d), some (.int s), some (.int m'), some (.int way)] ∧ Same H H') ?_ ?_
  · walk_at "sts"
    have s2 := (same_new (o := HO.lst [V.int 1000, V.int 1001, V.int 8]) hp0).trans s1
    refine L_d (fun c => ?_) (fun c => ?_)
    · walk_at "sts"
      refine L_new (by decide) fun p2 hp2 => ?_
      walk_at "sa"
      have z0 := Int.emod_nonneg m (show (8 : Int) ≠ 0 by decide)
      have z1 := Int.emod_lt_of_pos m (show (0 : Int) < 8 by decide)
      have z2 : ∀ k : Nat, k < 8 → 0 ≤ [0, 1, 999, 1000, 500, 2, 998, 10].getD k (0 : Int) ∧ [0, 1, 999, 1000, 500, 2, 998, 10].getD k (0 : Int) ≤ 1000 := by decide
      refine L_ixL (.of upd_same) (atI_ints (xs := [0, 1, 999, 1000, 500, 2, 998, 10]) z0 z1) ?_
      walk_at "sts"
      exact ⟨_, (z2 _ (by omega)).1, (z2 _ (by omega)).2, rfl, same_upd s2 hp2⟩
    · walk_at "sts"
      exact ⟨m, by omega, by omega, rfl, s2⟩
  · rintro σ' H' ⟨m', m0, m1, rfl, s2⟩
    walk_at "sts"
    refine L_d (fun c => ?_) (fun c => ?_)
    · walk_at "sa"
      exact L_nw ((h s (m' % 40) (by omega) (by omega) (by omega) (by omega)).of s2).at
    · walk_at "sa"
      exact L_nw ((h s m' (by omega) (by omega) (by omega) (by omega)).of s2).at
def sp_is_whole (K : PySem.W.Frag) (mg : Str → Option Value) : Sp := fun vs H Q _ => match vs with | [v, .int lo, .int hi] => (∃ t, v = .int t ∧ Q (.bl (decide (lo ≤ t) && decide (t ≤ hi))) H) ∨ (NotW K H v ∧ Q (.bl false) H) | _ => False
theorem c_is_whole (T : Txt K mg) : Cal P w K mg base 1 "is_whole" (sp_is_whole K mg) := by
  refine T.d_is_whole.cal (k := 0) sc_is_whole (by intro vs H Q E h; unfold sp_is_whole at h; split at h <;> first | rfl | exact h.elim) fun f cdv A outer s H vs Q E hr h => ?_
  refine ⟨_, (pss_cons (ps_if (PW.pt (pw_or (pt_not (pt_val (pe_callB call_isi (by rfl) T.n_isinstance (by decide +kernel) (pa_cons (pv 0) (pa_cons (pe_ty "int" (by rfl) T.n_int (by decide +kernel)) pa_nil))))) (pw_or1 (pt_val (pe_callB call_isi (by rfl) T.n_isinstance (by decide +kernel) (pa_cons (pv 0) (pa_cons (pe_ty "bool" (by rfl) T.n_bool (by decide +kernel)) pa_nil)))))))
    (pss_one (ps_ret pe_bl))
    pss_nil)
    (pss_one (ps_ret (pe_chain op_leA op_leA (pv 1) (pv 0) (pv 2))))), ?_⟩
  try simp only [cxOf_K, cxOf_K', cxOf_mg, cxOf_mg']
  unfold sp_is_whole at h
  split at h
  case h_2 => exact h.elim
  rename_i v lo hi
  rw [show L2.start ["thing", "low", "high"] [v, V.int lo, V.int hi] = [some (v), some (V.int lo), some (V.int hi)] from rfl]
  rcases h with ⟨t, rfl, q⟩ | ⟨⟨b, rfl⟩ | ⟨ty, h1, h2⟩, q⟩
  · walk_at "sa"
    refine L_d (fun c1 => ?_) (fun c1 => ?_)
    · rw [decide_eq_true c1, Bool.true_and] at q
      walk_at "sts"
      exact q
    · rw [decide_eq_false c1, Bool.false_and] at q
      exact q
  · walk_at "sts"
    refine L_isi (.base (.bl b)) (b := true) (by decide +kernel) ?_
    walk_at "sts"
    refine L_isi (.base (.bl b)) (b := true) (by decide +kernel) ?_
    walk_at "sts"
    exact q
  · walk_at "sts"
    refine L_isi h1 h2 ?_
    walk_at "sts"
    exact q
theorem q_whole {H : Hp} {Q : VK} {E : XK} {t lo hi : Int} (q : Q (.bl (decide (lo ≤ t) && decide (t ≤ hi))) H) : sp_is_whole K mg [.int t, .int lo, .int hi] H Q E := .inl ⟨t, rfl, q⟩
theorem q_wholeT {H : Hp} {Q : VK} {E : XK} {t lo hi : Int} (h : lo ≤ t ∧ t ≤ hi) (q : Q (.bl true) H) : sp_is_whole K mg [.int t, .int lo, .int hi] H Q E := q_whole (by rw [decide_eq_true h.1, decide_eq_true h.2]; exact q)
theorem q_wholeF {H : Hp} {Q : VK} {E : XK} {t lo hi : Int} (h : ¬ (lo ≤ t ∧ t ≤ hi)) (q : Q (.bl false) H) : sp_is_whole K mg [.int t, .int lo, .int hi] H Q E := q_whole (by
  rw [show (decide (lo ≤ t) && decide (t ≤ hi)) = false by simp only [Bool.and_eq_false_iff, decide_eq_false_iff_not]; omega]; exact q)
theorem q_wholeN {H : Hp} {Q : VK} {E : XK} {v : V} {lo hi : Int} (h : NotW K H v) (q : Q (.bl false) H) : sp_is_whole K mg [v, .int lo, .int hi] H Q E := .inr ⟨h, q⟩
theorem q_wholeB {H : Hp} {Q : VK} {E : XK} {v : V} {lo hi : Int} (h : BadW K H v lo hi) (q : Q (.bl false) H) : sp_is_whole K mg [v, .int lo, .int hi] H Q E := by
  rcases h with h | ⟨t, rfl, h⟩
  · exact q_wholeN h q
  · exact q_wholeF h q
theorem q_wholeG {H : Hp} {Q : VK} {E : XK} {t lo hi : Int} (h : sp_is_whole K mg [.int t, .int lo, .int hi] H Q E) : sp_is_whole K mg [.int t, .int lo, .int hi] H Q E := h
local macro_rules | `(tactic| walk_at "op") => `(tactic| with_reducible (refine q_wholeG ?_; first | refine q_wholeT (by omega) ?_ | refine q_wholeF (by omega) ?_ | refine q_whole ?_))
def sp_need_number (K : PySem.W.Frag) (mg : Str → Option Value) : Sp := fun vs H Q E => match vs with | [v] => (∃ t, v = .int t ∧ 0 ≤ t ∧ t < 1000 ∧ Q .non H) ∨ (BadW K H v 0 999 ∧ E (.ref (cA mg "NoTurn")) none H) | _ => False
theorem q_need_number {H : Hp} {Q : VK} {E : XK} {v : V} (q : (∃ t, v = .int t ∧ 0 ≤ t ∧ t < 1000 ∧ Q .non H) ∨ (BadW K H v 0 999 ∧ E (.ref (cA mg "NoTurn")) none H)) : sp_need_number K mg [v] H Q E := q
local macro_rules | `(tactic| walk_at "op") => `(tactic| with_reducible refine q_need_number ?_)
theorem c_need_number (T : Txt K mg) : CalX P w K mg base 2 "need_number" (sp_need_number K mg) := by
  refine T.d_need_number.calX (k := 1) sc_need_number (by intro vs H Q E h; unfold sp_need_number at h; split at h <;> first | rfl | exact h.elim) fun f cdv A outer s H vs Q E hr h => ?_
  refine ⟨_, (pss_one (ps_if (pt_not (pt_val (pe_c (c_is_whole T) hr (by decide) (by rfl) (pa_cons (pv 0) (pa_cons pe_int (pa_cons (pe_op op_sub (pe_gc (by rfl) T.g_CIRCLE) pe_int) pa_nil))))))
    (pss_one (ps_raise rfl (takes_of rfl rfl rfl rfl) (pmk_own0 T.x_NoTurn T.m_NoTurn (by rfl))))
    pss_nil)), ?_⟩
  try simp only [cxOf_K, cxOf_K', cxOf_mg, cxOf_mg']
  unfold sp_need_number at h
  split at h
  case h_2 => exact h.elim
  rename_i v
  rw [show L2.start ["thing"] [v] = [some (v)] from rfl]
  rcases h with ⟨t, rfl, h1, h2, q⟩ | ⟨h1, q⟩
  · walk_at "sa"
    exact q
  · walk_at "sa"
    refine q_wholeB h1 ?_
    walk_at "sa"
    exact q
def sp_need_many (K : PySem.W.Frag) (mg : Str → Option Value) : Sp := fun vs H Q E => match vs with | [v] => (∃ t, v = .int t ∧ 0 ≤ t ∧ t ≤ 1000 ∧ Q .non H) ∨ (BadW K H v 0 1000 ∧ E (.ref (cA mg "NoTurn")) none H) | _ => False
theorem q_need_many {H : Hp} {Q : VK} {E : XK} {v : V} (q : (∃ t, v = .int t ∧ 0 ≤ t ∧ t ≤ 1000 ∧ Q .non H) ∨ (BadW K H v 0 1000 ∧ E (.ref (cA mg "NoTurn")) none H)) : sp_need_many K mg [v] H Q E := q
local macro_rules | `(tactic| walk_at "op") => `(tactic| with_reducible refine q_need_many ?_)
theorem c_need_many (T : Txt K mg) : CalX P w K mg base 2 "need_many" (sp_need_many K mg) := by
  refine T.d_need_many.calX (k := 1) sc_need_many (by intro vs H Q E h; unfold sp_need_many at h; split at h <;> first | rfl | exact h.elim) fun f cdv A outer s H vs Q E hr h => ?_
  refine ⟨_, (pss_one (ps_if (pt_not (pt_val (pe_c (c_is_whole T) hr (by decide) (by rfl) (pa_cons (pv 0) (pa_cons pe_int (pa_cons (pe_gc (by rfl) T.g_CIRCLE) pa_nil))))))
    (pss_one (ps_raise rfl (takes_of rfl rfl rfl rfl) (pmk_own0 T.x_NoTurn T.m_NoTurn (by rfl))))
    pss_nil)), ?_⟩
  try simp only [cxOf_K, cxOf_K', cxOf_mg, cxOf_mg']
  unfold sp_need_many at h
  split at h
  case h_2 => exact h.elim
  rename_i v
  rw [show L2.start ["thing"] [v] = [some (v)] from rfl]
  rcases h with ⟨t, rfl, h1, h2, q⟩ | ⟨h1, q⟩
  · walk_at "sa"
    exact q
  · walk_at "sa"
    refine q_wholeB h1 ?_
    walk_at "sa"
    exact q
/-- a Turn's fields -/
def tuF (s m : Int) : List (Str × V) := [("start", .int s), ("many", .int m)]
/-- what no Turn is made of -/
def BadT (K : PySem.W.Frag) (H : Hp) (v w : V) : Prop := BadW K H v 0 999 ∨ ∃ s, v = .int s ∧ 0 ≤ s ∧ s < 1000 ∧ BadW K H w 0 1000
theorem BadT.same {H H' : Hp} {v w : V} (h : BadT K H v w) (e : Same H H') : BadT K H' v w := by
  rcases h with h | ⟨s, h1, h2, h3, h4⟩
  · exact .inl (h.same e)
  · exact .inr ⟨s, h1, h2, h3, h4.same e⟩
/-- a new Turn -/
def NewU (mg : Str → Option Value) (H : Hp) (s m : Int) (Q : VK) : Prop := ∀ p dx H', H p = none → Same H H' → H' p = some (.ins (cA mg "Turn") dx (tuF s m)) → Q (.ref p) H'
def sp_Turn___init__ (K : PySem.W.Frag) (mg : Str → Option Value) : Sp := fun vs H Q E => match vs with | [.ref x, v, w] => ∃ dx, H x = some (.ins (cA mg "Turn") dx []) ∧ ((BadT K H v w ∧ E (.ref (cA mg "NoTurn")) none H) ∨ ∃ s m, v = .int s ∧ w = .int m ∧ 0 ≤ s ∧ s < 1000 ∧ 0 ≤ m ∧ m ≤ 1000 ∧ ∀ H', (∀ b o, H b = some o → b ≠ x → H' b = some o) → H' x = some (.ins (cA mg "Turn") dx (tuF s m)) → Q .non H') | _ => False
theorem q_Turn___init__ {H : Hp} {Q : VK} {E : XK} {x : Addr} {v : V} {w : V} (q : ∃ dx, H x = some (.ins (cA mg "Turn") dx []) ∧ ((BadT K H v w ∧ E (.ref (cA mg "NoTurn")) none H) ∨ ∃ s m, v = .int s ∧ w = .int m ∧ 0 ≤ s ∧ s < 1000 ∧ 0 ≤ m ∧ m ≤ 1000 ∧ ∀ H', (∀ b o, H b = some o → b ≠ x → H' b = some o) → H' x = some (.ins (cA mg "Turn") dx (tuF s m)) → Q .non H')) : sp_Turn___init__ K mg [.ref x, v, w] H Q E := q
local macro_rules | `(tactic| walk_at "op") => `(tactic| with_reducible refine q_Turn___init__ ?_)
theorem m_Turn (T : Txt K mg) : MakX P w K mg base 3 "Turn" (cA mg "Turn") (sp_Turn___init__ K mg) := by
  refine InitAt.makX T.m_Turn T.i_Turn (k := 2) sc_Turn___init__ (by intro vs H Q E h; unfold sp_Turn___init__ at h; split at h <;> first | rfl | exact h.elim) fun f cdv A outer s H vs Q E hr h => ?_
  refine ⟨_, (pss_cons (ps_expr (pe_xS (c_need_number T) hr (by decide) (by rfl) (fun σ => passAt (takes_of rfl rfl rfl rfl) σ) (pa_cons (pv 1) pa_nil)))
    (pss_cons (ps_expr (pe_xS (c_need_many T) hr (by decide) (by rfl) (fun σ => passAt (takes_of rfl rfl rfl rfl) σ) (pa_cons (pv 2) pa_nil)))
    (pss_cons (ps_fld (pv 0) (pv 1) rfl)
    (pss_one (ps_fld (pv 0) (pv 2) rfl))))), ?_⟩
  try simp only [cxOf_K, cxOf_K', cxOf_mg, cxOf_mg']
  unfold sp_Turn___init__ at h
  split at h
  case h_2 => exact h.elim
  rename_i x v w
  rw [show L2.start ["self", "start", "many"] [V.ref x, v, w] = [some (V.ref x), some (v), some (w)] from rfl]
  obtain ⟨dx, hx, ⟨h | ⟨s, rfl, h1, h2, h⟩, q⟩ | ⟨s, m, rfl, rfl, h1, h2, h3, h4, q⟩⟩ := h
  · walk_at "sts"
    exact .inr ⟨h, q⟩
  · walk_at "sts"
    refine .inl ⟨s, rfl, h1, h2, ?_⟩
    walk_at "sts"
    exact .inr ⟨h, q⟩
  walk_at "sts"
  refine .inl ⟨s, rfl, h1, h2, ?_⟩
  walk_at "sts"
  refine .inl ⟨m, rfl, h3, h4, ?_⟩
  walk_at "sa"
  refine L_sFldv hx T.k_Turn T.na_Turn_start (by decide) ?_
  walk_at "sa"
  refine L_sFldv upd_same T.k_Turn T.na_Turn_many (by show 1 < 1000; decide) ?_
  refine q _ (fun b o hb ne => by rw [upd_ne ne, upd_ne ne]; exact hb) ?_
  rw [upd_same]
  rfl
/-- a Turn is made -/
theorem L_turn {H : Hp} {s m : Int} {Q : VK} {E : XK} (h : 0 ≤ s ∧ s < 1000 ∧ 0 ≤ m ∧ m ≤ 1000) (q : NewU mg H s m Q) : MakeP (cA mg "Turn") (sp_Turn___init__ K mg) E [.int s, .int m] H Q := fun x dx nx nd ne =>
  ⟨dx, upd_same, .inr ⟨s, m, rfl, rfl, h.1, h.2.1, h.2.2.1, h.2.2.2, fun H' k hx => ⟨rfl, q x dx H' nx (Same.made nx nd k) hx⟩⟩⟩
theorem same_made {H : Hp} {x dx C : Addr} (nx : H x = none) (nd : H dx = none) (ne : dx ≠ x) : Same H (upd (upd H dx (.own x)) x (.ins C dx [])) :=
  (same_new nd).trans (same_new (by rw [upd_ne ne.symm]; exact nx))
/-- a Turn is not made -/
theorem L_turnX {H : Hp} {v w : V} {Q : VK} {E : XK} (h : BadT K H v w) (q : ∀ H', Same H H' → E (.ref (cA mg "NoTurn")) none H') : MakeP (cA mg "Turn") (sp_Turn___init__ K mg) E [v, w] H Q := fun x dx nx nd ne =>
  ⟨dx, upd_same, .inl ⟨h.same (same_made nx nd ne), q _ (same_made nx nd ne)⟩⟩
/-- whether a number is in a turn -/
def isin (s m t : Int) : Bool := decide ((t - s) % 1000 < m)
def OkTu (p : Int × Int) : Prop := 0 ≤ p.1 ∧ p.1 < 1000 ∧ 0 ≤ p.2 ∧ p.2 ≤ 1000
/-- a turn as an object -/
def TU (mg : Str → Option Value) (H : Hp) (v : V) (p : Int × Int) : Prop := ∃ x dx, v = .ref x ∧ H x = some (.ins (cA mg "Turn") dx (tuF p.1 p.2))
theorem TU.same {mg : Str → Option Value} {H H' : Hp} {v : V} {p : Int × Int} (h : TU mg H v p) (s : Same H H') : TU mg H' v p := let ⟨x, dx, h1, h2⟩ := h; ⟨x, dx, h1, s _ _ h2⟩
theorem paired_at {α β : Type} {F : α → β → Prop} : ∀ {xs : List α} {ys : List β} {i : Nat} {x : α}, Paired F xs ys → xs[i]? = some x → ∃ y, ys[i]? = some y ∧ F x y
  | _ :: _, _, 0, x, .cons h _, e => by simp at e; subst e; exact ⟨_, rfl, h⟩
  | _ :: _, _, i + 1, x, .cons _ t, e => by
    obtain ⟨y, h1, h2⟩ := paired_at (i := i) t (by simpa using e)
    exact ⟨y, by simpa using h1, h2⟩
  | [], _, i, x, .nil, e => by simp at e
theorem paired_refs {mg : Str → Option Value} {H : Hp} : ∀ {xs : List V} {ys : List (Int × Int)}, Paired (TU mg H) xs ys → ∃ os : List Addr, xs = os.map V.ref
  | _, _, .nil => ⟨[], rfl⟩
  | _, _, .cons h t => by
    obtain ⟨x, dx, rfl, _⟩ := h
    obtain ⟨os, rfl⟩ := paired_refs t
    exact ⟨x :: os, rfl⟩
/-- a comprehension of new objects, each as F tells -/
theorem lc_ob {α : Type} (F : Hp → V → α → Prop) (st : ∀ H H' v a, Same H H' → F H v a → F H' v a) (up : ∀ H D us us' v a, H D = some (.lst us) → F H v a → F (upd H D (.lst us')) v a)
    {σ : L2.St} {H : Hp} {g : TG} {tt : TT} {te : TE} {J : It} {n : Nat} {G : Hp → Prop} {Y : Nat → Hp → V → Hp → Prop} (w : L2.Walk J n G Y) {vs : List Nat} {Qd : Addr → Hp → Prop} (f : Nat → Option α) (hn : n ≤ 1000000) (hG : ∀ H', Same H H' → G H')
    (hs : ∀ i x H2 H' (R : V → Hp → Prop) (R' : Hp → Prop), i < n → Same H H2 → Y i H2 x H' → (∀ v p H4, f i = some p → Same H2 H4 → F H4 v p → R v H4) → (∀ H3, f i = none → Same H2 H3 → R' H3) →
      g x (wipe σ vs) H' fun σ2 H2 => wipe σ2 vs = wipe σ vs ∧ tt σ2 H2 fun b H3 => if b = true then te σ2 H3 R else R' H3)
    (q : ∀ p H' vs, H p = none → Same H H' → H' p = some (.lst vs) → Paired (F H') vs ((List.range n).filterMap f) → Qd p H') :
    ∀ D, H D = none → ∃ W : Nat → Nat → Hp → Prop, (∃ m, W 0 m (upd H D (.lst []))) ∧ ∀ i m H, W i m H →
      (J.stop i H ∧ Qd D H) ∨ (J.go i H ∧ ∃ Nx : Hp → Prop, (∀ H', Nx H' → ∃ m', m' < m ∧ W (i + 1) m' H') ∧ ∀ x H', J.yld i H x H' → g x (wipe σ vs) H' fun σ2 H2 => wipe σ2 vs = wipe σ vs ∧ tt σ2 H2 fun b H3 =>
        if b = true then te σ2 H3 fun y H4 => ∃ acc, H4 D = some (.lst acc) ∧ acc.length < sizeLine ∧ Nx (upd H4 D (.lst (acc ++ [y]))) else Nx H3) := by
  intro D hD
  refine lc_it w (fun i H2 => Same H H2 ∧ ∃ us, H2 D = some (.lst us) ∧ Paired (F H2) us ((List.range i).filterMap f)) ⟨same_new hD, [], upd_same, .nil⟩ (fun i H2 _ p => hG H2 p.1) ?_ (fun H2 ⟨p1, us, p2, p3⟩ => q D H2 us hD p1 p2 p3)
  rintro i x H2 H' hi ⟨p1, us, p2, p3⟩ y
  refine hs i x H2 H' _ _ hi p1 y (fun v p H4 e s et => ?_) (fun H3 e s => ?_)
  · have e4 := s _ _ p2
    refine ⟨us, e4, sz_lt (by have := Paired.length p3; have := fm_len' f i; omega), same_mut (p1.trans s) hD, _, upd_same, ?_⟩
    rw [fm_succ', e]
    exact paired_app (paired_imp2 (fun v p h => up _ _ _ _ _ _ e4 (st _ _ _ _ s h)) p3) (.cons (up _ _ _ _ _ _ e4 et) .nil)
  · refine ⟨p1.trans s, us, s _ _ p2, ?_⟩
    rw [fm_succ', e, List.append_nil]
    exact paired_imp2 (fun v p h => st _ _ _ _ s h) p3
theorem tu_up {mg : Str → Option Value} {H : Hp} {D : Addr} {us us' : List V} {v : V} {p : Int × Int} (e : H D = some (.lst us)) (h : TU mg H v p) : TU mg (upd H D (.lst us')) v p := by
  obtain ⟨x, dx, h1, h2⟩ := h
  exact ⟨x, dx, h1, by rw [upd_ne fun z => (by rw [z, e] at h2; cases h2)]; exact h2⟩
/-- a list of turns -/
structure TuL (mg : Str → Option Value) (H : Hp) (a : Addr) (us : List V) (ts : List (Int × Int)) : Prop where
  l : H a = some (.lst us)
  p : Paired (TU mg H) us ts
  ok : ∀ t ∈ ts, OkTu t
  len : ts.length ≤ 24
theorem TuL.same {mg : Str → Option Value} {H H' : Hp} {a : Addr} {us : List V} {ts : List (Int × Int)} (h : TuL mg H a us ts) (s : Same H H') : TuL mg H' a us ts := ⟨s _ _ h.l, paired_imp2 (fun _ _ h => h.same s) h.p, h.ok, h.len⟩
/-- the places of the turns in which a number is -/
def stayL (ts : List (Int × Int)) (n : Int) : List Int := (List.range ts.length).filterMap fun i => if isin (ts.getD i (0, 0)).1 (ts.getD i (0, 0)).2 n = true then some (i : Int) else none
theorem stayL_len (ts : List (Int × Int)) (n : Int) : (stayL ts n).length ≤ ts.length := by
  unfold stayL
  refine Nat.le_trans (List.length_filterMap_le ..) ?_
  rw [List.length_range]
  exact Nat.le_refl _
def sp_Turn_has (K : PySem.W.Frag) (mg : Str → Option Value) : Sp := fun vs H Q E => match vs with | [.ref x, v] => ∃ dx s m, H x = some (.ins (cA mg "Turn") dx (tuF s m)) ∧ ((BadW K H v 0 999 ∧ E (.ref (cA mg "NoTurn")) none H) ∨ ∃ t, v = .int t ∧ 0 ≤ t ∧ t < 1000 ∧ Q (.bl (isin s m t)) H) | _ => False
theorem q_Turn_has {H : Hp} {Q : VK} {E : XK} {x : Addr} {v : V} (q : ∃ dx s m, H x = some (.ins (cA mg "Turn") dx (tuF s m)) ∧ ((BadW K H v 0 999 ∧ E (.ref (cA mg "NoTurn")) none H) ∨ ∃ t, v = .int t ∧ 0 ≤ t ∧ t < 1000 ∧ Q (.bl (isin s m t)) H)) : sp_Turn_has K mg [.ref x, v] H Q E := q
local macro_rules | `(tactic| walk_at "op") => `(tactic| with_reducible refine q_Turn_has ?_)
theorem c_Turn_has (T : Txt K mg) : MetX P w K mg base 3 (cA mg "Turn") "has" (sp_Turn_has K mg) := by
  refine MethAt.metX T.k_Turn T.d_Turn_has (k := 2) sc_Turn_has (by intro vs H Q E h; unfold sp_Turn_has at h; split at h <;> first | rfl | exact h.elim) fun f cdv A outer s H vs Q E hr h => ?_
  refine ⟨_, (pss_cons (ps_expr (pe_xS (c_need_number T) hr (by decide) (by rfl) (fun σ => passAt (takes_of rfl rfl rfl rfl) σ) (pa_cons (pv 1) pa_nil)))
    (pss_one (ps_ret (pe_cmpR op_ltA (pe_op op_mod (pe_op op_sub (pv 1) (pe_fld (pv 0) rfl)) (pe_gc (by rfl) T.g_CIRCLE)) (pe_fld (pv 0) rfl) (nomark _))))), ?_⟩
  try simp only [cxOf_K, cxOf_K', cxOf_mg, cxOf_mg']
  unfold sp_Turn_has at h
  split at h
  case h_2 => exact h.elim
  rename_i x v
  rw [show L2.start ["self", "number"] [V.ref x, v] = [some (V.ref x), some (v)] from rfl]
  obtain ⟨dx, s, m, hx, ⟨hb, q⟩ | ⟨t, rfl, h1, h2, q⟩⟩ := h
  · walk_at "sts"
    exact .inr ⟨hb, q⟩
  · walk_at "sts"
    refine .inl ⟨t, rfl, h1, h2, ?_⟩
    walk_at "sa"
    exact q
def sp_panel (K : PySem.W.Frag) (mg : Str → Option Value) : Sp := fun vs H Q E => match vs with | [v, w, u] => ((BadW K H v 0 1000 ∨ ((∃ m, v = .int m ∧ 0 ≤ m ∧ m ≤ 1000) ∧ (BadW K H w 0 999 ∨ ((∃ b, w = .int b ∧ 0 ≤ b ∧ b < 1000) ∧ BadW K H u 0 24)))) ∧ E (.ref (cA mg "NoTurn")) none H) ∨ ∃ m b n : Int, v = .int m ∧ w = .int b ∧ u = .int n ∧ 0 ≤ m ∧ m ≤ 1000 ∧ 0 ≤ b ∧ b < 1000 ∧ 0 ≤ n ∧ n ≤ 24 ∧ ∀ p us H', H p = none → Same H H' → TuL mg H' p us ((List.range n.toNat).map fun i : Nat => ((i : Int) * b % 1000, m)) → Q (.ref p) H' | _ => False
theorem c_panel (T : Txt K mg) : CalX P w K mg base 5 "panel" (sp_panel K mg) := by
  refine T.d_panel.calX (k := 4) sc_panel (by intro vs H Q E h; unfold sp_panel at h; split at h <;> first | rfl | exact h.elim) fun f cdv A outer s H vs Q E hr h => ?_
  refine ⟨_, (pss_cons (ps_expr (pe_xS (c_need_many T) hr (by decide) (by rfl) (fun σ => passAt (takes_of rfl rfl rfl rfl) σ) (pa_cons (pv 0) pa_nil)))
    (pss_cons (ps_expr (pe_xS (c_need_number T) hr (by decide) (by rfl) (fun σ => passAt (takes_of rfl rfl rfl rfl) σ) (pa_cons (pv 1) pa_nil)))
    (pss_cons (ps_if (pt_not (pt_val (pe_c (c_is_whole T) hr (by decide) (by rfl) (pa_cons (pv 2) (pa_cons pe_int (pa_cons (pe_gc (by rfl) T.g_MOST_TURNS) pa_nil))))))
    (pss_one (ps_raise rfl (takes_of rfl rfl rfl rfl) (pmk_own0 T.x_NoTurn T.m_NoTurn (by rfl))))
    pss_nil)
    (pss_one (ps_ret (pe_lc (own := [("place", 3)]) (g := (gName 3)) (tt := tYes) (te := (tMakeE (cA mg "Turn") (sp_Turn___init__ K mg) (fun _ => E0) (tCons (tOp (rI (fun _ j => 0 < j) fun i j => .int (i % j)) (tOp aMul (tVar 3) (tVar 1)) (tC (.int 1000))) (tCons (tVar 0) tNil)))) rfl sc_panel.nd (pi_range1 (by rfl) T.n_range (pa_cons (pv 2) pa_nil)) (blkOk_by (N := ["many", "by", "count", "place"]) (sc := defScope s_panel) (by decide +kernel)) (fun _ _ _ _ _ => by exact (pg_name (i := 3) sc_panel.nd rfl (.inl rfl))) (fun _ _ _ _ _ => pts_nil) (fun _ _ _ _ _ => by exact (pe_xMk (m_Turn T) hr (by decide) (by rfl) (fun σ => passN σ) (pa_cons (pe_op op_mod (pe_op op_mulA (pv 3) (pv 1)) (pe_gc (by rfl) T.g_CIRCLE)) (pa_cons (pv 0) pa_nil)))))))))), ?_⟩
  try simp only [cxOf_K, cxOf_K', cxOf_mg, cxOf_mg']
  unfold sp_panel at h
  split at h
  case h_2 => exact h.elim
  rename_i v w u
  rw [show L2.start ["many", "by", "count", "place"] [v, w, u] = [some (v), some (w), some (u), none] from rfl]
  rcases h with ⟨h, q⟩ | ⟨m, b, n, rfl, rfl, rfl, m0, m1, b0, b1, n0, n1, q⟩
  · rcases h with h | ⟨⟨m, rfl, m0, m1⟩, h⟩
    · walk_at "sts"
      exact .inr ⟨h, q⟩
    · walk_at "sts"
      refine .inl ⟨m, rfl, m0, m1, ?_⟩
      rcases h with h | ⟨⟨b, rfl, b0, b1⟩, h⟩
      · walk_at "sts"
        exact .inr ⟨h, q⟩
      · walk_at "sts"
        refine .inl ⟨b, rfl, b0, b1, ?_⟩
        walk_at "sts"
        refine q_wholeB h ?_
        walk_at "sts"
        exact q
  · walk_at "sts"
    refine .inl ⟨m, rfl, m0, m1, ?_⟩
    walk_at "sts"
    refine .inl ⟨b, rfl, b0, b1, ?_⟩
    walk_at "sts"
    refine L_r1 (by omega) (by omega) ?_
    refine lc_ob (TU mg) (fun _ _ _ _ s h => h.same s) (fun _ _ _ _ _ _ e h => tu_up e h) walk_range (fun i => some ((i : Int) * b % 1000, m)) (by omega) (fun _ _ => True.intro) ?_ ?_
    · rintro i x1 Ha Hb R R' hi sm ⟨rfl, rfl⟩ q1 q2
      walk_at "sts"
      refine ⟨rfl, ?_⟩
      walk_at "sts"
      refine L_mulI ((bd_64 (by omega)).cmul (bd_64 (by omega))) ?_
      walk_at "sts"
      refine L_I (by decide) ?_
      walk_at "sts"
      have e0 := Int.emod_nonneg ((0 + (i : Int)) * b) (show (1000 : Int) ≠ 0 by decide)
      have e1 := Int.emod_lt_of_pos ((0 + (i : Int)) * b) (show (0 : Int) < 1000 by decide)
      refine L_turn ⟨e0, e1, m0, m1⟩ fun p dx H' hp s e => ?_
      rw [Int.zero_add] at e
      exact q1 _ _ _ rfl s ⟨p, dx, rfl, e⟩
    intro p H' us hp s e hP
    refine q p us H' hp s ⟨e, ?_, fun t ht => ?_, ?_⟩
    · rw [show (List.range n.toNat).filterMap (fun i : Nat => some ((i : Int) * b % 1000, m)) = (List.range n.toNat).map fun i : Nat => ((i : Int) * b % 1000, m) from (congrFun (List.filterMap_eq_map (f := fun i : Nat => ((i : Int) * b % 1000, m))) _)] at hP
      exact hP
    · obtain ⟨i, _, rfl⟩ := List.mem_map.mp ht
      exact ⟨Int.emod_nonneg _ (by decide), Int.emod_lt_of_pos _ (by decide), m0, m1⟩
    · rw [List.length_map, List.length_range]; omega
def sp_stays (K : PySem.W.Frag) (mg : Str → Option Value) : Sp := fun vs H Q E => match vs with | [.ref a, w] => (BadW K H w 0 999 ∧ E (.ref (cA mg "NoTurn")) none H) ∨ ∃ us ts n, TuL mg H a us ts ∧ w = .int n ∧ 0 ≤ n ∧ n < 1000 ∧ NewL H ((stayL ts n).map V.int) Q | _ => False
theorem c_stays (T : Txt K mg) : CalX P w K mg base 4 "stays" (sp_stays K mg) := by
  refine T.d_stays.calX (k := 3) sc_stays (by intro vs H Q E h; unfold sp_stays at h; split at h <;> first | rfl | exact h.elim) fun f cdv A outer s H vs Q E hr h => ?_
  refine ⟨_, (pss_cons (ps_expr (pe_xS (c_need_number T) hr (by decide) (by rfl) (fun σ => passAt (takes_of rfl rfl rfl rfl) σ) (pa_cons (pv 1) pa_nil)))
    (pss_one (ps_ret (pe_lc (own := [("place", 2), ("turn", 3)]) (g := (gTup K 2 (gCons (gName 2) (gCons (gName 3) gNil)))) (tt := (tB (tMethE (cA mg "Turn") "has" (sp_Turn_has K mg) (fun _ => E0) (tVar 3) (tCons (tVar 1) tNil)))) (te := (tVar 2)) rfl sc_stays.nd (pi_enum (by rfl) T.n_enumerate (pa_cons (pv 0) pa_nil)) (blkOk_by (N := ["turns", "number", "place", "turn"]) (sc := defScope s_stays) (by decide +kernel)) (fun _ _ _ _ _ => by exact (pg_tup rfl (pgs_cons (pg_name (i := 2) sc_stays.nd rfl (.inl rfl)) (pgs_cons (pg_name (i := 3) sc_stays.nd rfl (.inl rfl)) pgs_nil)))) (fun _ _ _ _ _ => by exact pts_one (pt_val (pe_xMt (c_Turn_has T) hr (by decide) (fun σ => passN σ) (pv 3) (pa_cons (pv 1) pa_nil)))) (fun _ _ _ _ _ => by exact (pv 2)))))), ?_⟩
  try simp only [cxOf_K, cxOf_K', cxOf_mg, cxOf_mg']
  unfold sp_stays at h
  split at h
  case h_2 => exact h.elim
  rename_i a w
  rw [show L2.start ["turns", "number", "place", "turn"] [V.ref a, w] = [some (V.ref a), some (w), none, none] from rfl]
  rcases h with ⟨h, q⟩ | ⟨us, ts, n, hT, rfl, n0, n1, q⟩
  · walk_at "sts"
    exact .inr ⟨h, q⟩
  · walk_at "sts"
    refine .inl ⟨n, rfl, n0, n1, ?_⟩
    have hul := Paired.length hT.p
    have h24 := hT.len
    walk_at "sts"
    refine L_re (.of hT.l) ?_
    refine lc_fm walk_enum (fun i => (if isin (ts.getD i (0, 0)).1 (ts.getD i (0, 0)).2 n = true then some (i : Int) else none).map V.int) (by omega) (fun H' e => .of (e _ _ hT.l)) ?_ ?_
    · rintro i x1 H2 H' R R' hi sm ⟨T1, k0, t0, rfl, hT1, rfl, hk, ht⟩ r1 r2
      cases hk
      replace ht : us[i]? = some t0 := ht
      obtain ⟨t, ht', x, dx, rfl, hx⟩ := paired_at hT.p ht
      have hd : ts.getD i (0, 0) = t := by rw [List.getD_eq_getElem?_getD, ht']; rfl
      refine L_gTup (.of upd_same) rfl ?_
      walk_at "sts"
      refine ⟨rfl, ?_⟩
      have s2 := same_upd (o := HO.tup [V.int (i : Int), V.ref x]) sm hT1
      walk_at "sts"
      refine L_methv (s2 _ _ hx) rfl ?_
      walk_at "sts"
      refine ⟨dx, t.1, t.2, s2 _ _ hx, .inr ⟨n, rfl, by omega, by omega, ?_⟩⟩
      walk_at "sts"
      refine L_b (fun c => ?_) (fun c => ?_)
      · walk_at "sts"
        exact r1 _ _ (by rw [hd, c]; rfl) (same_new hT1)
      · exact r2 _ (by rw [hd, c]; rfl) (same_new hT1)
    · rw [fm_int, hul]
      exact q
/-! ### stretches -/
/-- one stretch more, joined to the last one of the same places -/
def addS (G : List (Int × List Int)) (m : Int) (h : List Int) : List (Int × List Int) := match G.getLast? with
  | some (m', h') => if h' = h then G.dropLast ++ [(m' + m, h)] else G ++ [(m, h)]
  | none => [(m, h)]
/-- how many numbers are in just k turns, by the stretches -/
def cntS (G : List (Int × List Int)) (k : Nat) : Int := (G.map fun g => if g.2.length = k then g.1 else 0).sum
theorem cntS_add (G : List (Int × List Int)) (m : Int) (h : List Int) (k : Nat) : cntS (addS G m h) k = cntS G k + if h.length = k then m else 0 := by
  unfold addS
  cases e : G.getLast? with
  | none =>
    rw [List.getLast?_eq_none_iff.mp e]
    simp [cntS]
  | some g =>
    obtain ⟨ini, rfl⟩ := List.getLast?_eq_some_iff.mp e
    obtain ⟨m', h'⟩ := g
    dsimp only
    by_cases c : h' = h
    · subst c
      rw [if_pos rfl, List.dropLast_concat]
      unfold cntS
      rw [List.map_append, List.map_append, List.sum_append, List.sum_append]
      simp only [List.map_cons, List.map_nil, List.sum_cons, List.sum_nil, Int.add_zero]
      split <;> omega
    · rw [if_neg c]
      unfold cntS
      rw [List.map_append, List.sum_append]
      simp
theorem addS_mem {G : List (Int × List Int)} {m : Int} {h : List Int} {P : List Int → Prop} (hG : ∀ g ∈ G, P g.2) (hh : P h) : ∀ g ∈ addS G m h, P g.2 := fun g hg => by
  unfold addS at hg
  split at hg
  · split at hg
    · rcases List.mem_append.mp hg with hg | hg
      · exact hG g (List.dropLast_subset _ hg)
      · rw [List.mem_singleton.mp hg]; exact hh
    · rcases List.mem_append.mp hg with hg | hg
      · exact hG g hg
      · rw [List.mem_singleton.mp hg]; exact hh
  · rw [List.mem_singleton.mp hg]; exact hh
theorem addS_app (G : List (Int × List Int)) (m' m : Int) (h' h : List Int) : addS (G ++ [(m', h')]) m h = if h' = h then G ++ [(m' + m, h)] else G ++ [(m', h')] ++ [(m, h)] := by
  unfold addS
  rw [List.getLast?_concat]
  dsimp only
  rw [List.dropLast_concat]
theorem set_lastV {α : Type} (vs : List α) (v u : α) : (vs ++ [v]).set vs.length u = vs ++ [u] := by simp
theorem addS_len (G : List (Int × List Int)) (m : Int) (h : List Int) : (addS G m h).length ≤ G.length + 1 := by
  unfold addS
  split
  · split
    · rw [List.length_append, List.length_dropLast, List.length_singleton]; omega
    · rw [List.length_append, List.length_singleton]; omega
  · simp
/-- how many numbers below t are in just k turns -/
def nbel (ts : List (Int × Int)) (k : Nat) (t : Int) : Int := sumR (fun n => if (stayL ts (n : Int)).length = k then 1 else 0) t.toNat
/-- the borders of some turns -/
def bordL (ts : List (Int × Int)) : List Int := 0 :: ts.flatMap fun t => [t.1, (t.1 + t.2) % 1000]
theorem fm_congr {α β : Type} {f g : α → Option β} : ∀ {l : List α}, (∀ x ∈ l, f x = g x) → l.filterMap f = l.filterMap g
  | [], _ => rfl
  | a :: l, h => by
    rw [List.filterMap_cons, List.filterMap_cons, h a (List.mem_cons_self ..), fm_congr fun x hx => h x (List.mem_cons_of_mem _ hx)]
theorem isin_step {s m n : Int} (h : 0 ≤ s ∧ s < 1000 ∧ 0 ≤ m ∧ m ≤ 1000) (h0 : 0 < n) (h1 : n < 1000) (n1 : n ≠ s) (n2 : n ≠ (s + m) % 1000) : isin s m n = isin s m (n - 1) := by
  unfold isin
  rw [Bool.eq_iff_iff, decide_eq_true_iff, decide_eq_true_iff]
  omega
theorem stay_same {ts : List (Int × Int)} (hok : ∀ t ∈ ts, OkTu t) {b : Int} (hb : 0 ≤ b) : ∀ d : Nat, b + d < 1000 → (∀ x ∈ bordL ts, ¬ (b < x ∧ x ≤ b + d)) → stayL ts (b + d) = stayL ts b
  | 0, _, _ => by rw [show b + ((0 : Nat) : Int) = b by omega]
  | d + 1, hd, hx => by
    rw [← stay_same hok hb d (by omega) fun x hx' z => hx x hx' ⟨z.1, by omega⟩]
    unfold stayL
    refine fm_congr fun i hi => ?_
    have hil : i < ts.length := List.mem_range.mp hi
    have hg : ts.getD i (0, 0) = ts[i] := by rw [List.getD_eq_getElem?_getD, List.getElem?_eq_getElem hil]; rfl
    have hm : ts[i] ∈ ts := List.getElem_mem hil
    rw [hg]
    have b1 : ts[i].1 ∈ bordL ts := List.mem_cons_of_mem _ (List.mem_flatMap.mpr ⟨_, hm, by simp⟩)
    have b2 : (ts[i].1 + ts[i].2) % 1000 ∈ bordL ts := List.mem_cons_of_mem _ (List.mem_flatMap.mpr ⟨_, hm, by simp⟩)
    have c1 := hx _ b1
    have c2 := hx _ b2
    obtain ⟨o1, o2, o3, o4⟩ := hok _ hm
    rw [isin_step ⟨o1, o2, o3, o4⟩ (n := b + ((d + 1 : Nat) : Int)) (by omega) hd (by omega) (by omega), show b + ((d + 1 : Nat) : Int) - 1 = b + (d : Int) by omega]
theorem nbel_step {ts : List (Int × Int)} (hok : ∀ t ∈ ts, OkTu t) {b e : Int} (hb : 0 ≤ b) (he : b ≤ e) (h1000 : e ≤ 1000) (hx : ∀ x ∈ bordL ts, ¬ (b < x ∧ x < e)) (k : Nat) : nbel ts k e = nbel ts k b + if (stayL ts b).length = k then e - b else 0 := by
  have key : ∀ d : Nat, b + d ≤ e → nbel ts k (b + d) = nbel ts k b + if (stayL ts b).length = k then (d : Int) else 0 := by
    intro d
    induction d with
    | zero => intro _; rw [show b + ((0 : Nat) : Int) = b by omega]; split <;> omega
    | succ d ih =>
      intro hd
      have e1 : nbel ts k (b + ((d + 1 : Nat) : Int)) = nbel ts k (b + d) + (if (stayL ts (b + d)).length = k then 1 else 0) := by
        unfold nbel
        rw [show (b + ((d + 1 : Nat) : Int)).toNat = (b + d).toNat + 1 by omega]
        show sumR _ (b + d).toNat + (if (stayL ts (((b + d).toNat : Nat) : Int)).length = k then 1 else 0) = _
        rw [show (((b + d).toNat : Nat) : Int) = b + d by omega]
      rw [e1, ih (by omega), stay_same hok hb d (by omega) fun x hx' z => hx x hx' ⟨z.1, by omega⟩]
      split <;> omega
  have := key (e - b).toNat (by omega)
  rw [show b + (((e - b).toNat : Nat) : Int) = e by omega] at this
  rw [this]
  split <;> omega
theorem eqv_ints : ∀ a b : List Int, PyData.eqvAll (a.map .int) (b.map .int) = decide (a = b)
  | [], [] => by simp [PyData.eqvAll]
  | [], y :: b => by simp [PyData.eqvAll]
  | x :: a, [] => by simp [PyData.eqvAll]
  | x :: a, y :: b => by
    rw [List.map_cons, List.map_cons, PyData.eqvAll, eqv_ints a b, PyData.eqv]
    by_cases h : x = y
    · subst h; simp
    · simp [h]
theorem eqv_intL (a b : List Int) : PyData.eqv (.list (a.map .int)) (.list (b.map .int)) = decide (a = b) := by rw [PyData.eqv, eqv_ints]
def gD (g : Int × List Int) : PyData := .tuple [.int g.1, .list (g.2.map .int)]
theorem bord_take {ts : List (Int × Int)} {i : Nat} {t : Int × Int} (h : ts[i]? = some t) : bordL (ts.take (i + 1)) = bordL (ts.take i) ++ [t.1, (t.1 + t.2) % 1000] := by
  unfold bordL
  rw [List.take_succ, h, List.flatMap_append]
  rfl
theorem bord_b {ts : List (Int × Int)} (hok : ∀ t ∈ ts, OkTu t) : ∀ x ∈ bordL ts, 0 ≤ x ∧ x < 1000 := fun x hx => by
  rcases List.mem_cons.mp hx with rfl | hx
  · decide
  · obtain ⟨t, ht, hx⟩ := List.mem_flatMap.mp hx
    obtain ⟨h1, h2, h3, h4⟩ := hok t ht
    simp only [List.mem_cons, List.not_mem_nil, or_false] at hx
    rcases hx with rfl | rfl
    · exact ⟨h1, h2⟩
    · exact ⟨Int.emod_nonneg _ (by decide), Int.emod_lt_of_pos _ (by decide)⟩
theorem bord_len (ts : List (Int × Int)) : (bordL ts).length = 1 + 2 * ts.length := by
  unfold bordL
  rw [List.length_cons]
  induction ts with
  | nil => rfl
  | cons t ts ih => rw [List.flatMap_cons, List.length_append]; simp at ih ⊢; omega
/-- one border behind the other, the circle's end behind the last -/
theorem nx_no {bs : List Int} (hp : bs.Pairwise (· < ·)) {i : Nat} {b : Int} (hb : bs[i]? = some b) : ∀ x ∈ bs, ¬ (b < x ∧ x < (bs ++ [1000]).getD (i + 1) 0) := fun x hx z => by
  obtain ⟨j, hj⟩ := List.mem_iff_getElem?.mp hx
  obtain ⟨hi1, hi2⟩ := List.getElem?_eq_some_iff.mp hb
  obtain ⟨hj1, hj2⟩ := List.getElem?_eq_some_iff.mp hj
  have hlt := List.pairwise_iff_getElem.mp hp
  have hij : i < j := by
    rcases Nat.lt_trichotomy i j with h | h | h
    · exact h
    · subst h; omega
    · have := hlt j i hj1 hi1 h
      omega
  rw [List.getD_eq_getElem?_getD, List.getElem?_append_left (by omega), List.getElem?_eq_getElem (by omega)] at z
  have z2 : x < bs[i + 1]'(by omega) := z.2
  rcases Nat.lt_or_eq_of_le (show i + 1 ≤ j by omega) with h | h
  · have := hlt (i + 1) j (by omega) hj1 h
    omega
  · subst h
    omega
section
variable {K : PySem.W.Frag} {H H' : Hp} {P : Addr → Prop} {p q : Addr} {us xs : List V} {ds : List PyData} {d : PyData} {y : V} {o : HO}
theorem dpP_grow (np : ¬ P p) (hdp : DpAll K (rs P H) us ds) (s : Same H H') (hy : Dp K (rs P H') y d) : DpAll K (rs P (upd H' p o)) (us ++ [y]) (ds ++ [d]) :=
  (hdp.same (rs_same fun a u na ha => ⟨na, by rw [upd_ne fun z : a = p => np (z ▸ na)]; exact s _ _ ha⟩)).snoc (hy.same (rs_same fun a u na ha => ⟨na, by rw [upd_ne fun z : a = p => np (z ▸ na)]; exact ha⟩))
theorem dpP_tup (h : H q = some (.tup xs)) (n : P q) (ha : DpAll K (rs P H) xs ds) : Dp K (rs P H) (.ref q) (.tuple ds) := .tup (.of (rs_at n h)) ha
theorem dpP_lst (h : H q = some (.lst xs)) (n : P q) (ha : DpAll K (rs P H) xs ds) : Dp K (rs P H) (.ref q) (.list ds) := .lst (.of (rs_at n h)) ha
theorem hitG {G : List (Int × List Int)} (hA : DpAll K H us (G.map gD)) {i : Nat} {x : V} (hx : us[i]? = some x) : ∃ g t q, G[i]? = some g ∧ x = V.ref t ∧ SqT K H t [.int g.1, .ref q] ∧ SqL K H q (g.2.map .int) := by
  obtain ⟨d, h1, h2⟩ := hA.of hx
  rw [List.getElem?_map] at h1
  obtain ⟨g, h3, rfl⟩ := Option.map_eq_some_iff.mp h1
  cases h2 with | tup ht ha
  cases ha with | cons ha1 ha
  cases ha with | cons ha2 ha
  cases ha
  cases ha1
  cases ha2 with | lst hl hi
  have hi2 := of_ints hi
  subst hi2
  exact ⟨g, _, _, h3, rfl, ht, hl⟩
/-- how many numbers are in just so many turns -/
def cntL (ts : List (Int × Int)) : List Int := (List.range (ts.length + 1)).map fun k => nbel ts k 1000
theorem cntS_take {G : List (Int × List Int)} {i : Nat} {g : Int × List Int} (h : G[i]? = some g) (k : Nat) : cntS (G.take (i + 1)) k = cntS (G.take i) k + if g.2.length = k then g.1 else 0 := by
  unfold cntS
  rw [List.take_succ, h, List.map_append, List.sum_append]
  simp
end
def sp_stretches (K : PySem.W.Frag) (mg : Str → Option Value) : Sp := fun vs H Q _ => match vs with | [.ref a] => ∃ us ts, TuL mg H a us ts ∧ ∀ p vs G H', H p = none → Same H H' → H' p = some (.lst vs) → DpAll K (rs (fun x => x ≠ p ∧ H x = none) H') vs (G.map gD) → (∀ k, cntS G k = nbel ts k 1000) → (∀ g ∈ G, g.2.length ≤ ts.length) → G.length ≤ 60 → Q (.ref p) H' | _ => False
theorem c_stretches (T : Txt K mg) : Cal P w K mg base 5 "stretches" (sp_stretches K mg) := by
  refine T.d_stretches.cal (k := 4) sc_stretches (by intro vs H Q E h; unfold sp_stretches at h; split at h <;> first | rfl | exact h.elim) fun f cdv A outer s H vs Q E hr h => ?_
  refine ⟨_, (pss_cons (ps_set (i := 1) sc_stretches.nd rfl (.inl rfl) (pe_lst (pa_cons pe_int pa_nil)))
    (pss_cons (ps_for PassesOwn.never rfl (pi_list (pv 0)) (pg_name (i := 2) sc_stretches.nd rfl (.inl rfl))
    (pss_one (ps_expr (pe_bm PySem.F.plainAttrs_list PySem.F.slot_list_extend PySem.F.type_list_extend mt_extend (pv 1) (pa_cons (pe_lst (pa_cons (pe_fld (pv 2) rfl) (pa_cons (pe_op op_mod (pe_op op_addA (pe_fld (pv 2) rfl) (pe_fld (pv 2) rfl)) (pe_gc (by rfl) T.g_CIRCLE)) pa_nil))) pa_nil)))))
    (pss_cons (ps_set (i := 1) sc_stretches.nd rfl (.inl rfl) (pe_callB (cr_sortedSet rfl) (by rfl) T.n_sorted (by decide +kernel) (pa_cons (pe_callTy (cr_setL rfl) (by rfl) T.n_set (by decide +kernel) (pa_cons (pv 1) pa_nil)) pa_nil)))
    (pss_cons (ps_set (i := 3) sc_stretches.nd rfl (.inl rfl) (pe_lst pa_nil))
    (pss_cons (ps_for PassesOwn.never rfl (pi_zip (by rfl) T.n_zip (pa_cons (pv 1) (pa_cons (pe_op op_addA (pe_slice sl_list (pv 1) (po_some pe_int) po_none) (pe_lst (pa_cons (pe_gc (by rfl) T.g_CIRCLE) pa_nil))) pa_nil))) (pg_tup rfl (pgs_cons (pg_name (i := 4) sc_stretches.nd rfl (.inl rfl)) (pgs_cons (pg_name (i := 5) sc_stretches.nd rfl (.inl rfl)) pgs_nil)))
    (pss_cons (ps_set (i := 6) sc_stretches.nd rfl (.inl rfl) (pe_xS (c_stays T) hr (by decide) (by rfl) (fun σ => passN σ) (pa_cons (pv 0) (pa_cons (pv 4) pa_nil))))
    (pss_one (ps_if (PW.pt (pw_and (pt_cmpR (op_neA hr) (pv 3) (pe_lst pa_nil) (nomark _)) (pw_and1 (pt_cmpR (op_eqA hr) (pe_ix ix_seq (pe_ix ix_seq (pv 3) (pe_un un_neg pe_int) (fun _ _ => rfl)) pe_int (fun _ _ => rfl)) (pv 6) (nomark _)))))
    (pss_one (ps_asg (pe_tup (pa_cons (pe_op op_sub (pe_op op_addA (pe_ix ix_seq (pe_ix ix_seq (pv 3) (pe_un un_neg pe_int) (fun _ _ => rfl)) pe_int (fun _ _ => rfl)) (pv 5)) (pv 4)) (pa_cons (pv 6) pa_nil))) (pg_sub (pv 3) (pe_un un_neg pe_int) set_list)))
    (pss_one (ps_expr (pe_bm PySem.F.plainAttrs_list PySem.F.slot_list_append PySem.F.type_list_append mt_append (pv 3) (pa_cons (pe_tup (pa_cons (pe_op op_sub (pv 5) (pv 4)) (pa_cons (pv 6) pa_nil))) pa_nil))))))))
    (pss_one (ps_ret (pv 3)))))))), ?_⟩
  try simp only [cxOf_K, cxOf_K', cxOf_mg, cxOf_mg']
  unfold sp_stretches at h
  split at h
  case h_2 => exact h.elim
  rename_i a
  rw [show L2.start ["turns", "borders", "turn", "found", "begin", "end", "here"] [V.ref a] = [some (V.ref a), none, none, none, none, none, none] from rfl]
  obtain ⟨us, ts, hT, q⟩ := h
  have hul := Paired.length hT.p
  have h24 := hT.len
  walk_at "sts"
  walk_at "nw"
  rename_i pb hpb H1 s1 e1
  walk_at "sts"
  refine L_rl (.of (s1 _ _ hT.l)) ?_
  refine f_it walk_list (fun i σ' H' => ∃ v2 : Option V, σ' = [some (.ref a), some (.ref pb), v2, none, none, none, none] ∧ Same H H' ∧ H' pb = some (.lst ((bordL (ts.take i)).map V.int))) ⟨_, rfl, s1, e1⟩ (fun _ _ _ _ ⟨_, _, s, _⟩ => .of (s _ _ hT.l)) ?_ ?_
  · rintro i x1 σ' H2 H2' hi ⟨v2, rfl, s2, e2⟩ ⟨rfl, hx1⟩
    obtain ⟨t, ht, tx, dx, rfl, htx⟩ := paired_at hT.p hx1
    obtain ⟨o1, o2, o3, o4⟩ := hT.ok t (List.mem_of_getElem? ht)
    have htx2 := s2 _ _ htx
    walk_at "sts"
    refine L_tyL (.of e2) ?_
    walk_at "sts"
    walk_at "fd"
    walk_at "sts"
    walk_at "fd"
    walk_at "sts"
    walk_at "fd"
    walk_at "sts"
    refine L_I (by decide) ?_
    walk_at "sts"
    walk_at "nw"
    rename_i p3 hp3 H3 s3 e3
    have hbl := bord_len (ts.take i)
    rw [List.length_take] at hbl
    refine ⟨pb, p3, _, _, rfl, rfl, s3 _ _ e2, e3, sz_dec (by rw [List.length_map, hbl, List.length_cons, List.length_cons, List.length_nil]; omega), ?_⟩
    walk_at "sts"
    refine ⟨_, rfl, same_mut (s2.trans s3) hpb, ?_⟩
    rw [upd_same, bord_take ht, List.map_append]
    rfl
  rintro σ' H2 ⟨v2, rfl, s2, e2⟩
  rw [hul, List.take_of_length_le (Nat.le_refl _)] at e2
  have hbl := bord_len ts
  have hbb := bord_b hT.ok
  walk_at "sts"
  refine ⟨pb, bordL ts, rfl, .of e2, by omega, fun ps n hps hn => ?_⟩
  generalize hg3 : upd H2 ps (SetO _ ps _ _) = H3
  have s3 := same_newE hg3 hps
  have e3 := upd_at hg3
  clear hg3
  walk_at "sts"
  refine ⟨ps, _, n, rfl, e3, by omega, fun bs p4 hpw hmem hbsl hp4 => ?_⟩
  generalize hg4 : upd H3 p4 (.lst (bs.map V.int)) = H4
  have s4 := same_newE hg4 hp4
  have e4 := upd_at hg4
  clear hg4
  replace hmem : ∀ k : Int, k ∈ bs ↔ k ∈ bordL ts := fun k => (hmem k).trans (by simp)
  have hb0 : bs[0]? = some 0 := by
    have h0 : (0 : Int) ∈ bs := (hmem 0).mpr (List.mem_cons_self ..)
    cases bs with
    | nil => cases h0
    | cons b r =>
      rcases List.mem_cons.mp h0 with e | e
      · rw [← e]; rfl
      · have h1 := (List.pairwise_cons.mp hpw).1 0 e
        have h2 := (hbb b ((hmem b).mp (List.mem_cons_self ..))).1
        omega
  walk_at "sts"
  walk_at "nw"
  rename_i pf hpf H5 s5 e5
  walk_at "sts"
  refine L_slL (.of (s5 _ _ e4)) ?_
  walk_at "nwp"
  rename_i p6 hp6 H6 s6 e6
  rw [cutV_map, show (1 : Int) = ((1 : Nat) : Int) from rfl, cutG_drop] at e6
  walk_at "sts"
  walk_at "nw"
  rename_i p7 hp7 H7 s7 e7
  refine L_addL (s7 _ _ e6) e7 (sz_dec (by rw [List.length_map, List.length_drop, List.length_singleton]; omega)) ?_
  walk_at "nwp"
  rename_i p8 hp8 H8 s8 e8
  replace e8 : H8 p8 = some (.lst ((bs.drop 1 ++ [1000]).map V.int)) := by rw [List.map_append]; exact e8
  have s58 := s6.trans (s7.trans s8)
  have s02 := s2
  have s08 : Same H H8 := s2.trans (s3.trans (s4.trans (s5.trans s58)))
  have e48 := (s5.trans s58) _ _ e4
  have e58 := s58 _ _ e5
  have hpf0 : H pf = none := (s2.trans (s3.trans s4)).free hpf
  have n4f : p4 ≠ pf := fun z => by rw [z, hpf] at e4; cases e4
  have n8f : p8 ≠ pf := ne_new hp8 ⟨_, (s6.trans s7) _ _ e5⟩
  refine L_rz (.of e48) (.of e8) ?_
  have nxd : ∀ i : Nat, i < bs.length → (bs.drop 1 ++ [1000])[i]? = some ((bs ++ [1000]).getD (i + 1) 0) := fun i hi => by
    rw [List.getD_eq_getElem?_getD]
    by_cases c : i + 1 < bs.length
    · rw [List.getElem?_append_left (by rw [List.length_drop]; omega), List.getElem?_drop, List.getElem?_append_left c, Nat.add_comm 1 i, List.getElem?_eq_getElem c]
      rfl
    · rw [List.getElem?_append_right (by rw [List.length_drop]; omega), List.getElem?_append_right (by omega), List.length_drop, show i - (bs.length - 1) = 0 by omega, show i + 1 - bs.length = 0 by omega]
      rfl
  refine f_it (walk_zip (n := bs.length) (by simp; omega)) (fun i σ' H' => ∃ (G : List (Int × List Int)) (vs : List V) (v4 v5 v6 : Option V), σ' = [some (.ref a), some (.ref p4), v2, some (.ref pf), v4, v5, v6] ∧ Same H H' ∧ H' p4 = some (.lst (bs.map V.int)) ∧ H' p8 = some (.lst ((bs.drop 1 ++ [1000]).map V.int)) ∧ H' pf = some (.lst vs) ∧ DpAll K (rs (fun x => x ≠ pf ∧ H x = none) H') vs (G.map gD) ∧ (∀ k, cntS G k = nbel ts k ((bs ++ [1000]).getD i 0)) ∧ (∀ g ∈ G, g.2.length ≤ ts.length) ∧ G.length ≤ i) ⟨[], [], _, _, _, rfl, s08, e48, e8, e58, .nil, fun k => ?_, (fun g hg => nomatch hg), Nat.le_refl _⟩ (fun _ _ _ _ ⟨_, _, _, _, _, _, _, h1, h2, _⟩ => ⟨.of h1, .of h2⟩) ?_ ?_
  · have h0 : (bs ++ [1000]).getD 0 0 = 0 := by
      rw [List.getD_eq_getElem?_getD, List.getElem?_append_left (List.getElem?_eq_some_iff.mp hb0).1, hb0]
      rfl
    rw [h0]
    rfl
  · rintro i x1 σ' H9 H9' hi ⟨G, vs, v4, v5, v6, rfl, s9, e49, e89, ef9, hA, hc, hgl, hGl⟩ ⟨T1, b0, e0, rfl, hT1, rfl, hbv, hev⟩
    obtain ⟨b, hb⟩ : ∃ b, bs[i]? = some b := ⟨_, List.getElem?_eq_getElem hi⟩
    have hbm := hbb b ((hmem b).mp (List.mem_of_getElem? hb))
    replace hbv : (bs.map V.int)[i]? = some b0 := hbv
    rw [List.getElem?_map, hb] at hbv
    cases hbv
    replace hev : ((bs.drop 1 ++ [1000]).map V.int)[i]? = some e0 := hev
    rw [List.getElem?_map, nxd i hi] at hev
    cases hev
    have hnb : (bs ++ [1000]).getD i 0 = b := by
      rw [List.getD_eq_getElem?_getD, List.getElem?_append_left hi, hb]
      rfl
    obtain ⟨e, he⟩ : ∃ e, e = (bs ++ [1000]).getD (i + 1) 0 := ⟨_, rfl⟩
    have hno := nx_no hpw hb
    rw [← he] at hno ⊢
    have heb : b ≤ e ∧ e ≤ 1000 := by
      by_cases c : i + 1 < bs.length
      · have e1 : e = bs[i + 1] := by
          rw [he, List.getD_eq_getElem?_getD, List.getElem?_append_left c, List.getElem?_eq_getElem c]
          rfl
        have e2 : b = bs[i] := by
          obtain ⟨_, z⟩ := List.getElem?_eq_some_iff.mp hb
          exact z.symm
        have := List.pairwise_iff_getElem.mp hpw i (i + 1) hi c (Nat.lt_succ_self i)
        have := (hbb e ((hmem e).mp (by rw [e1]; exact List.getElem_mem c))).2
        omega
      · have e1 : e = 1000 := by
          rw [he, List.getD_eq_getElem?_getD, List.getElem?_append_right (by omega), show i + 1 - bs.length = 0 by omega]
          rfl
        omega
    have hstep := fun k => nbel_step hT.ok hbm.1 heb.1 heb.2 (fun x hx => hno x ((hmem x).mpr hx)) k
    refine L_gTup (.of upd_same) rfl ?_
    have s9b : Same H9 (upd H9 T1 (.tup [V.int b, V.int e])) := same_new hT1
    generalize upd H9 T1 (.tup [V.int b, V.int e]) = H10 at s9b
    walk_at "sts"
    refine .inr ⟨us, ts, b, hT.same (s9.trans s9b), rfl, hbm.1, hbm.2, fun ph H11 hph s11 eh => ?_⟩
    have s911 := s9b.trans s11
    have hln : (stayL ts b).length ≤ ts.length := stayL_len ts b
    have nph : ph ≠ pf ∧ H ph = none := ⟨ne_new hph ⟨_, s9b _ _ ef9⟩, (s9.trans s9b).free hph⟩
    have hvl := hA.len
    rw [List.length_map] at hvl
    -- what stands behind either way
    have fin : ∀ (vs' : List V) (H12 : Hp) (σ7 : L2.St), Same H11 H12 → DpAll K (rs (fun x => x ≠ pf ∧ H x = none) (upd H12 pf (.lst vs'))) vs' ((addS G (e - b) (stayL ts b)).map gD) → (σ7 = [some (.ref a), some (.ref p4), v2, some (.ref pf), some (.int b), some (.int e), some (.ref ph)]) →
        ∃ (G' : List (Int × List Int)) (vs : List V) (v4 v5 v6 : Option V), σ7 = [some (.ref a), some (.ref p4), v2, some (.ref pf), v4, v5, v6] ∧ Same H (upd H12 pf (.lst vs')) ∧ (upd H12 pf (.lst vs')) p4 = some (.lst (bs.map V.int)) ∧ (upd H12 pf (.lst vs')) p8 = some (.lst ((bs.drop 1 ++ [1000]).map V.int)) ∧ (upd H12 pf (.lst vs')) pf = some (.lst vs) ∧ DpAll K (rs (fun x => x ≠ pf ∧ H x = none) (upd H12 pf (.lst vs'))) vs (G'.map gD) ∧ (∀ k, cntS G' k = nbel ts k e) ∧ (∀ g ∈ G', g.2.length ≤ ts.length) ∧ G'.length ≤ i + 1 := fun vs' H12 σ7 s12 hA' hσ => by
      subst hσ
      have sx := s911.trans s12
      refine ⟨_, vs', _, _, _, rfl, same_mut (s9.trans sx) hpf0, by rw [upd_ne n4f]; exact sx _ _ e49, by rw [upd_ne n8f]; exact sx _ _ e89, upd_same, hA', fun k => ?_, addS_mem (P := fun h => h.length ≤ ts.length) hgl hln, Nat.le_trans (addS_len ..) (by omega)⟩
      rw [cntS_add, hc k, hnb, hstep k]
    walk_at "sts"
    walk_at "nw"
    rename_i pn hpn H12 s12 en
    have hshG : SeqAt.shaped (.list (G.map gD)) = true := (shp_lst (n := 2) (shp_map fun g _ => shp_tup (shp_cons shp_int (shp_cons shp_ints shp_nil)))).ok
    have s912 := s911.trans s12
    refine L_neD ((Dp.lst (.of ef9) (hA.same rs_sub)).same s912) (.lst (.of en) .nil) hshG (shp_lst (n := 0) shp_nil).ok ?_
    rw [eqv_nil, List.isEmpty_map]
    have ef12 := s912 _ _ ef9
    have eh12 := s12 _ _ eh
    rcases List.eq_nil_or_concat G with rfl | ⟨G0, ⟨gm, gh⟩, rfl⟩
    · cases hA
      rw [show (!([] : List (Int × List Int)).isEmpty) = false from rfl]
      walk_at "sts"
      refine L_tyL (.of ef12) ?_
      walk_at "sts"
      walk_at "nw"
      rename_i pt hpt H13 s13 et
      have ef13 := s13 _ _ ef12
      have npt : pt ≠ pf ∧ H pt = none := ⟨ne_new hpt ⟨_, ef12⟩, (s9.trans s912).free hpt⟩
      walk_at "sts"
      refine L_app ef13 (sz_lt (by decide)) ?_
      exact fin _ H13 _ (s12.trans s13) (dpP_grow (fun z => z.1 rfl) (us := []) (ds := []) .nil (.refl _) (dpP_tup et npt (.cons (.int _) (.cons (dpP_lst (s13 _ _ eh12) nph (dp_ints _)) .nil)))) rfl
    · rw [List.concat_eq_append] at *
      rcases List.eq_nil_or_concat vs with rfl | ⟨vs0, v, rfl⟩
      · simp at hvl
      rw [List.concat_eq_append] at *
      have hA2 := hA
      rw [List.map_append] at hA2
      obtain ⟨hA0, hA1⟩ := dpa_app hA2 (by simpa using hvl)
      have hA1' := hA1.same (rs_sub.trans s912)
      cases hA1' with | cons hv hn
      cases hv with | tup htl hta
      cases hta with | cons hv1 hta
      cases hta with | cons hv2 hta
      cases hv1
      rw [show (!(G0 ++ [(gm, gh)]).isEmpty) = true by simp]
      walk_at "sts"
      refine L_ixL (.of ef12) (atI_last vs0 _) ?_
      walk_at "sts"
      cases hta
      refine L_ixT htl (atI_int (by decide) rfl) ?_
      walk_at "sts"
      refine L_eqD hv2 (.lst (.of eh12) (dp_ints _)) (shp_ints (n := 0)).ok (shp_ints (n := 0)).ok ?_
      rw [eqv_intL]
      walk_at "sts"
      refine L_b (fun c => ?_) (fun c => ?_)
      · have c' := of_decide_eq_true c
        walk_at "sts"
        refine L_ixL (.of ef12) (atI_last vs0 _) ?_
        walk_at "sts"
        refine L_ixT htl (atI_int (by decide) rfl) ?_
        walk_at "sts"
        walk_at "nw"
        rename_i pt hpt H13 s13 et
        have ef13 := s13 _ _ ef12
        have npt : pt ≠ pf ∧ H pt = none := ⟨ne_new hpt ⟨_, ef12⟩, (s9.trans s912).free hpt⟩
        walk_at "sts"
        refine L_setL ef13 (j := vs0.length) (by unfold L2.ixN; rw [List.length_append, List.length_singleton]; simp; omega) ?_
        rw [set_lastV]
        refine fin _ H13 _ (s12.trans s13) ?_ rfl
        rw [addS_app, if_pos c', List.map_append]
        refine dpP_grow (fun z => z.1 rfl) (hA0.same (rs_same fun a u na ha => ⟨na, s912 _ _ ha⟩)) s13 ?_
        rw [show gm + (e - b) = gm + e - b by omega]
        exact dpP_tup et npt (.cons (.int _) (.cons (dpP_lst (s13 _ _ eh12) nph (dp_ints _)) .nil))
      · walk_at "sts"
        refine L_tyL (.of ef12) ?_
        walk_at "sts"
        walk_at "nw"
        rename_i pt hpt H13 s13 et
        have ef13 := s13 _ _ ef12
        have npt : pt ≠ pf ∧ H pt = none := ⟨ne_new hpt ⟨_, ef12⟩, (s9.trans s912).free hpt⟩
        walk_at "sts"
        refine L_app ef13 (sz_lt (by rw [hvl]; omega)) ?_
        refine fin _ H13 _ (s12.trans s13) ?_ rfl
        rw [addS_app, if_neg (of_decide_eq_false c), List.map_append]
        exact dpP_grow (fun z => z.1 rfl) hA ((s911.trans s12).trans s13) (dpP_tup et npt (.cons (.int _) (.cons (dpP_lst (s13 _ _ eh12) nph (dp_ints _)) .nil)))
  · rintro σ' H9 ⟨G, vs, v4, v5, v6, rfl, s9, e49, e89, ef9, hA, hc, hgl, hGl⟩
    have h1000 : (bs ++ [1000]).getD bs.length 0 = 1000 := by
      rw [List.getD_eq_getElem?_getD, List.getElem?_append_right (Nat.le_refl _), Nat.sub_self]
      rfl
    rw [h1000] at hc
    walk_at "sts"
    exact q pf vs G H9 hpf0 s9 ef9 hA hc hgl (by omega)
def sp_counts (K : PySem.W.Frag) (mg : Str → Option Value) : Sp := fun vs H Q _ => match vs with | [.ref a] => ∃ us ts, TuL mg H a us ts ∧ NewL H ((cntL ts).map V.int) Q | _ => False
theorem c_counts (T : Txt K mg) : Cal P w K mg base 6 "counts" (sp_counts K mg) := by
  refine T.d_counts.cal (k := 5) sc_counts (by intro vs H Q E h; unfold sp_counts at h; split at h <;> first | rfl | exact h.elim) fun f cdv A outer s H vs Q E hr h => ?_
  refine ⟨_, (pss_cons (ps_set (i := 1) sc_counts.nd rfl (.inl rfl) (pe_op op_mulA (pe_lst (pa_cons pe_int pa_nil)) (pe_op op_addA (pe_callB call_lenA (by rfl) T.n_len (by decide +kernel) (pa_cons (pv 0) pa_nil)) pe_int)))
    (pss_cons (ps_for PassesOwn.never rfl (pi_list (pe_c (c_stretches T) hr (by decide) (by rfl) (pa_cons (pv 0) pa_nil))) (pg_tup rfl (pgs_cons (pg_name (i := 2) sc_counts.nd rfl (.inl rfl)) (pgs_cons (pg_name (i := 3) sc_counts.nd rfl (.inl rfl)) pgs_nil)))
    (pss_one (ps_augS (pv 1) (pe_callB call_lenA (by rfl) T.n_len (by decide +kernel) (pa_cons (pv 3) pa_nil)) pget_list (pv 2) ip_add set_list)))
    (pss_one (ps_ret (pv 1))))), ?_⟩
  try simp only [cxOf_K, cxOf_K', cxOf_mg, cxOf_mg']
  unfold sp_counts at h
  split at h
  case h_2 => exact h.elim
  rename_i a
  rw [show L2.start ["turns", "found", "many", "here"] [V.ref a] = [some (V.ref a), none, none, none] from rfl]
  obtain ⟨us, ts, hT, q⟩ := h
  have hul := Paired.length hT.p
  have h24 := hT.len
  walk_at "sts"
  walk_at "nw"
  rename_i p1 hp1 H1 s1 e1
  refine L_op ?_
  walk_at "sts"
  refine L_lenL (.of (s1 _ _ hT.l)) ?_
  walk_at "sts"
  refine L_repL e1 (by omega) (by omega) (sz_dec (by rw [List.length_singleton]; omega)) fun p2 hp2 => ?_
  generalize hg2 : upd H1 p2 _ = H2
  have s2 := same_newE hg2 hp2
  have e2 := upd_at hg2
  clear hg2
  rw [show ((us.length : Int) + 1).toNat = ts.length + 1 by omega, rep1] at e2
  have hp20 : H p2 = none := s1.free hp2
  walk_at "sts"
  refine ⟨us, ts, hT.same (s1.trans s2), fun pS vs G H3 hpS s3 eS hA hc hgl hGl => ?_⟩
  have e23 := s3 _ _ e2
  have n2S : p2 ≠ pS := fun z => by rw [z, hpS] at e2; cases e2
  have hvl := hA.len
  rw [List.length_map] at hvl
  refine L_rl (.of eS) ?_
  refine f_it walk_list (fun i σ' H' => ∃ (v2 v3 : Option V), σ' = [some (.ref a), some (.ref p2), v2, v3] ∧ Same H H' ∧ H' pS = some (.lst vs) ∧ DpAll K (rs (fun x => x ≠ pS ∧ H2 x = none) H') vs (G.map gD) ∧ H' p2 = some (.lst (((List.range (ts.length + 1)).map fun k => cntS (G.take i) k).map V.int))) ⟨_, _, rfl, s1.trans (s2.trans s3), eS, hA, ?_⟩ (fun _ _ _ _ ⟨_, _, _, _, h1, _⟩ => .of h1) ?_ ?_
  · rw [e23]
    congr 3
    refine List.ext_getElem (by simp) fun k h1 h2 => ?_
    simp [cntS]
  · rintro i x1 σ' H4 H4' hi ⟨v2, v3, rfl, s4, e4S, hA4, e42⟩ ⟨rfl, hx1⟩
    obtain ⟨g, t, ph, hg, rfl, htt, hph⟩ := hitG hA4 hx1
    replace htt := rs_sub.seqT htt
    replace hph := rs_sub.seq hph
    have hgl' := hgl g (List.mem_of_getElem? hg)
    refine L_gTup htt rfl ?_
    walk_at "sts"
    refine L_lenL hph ?_
    walk_at "sts"
    refine L_getL (v := .int (cntS (G.take i) g.2.length)) (.of e42) (by omega) (by rw [List.length_map, Int.toNat_natCast, List.getElem?_map, List.getElem?_map, List.getElem?_range (by omega)]; rfl) ?_
    walk_at "sts"
    refine L_setL (j := g.2.length) e42 (by rw [ixN_of (by omega) (by simp; omega)]; simp) ?_
    refine ⟨_, _, rfl, same_mut s4 hp20, by rw [upd_ne (Ne.symm n2S)]; exact e4S, hA4.same (rs_same fun a u na ha => ⟨na, by rw [upd_ne fun z : a = p2 => (by rw [z] at na; rw [e2] at na; cases na.2)]; exact ha⟩), ?_⟩
    rw [upd_same]
    congr 2
    refine List.ext_getElem? fun k => ?_
    rw [List.getElem?_set]
    by_cases c : g.2.length = k
    · subst c
      rw [if_pos rfl, if_pos (by simp; omega), List.getElem?_map, List.getElem?_map, List.getElem?_range (by omega)]
      simp only [Option.map_some]
      rw [cntS_take hg, if_pos rfl]
    · rw [if_neg c, List.getElem?_map, List.getElem?_map, List.getElem?_map, List.getElem?_map]
      by_cases ck : k < ts.length + 1
      · rw [List.getElem?_range ck]
        simp only [Option.map_some]
        rw [cntS_take hg, if_neg c, Int.add_zero]
      · rw [List.getElem?_eq_none (by simpa using ck)]
        rfl
  · rintro σ' H4 ⟨v2, v3, rfl, s4, e4S, hA4, e42⟩
    rw [hvl, List.take_of_length_le (Nat.le_refl _)] at e42
    walk_at "sts"
    refine q p2 H4 hp20 s4 ?_
    rw [e42]
    unfold cntL
    congr 3
    exact List.map_congr_left fun k _ => hc k
/-! ### the law's marks -/
/-- the marks of some turns -/
structure MkL (K : PySem.W.Frag) (H : Hp) (b : Addr) (ms : List V) (ts : List (Int × Int)) : Prop where
  l : H b = some (.lst ms)
  p : Paired (fun v (t : Int × Int) => ∃ a, v = .ref a ∧ SqL K H a (((List.range 1000).map fun j : Nat => mk t.1 t.2 (j : Int)).map V.int)) ms ts
theorem MkL.same {K : PySem.W.Frag} {H H' : Hp} {b : Addr} {ms : List V} {ts : List (Int × Int)} (h : MkL K H b ms ts) (s : Same H H') : MkL K H' b ms ts :=
  ⟨s _ _ h.l, paired_imp2 (fun _ _ ⟨a, h1, h2⟩ => ⟨a, h1, s.seq h2⟩) h.p⟩
theorem mk_isin (s m n : Int) : mk s m n = if isin s m n = true then 1 else 0 := by
  unfold mk isin
  by_cases h : (n - s) % 1000 < m <;> simp [h]
theorem filt_len (ts : List (Int × Int)) (P : Int × Int → Bool) : ((List.range ts.length).filterMap fun i => if P (ts.getD i (0, 0)) = true then some (i : Int) else none).length = (ts.filter P).length := by
  have key : ∀ n, n ≤ ts.length → ((List.range n).filterMap fun i => if P (ts.getD i (0, 0)) = true then some (i : Int) else none).length = ((ts.take n).filter P).length := by
    intro n
    induction n with
    | zero => intro _; rfl
    | succ n ih =>
      intro hn
      have h : ts[n]? = some ts[n] := List.getElem?_eq_getElem (by omega)
      have hd : ts.getD n (0, 0) = ts[n] := by rw [List.getD_eq_getElem?_getD, h]; rfl
      rw [List.range_succ, List.filterMap_append, List.length_append, ih (by omega), List.take_succ, h, List.filter_append, List.length_append, List.filterMap_cons, List.filterMap_nil, hd]
      simp only [Option.toList_some, List.filter_cons, List.filter_nil]
      cases P ts[n] <;> rfl
  rw [key _ (Nat.le_refl _), List.take_of_length_le (Nat.le_refl _)]
theorem marks_sum (ts : List (Int × Int)) (n : Int) : (ts.map fun t => mk t.1 t.2 n).sum = ((stayL ts n).length : Int) := by
  unfold stayL
  rw [filt_len ts fun t => isin t.1 t.2 n]
  induction ts with
  | nil => rfl
  | cons t ts ih =>
    rw [List.map_cons, List.sum_cons, ih, List.filter_cons, mk_isin]
    split <;> simp <;> omega
theorem stayL_mk (ts : List (Int × Int)) (n : Int) : stayL ts n = (List.range ts.length).filterMap fun i => if mk (ts.getD i (0, 0)).1 (ts.getD i (0, 0)).2 n = 1 then some (i : Int) else none := by
  unfold stayL
  refine fm_congr fun i _ => ?_
  rw [mk_isin]
  split <;> simp
theorem one_sum (j : Nat) : ∀ n : Nat, j < n → ((List.range n).map fun k => if j = k then (1 : Int) else 0).sum = 1
  | 0, h => by omega
  | n + 1, h => by
    rw [List.range_succ, List.map_append, List.sum_append]
    by_cases c : j = n
    · subst c
      have : ∀ m, m ≤ j → ((List.range m).map fun k => if j = k then (1 : Int) else 0).sum = 0 := by
        intro m
        induction m with
        | zero => intro _; rfl
        | succ m ih =>
          intro hm
          rw [List.range_succ, List.map_append, List.sum_append, ih (by omega)]
          simp; omega
      rw [this j (Nat.le_refl _)]
      simp
    · rw [one_sum j n (by omega)]
      simp [c]
theorem add_sum {f g : Nat → Int} : ∀ l : List Nat, (l.map fun k => f k + g k).sum = (l.map f).sum + (l.map g).sum
  | [] => rfl
  | a :: l => by simp only [List.map_cons, List.sum_cons, add_sum l]; omega
theorem cnt_sum (ts : List (Int × Int)) : (cntL ts).sum = 1000 := by
  have key : ∀ t : Nat, ((List.range (ts.length + 1)).map fun k => nbel ts k (t : Int)).sum = t := by
    intro t
    induction t with
    | zero =>
      have : ((List.range (ts.length + 1)).map fun k => nbel ts k ((0 : Nat) : Int)) = (List.range (ts.length + 1)).map fun _ => (0 : Int) := rfl
      rw [this]
      generalize List.range (ts.length + 1) = l
      induction l with
      | nil => rfl
      | cons a l ih => rw [List.map_cons, List.sum_cons, ih]; rfl
    | succ t ih =>
      have : ((List.range (ts.length + 1)).map fun k => nbel ts k ((t + 1 : Nat) : Int)) = (List.range (ts.length + 1)).map fun k => nbel ts k (t : Int) + if (stayL ts (t : Int)).length = k then 1 else 0 := rfl
      rw [this, add_sum, ih, one_sum _ _ (by have := stayL_len ts (t : Int); omega)]
      omega
  exact key 1000
theorem fm_getD {α β : Type} [Inhabited α] {d : α} : ∀ (l : List α) (g : α → β), ((List.range l.length).filterMap fun j => some (g (l.getD j d))) = l.map g := fun l g => by
  rw [← fm_get g l]
  refine fm_congr fun i hi => ?_
  rw [List.getD_eq_getElem?_getD, List.getElem?_eq_getElem (List.mem_range.mp hi)]
  rfl
def sp__law_counted (K : PySem.W.Frag) (mg : Str → Option Value) : Sp := fun vs H Q _ => match vs with | [.ref a, .ref b] => ∃ us ms ts, TuL mg H a us ts ∧ MkL K H b ms ts ∧ ∀ H', Same H H' → Q (.bl true) H' | _ => False
theorem q__law_counted {H : Hp} {Q : VK} {E : XK} {a : Addr} {b : Addr} (q : ∃ us ms ts, TuL mg H a us ts ∧ MkL K H b ms ts ∧ ∀ H', Same H H' → Q (.bl true) H') : sp__law_counted K mg [.ref a, .ref b] H Q E := q
local macro_rules | `(tactic| walk_at "op") => `(tactic| with_reducible refine q__law_counted ?_)
theorem c__law_counted (T : Txt K mg) : Cal P w K mg base 7 "_law_counted" (sp__law_counted K mg) := by
  refine T.d__law_counted.cal (k := 6) sc__law_counted (by intro vs H Q E h; unfold sp__law_counted at h; split at h <;> first | rfl | exact h.elim) fun f cdv A outer s H vs Q E hr h => ?_
  refine ⟨_, (pss_cons (ps_set (i := 2) sc__law_counted.nd rfl (.inl rfl) (pe_op op_mulA (pe_lst (pa_cons pe_int pa_nil)) (pe_op op_addA (pe_callB call_lenA (by rfl) T.n_len (by decide +kernel) (pa_cons (pv 0) pa_nil)) pe_int)))
    (pss_cons (ps_for PassesOwn.never rfl (pi_range1 (by rfl) T.n_range (pa_cons pe_int pa_nil)) (pg_name (i := 3) sc__law_counted.nd rfl (.inr rfl))
    (pss_cons (ps_set (i := 4) sc__law_counted.nd rfl (.inl rfl) (pe_callB (cr_sum rfl) (by rfl) T.n_sum (by decide +kernel) (pa_cons (pe_lc (own := [("_law_row", 7)]) (g := (gName 7)) (tt := tYes) (te := (tOp (rIx K) (tVar 7) (tVar 3))) rfl sc__law_counted.nd (pi_list (pv 1)) (blkOk_by (N := ["_law_turns", "_law_marks_here", "_law_due", "_law_number", "_law_many", "_law_handed", "_law_found", "_law_row"]) (sc := defScope s__law_counted) (by decide +kernel)) (fun _ _ _ _ _ => by exact (pg_name (i := 7) sc__law_counted.nd rfl (.inl rfl))) (fun _ _ _ _ _ => pts_nil) (fun _ _ _ _ _ => by exact (pe_ix ix_seq (pv 7) (pv 3) (fun _ _ => rfl)))) pa_nil)))
    (pss_one (ps_asg (pe_op op_addA (pe_ix ix_seq (pv 2) (pv 4) (fun _ _ => rfl)) pe_int) (pg_sub (pv 2) (pv 4) set_list)))))
    (pss_cons (ps_set (i := 5) sc__law_counted.nd rfl (.inl rfl) (pe_callTy call_list1A (by rfl) T.n_list (by decide +kernel) (pa_cons (pv 0) pa_nil)))
    (pss_cons (ps_set (i := 6) sc__law_counted.nd rfl (.inl rfl) (pe_c (c_counts T) hr (by decide) (by rfl) (pa_cons (pv 5) pa_nil)))
    (pss_cons (ps_if (PW.pt (pw_or (pt_cmpR (op_neA hr) (pv 6) (pv 2) (nomark _)) (pw_or (pt_cmpR (op_neA hr) (pe_callB (cr_sum rfl) (by rfl) T.n_sum (by decide +kernel) (pa_cons (pv 2) pa_nil)) pe_int (nomark _)) (pw_or1 (pt_cmpR (op_neRefs (Nat.lt_of_succ_lt (hu_of hr))) (pv 5) (pv 0) (nomark _))))))
    (pss_one (ps_ret pe_bl))
    pss_nil)
    (pss_cons (ps_expr (pe_bm0 PySem.F.plainAttrs_list PySem.F.slot_list_clear PySem.F.type_list_clear mt_clear (pv 6)))
    (pss_one (ps_ret (pe_cmpR (op_eqA hr) (pe_c (c_counts T) hr (by decide) (by rfl) (pa_cons (pv 0) pa_nil)) (pv 2) (nomark _)))))))))), ?_⟩
  try simp only [cxOf_K, cxOf_K', cxOf_mg, cxOf_mg']
  unfold sp__law_counted at h
  split at h
  case h_2 => exact h.elim
  rename_i a b
  rw [show L2.start ["_law_turns", "_law_marks_here", "_law_due", "_law_number", "_law_many", "_law_handed", "_law_found", "_law_row"] [V.ref a, V.ref b] = [some (V.ref a), some (V.ref b), none, none, none, none, none, none] from rfl]
  obtain ⟨us, ms, ts, hT, hM, q⟩ := h
  have hul := Paired.length hT.p
  have hml := Paired.length hM.p
  have h24 := hT.len
  walk_at "sts"
  walk_at "nw"
  rename_i p1 hp1 H1 s1 e1
  refine L_op ?_
  walk_at "sts"
  refine L_lenL (.of (s1 _ _ hT.l)) ?_
  walk_at "sts"
  refine L_repL e1 (by omega) (by omega) (sz_dec (by rw [List.length_singleton]; omega)) fun p2 hp2 => ?_
  generalize hg2 : upd H1 p2 _ = H2
  have s2 := same_newE hg2 hp2
  have e2 := upd_at hg2
  clear hg2
  rw [show ((us.length : Int) + 1).toNat = ts.length + 1 by omega, rep1] at e2
  have hp20 : H p2 = none := s1.free hp2
  walk_at "sts"
  refine L_r1 (by omega) (by omega) ?_
  refine f_range (fun i σ' H' => ∃ (v3 v4 : Option V), σ' = [some (.ref a), some (.ref b), some (.ref p2), v3, v4, none, none, none] ∧ Same H H' ∧ H' p2 = some (.lst (((List.range (ts.length + 1)).map fun k => nbel ts k (i : Int)).map V.int))) ⟨_, _, rfl, s1.trans s2, ?_⟩ ?_ ?_
  · rw [e2]
    congr 3
    refine List.ext_getElem (by simp) fun k h1 h2 => ?_
    simp [nbel, sumR]
  · rintro i σ' H3 hi ⟨v3, v4, rfl, s3, e3⟩
    have hM3 := hM.same s3
    rw [Int.zero_add]
    walk_at "sts"
    refine L_rl (.of hM3.l) ?_
    refine lc_fm walk_list (fun j => (some (mk (ts.getD j (0, 0)).1 (ts.getD j (0, 0)).2 (i : Int))).map V.int) (by omega) (fun H' e => .of (e _ _ hM3.l)) ?_ ?_
    · rintro j x1 H4 H4' R R' hj sm ⟨rfl, hx1⟩ r1 r2
      obtain ⟨t, ht, q1, rfl, hq1⟩ := paired_at hM3.p hx1
      have hd : ts.getD j (0, 0) = t := by rw [List.getD_eq_getElem?_getD, ht]; rfl
      walk_at "sts"
      refine ⟨rfl, ?_⟩
      walk_at "sts"
      have hq1x := sm.seq hq1
      refine L_ixL hq1x (atI_int (v := .int (mk t.1 t.2 (i : Int))) (by omega) (by rw [Int.toNat_natCast, List.getElem?_map, List.getElem?_map, List.getElem?_range (by omega)]; rfl)) ?_
      exact r1 _ _ (by rw [hd]; rfl) (.refl _)
    · rw [fm_int, hml]
      intro p5 H5 hp5 s5 e5
      rw [show ((List.range ts.length).filterMap fun j => some (mk (ts.getD j (0, 0)).1 (ts.getD j (0, 0)).2 (i : Int))) = ts.map fun t => mk t.1 t.2 (i : Int) from fm_getD (d := (0, 0)) ts fun t => mk t.1 t.2 (i : Int)] at e5
      walk_at "sts"
      refine L_sum (.of e5) ?_
      rw [marks_sum]
      have hsl := stayL_len ts (i : Int)
      have e35 := s5 _ _ e3
      walk_at "sts"
      refine L_ixL (.of e35) (atI_int (v := .int (nbel ts (stayL ts (i : Int)).length (i : Int))) (by omega) (by rw [Int.toNat_natCast, List.getElem?_map, List.getElem?_map, List.getElem?_range (by omega)]; rfl)) ?_
      walk_at "sts"
      refine L_setL (j := (stayL ts (i : Int)).length) e35 (by rw [ixN_of (by omega) (by simp; omega)]; simp) ?_
      refine ⟨_, _, rfl, same_mut (s3.trans s5) hp20, ?_⟩
      rw [upd_same]
      congr 2
      refine List.ext_getElem? fun k => ?_
      rw [List.getElem?_set]
      have hstep : ∀ k, nbel ts k ((i + 1 : Nat) : Int) = nbel ts k (i : Int) + if (stayL ts (i : Int)).length = k then 1 else 0 := fun k => rfl
      by_cases c : (stayL ts (i : Int)).length = k
      · subst c
        rw [if_pos rfl, if_pos (by simp; omega), List.getElem?_map, List.getElem?_map, List.getElem?_range (by omega)]
        simp only [Option.map_some]
        rw [hstep, if_pos rfl]
      · rw [if_neg c, List.getElem?_map, List.getElem?_map, List.getElem?_map, List.getElem?_map]
        by_cases ck : k < ts.length + 1
        · rw [List.getElem?_range ck]
          simp only [Option.map_some]
          rw [hstep, if_neg c, Int.add_zero]
        · rw [List.getElem?_eq_none (by simpa using ck)]
          rfl
  rintro σ' H3 ⟨v3, v4, rfl, s3, e3⟩
  replace e3 : H3 p2 = some (.lst ((cntL ts).map V.int)) := e3
  have hT3 := hT.same s3
  walk_at "sts"
  refine L_list1 (.of hT3.l) fun p4 hp4 => ?_
  generalize hg4 : upd H3 p4 _ = H4
  have s4 := same_newE hg4 hp4
  have e4 := upd_at hg4
  clear hg4
  have hT4 := hT3.same s4
  walk_at "sts"
  refine ⟨us, ts, ⟨e4, hT4.p, hT4.ok, hT4.len⟩, fun p5 H5 hp5 s5 e5 => ?_⟩
  walk_at "sts"
  refine L_neR (d := .list ((cntL ts).map .int)) (.lst (.of e5) (dp_ints _)) (.lst (.of ((s4.trans s5) _ _ e3)) (dp_ints _)) (shp_ints (n := 0)).ok ?_
  walk_at "sts"
  refine L_sum (.of ((s4.trans s5) _ _ e3)) ?_
  rw [cnt_sum]
  walk_at "sts"
  rw [show (!decide ((1000 : Int) = 1000)) = false from rfl]
  walk_at "sts"
  obtain ⟨os, hos⟩ := paired_refs hT.p
  refine ⟨p4, a, os, rfl, rfl, .of (by rw [← hos]; exact s5 _ _ e4), .of (by rw [← hos]; exact (s4.trans s5) _ _ hT3.l), ?_⟩
  walk_at "sts"
  refine L_tyL (.of e5) ?_
  walk_at "sts"
  refine L_clear e5 ?_
  have s05 := s3.trans (s4.trans s5)
  have s6 : Same H (upd H5 p5 (.lst [])) := same_mut s05 ((s3.trans s4).free hp5)
  have e36 : H4 p2 = _ := s4 _ _ e3
  have e6 : (upd H5 p5 (.lst [])) p2 = _ := (upd_ne fun z => (by rw [z, hp5] at e36; cases e36)).trans ((s4.trans s5) _ _ e3)
  walk_at "sts"
  refine ⟨us, ts, hT.same s6, fun p7 H7 hp7 s7 e7 => ?_⟩
  walk_at "sts"
  refine L_eqR (d := .list ((cntL ts).map .int)) (.lst (.of e7) (dp_ints _)) (.lst (.of (s7 _ _ e6)) (dp_ints _)) (shp_ints (n := 0)).ok ?_
  exact q _ (s6.trans s7)
def sp__law_stays (K : PySem.W.Frag) (mg : Str → Option Value) : Sp := fun vs H Q _ => match vs with | [.ref a, .ref b, .ref c] => ∃ us ms ts ns, TuL mg H a us ts ∧ MkL K H b ms ts ∧ H c = some (.lst (List.map V.int ns)) ∧ (∀ n ∈ ns, 0 ≤ n ∧ n < 1000) ∧ ∀ H', Same H H' → Q (.bl true) H' | _ => False
theorem q__law_stays {H : Hp} {Q : VK} {E : XK} {a : Addr} {b : Addr} {c : Addr} (q : ∃ us ms ts ns, TuL mg H a us ts ∧ MkL K H b ms ts ∧ H c = some (.lst (List.map V.int ns)) ∧ (∀ n ∈ ns, 0 ≤ n ∧ n < 1000) ∧ ∀ H', Same H H' → Q (.bl true) H') : sp__law_stays K mg [.ref a, .ref b, .ref c] H Q E := q
local macro_rules | `(tactic| walk_at "op") => `(tactic| with_reducible refine q__law_stays ?_)
theorem c__law_stays (T : Txt K mg) : Cal P w K mg base 5 "_law_stays" (sp__law_stays K mg) := by
  refine T.d__law_stays.cal (k := 4) sc__law_stays (by intro vs H Q E h; unfold sp__law_stays at h; split at h <;> first | rfl | exact h.elim) fun f cdv A outer s H vs Q E hr h => ?_
  refine ⟨_, (pss_cons (ps_for PassesOwn.never rfl (pi_list (pv 2)) (pg_name (i := 3) sc__law_stays.nd rfl (.inr rfl))
    (pss_cons (ps_setLc (i := 4) (own := [("_law_k", 6)]) (g := (gName 6)) (tt := (tTest (tOp (aEq K) (tOp (rIx K) (tOp (rIx K) (tVar 1) (tVar 6)) (tVar 3)) (tC (.int 1))))) (te := (tVar 6)) rfl sc__law_stays.nd rfl rfl (sw_true rfl rfl rfl (by decide +kernel)) (pi_range1 (by rfl) T.n_range (pa_cons (pe_callB call_lenA (by rfl) T.n_len (by decide +kernel) (pa_cons (pv 0) pa_nil)) pa_nil)) (blkOk_by (N := ["_law_turns", "_law_marks_here", "_law_numbers_here", "_law_number", "_law_due", "_law_found", "_law_k"]) (sc := defScope s__law_stays) (by decide +kernel)) (fun _ _ _ _ _ => by exact (pg_name (i := 6) sc__law_stays.nd rfl (.inl rfl))) (fun _ _ _ _ _ => by exact pts_one (pt_cmpR (op_eqA hr) (pe_ix ix_seq (pe_ix ix_seq (pv 1) (pv 6) (fun _ _ => rfl)) (pv 3) (fun _ _ => rfl)) pe_int (nomark _))) (fun _ _ _ _ _ => by exact (pv 6)))
    (pss_cons (ps_set (i := 5) sc__law_stays.nd rfl (.inl rfl) (pe_xS (c_stays T) hr (by decide) (by rfl) (fun σ => passN σ) (pa_cons (pv 0) (pa_cons (pv 3) pa_nil))))
    (pss_cons (ps_if (PW.pt (pw_or (pt_not (pt_val (pe_callB call_isi (by rfl) T.n_isinstance (by decide +kernel) (pa_cons (pv 5) (pa_cons (pe_ty "list" (by rfl) T.n_list (by decide +kernel)) pa_nil))))) (pw_or1 (pt_cmpR (op_neA hr) (pv 5) (pv 4) (nomark _)))))
    (pss_one (ps_ret pe_bl))
    pss_nil)
    (pss_cons (ps_expr (pe_bm PySem.F.plainAttrs_list PySem.F.slot_list_append PySem.F.type_list_append mt_append (pv 5) (pa_cons pe_int pa_nil)))
    (pss_one (ps_if (pt_cmpR (op_neA hr) (pe_xS (c_stays T) hr (by decide) (by rfl) (fun σ => passN σ) (pa_cons (pv 0) (pa_cons (pv 3) pa_nil))) (pv 4) (nomark _))
    (pss_one (ps_ret pe_bl))
    pss_nil)))))))
    (pss_one (ps_ret pe_bl))), ?_⟩
  try simp only [cxOf_K, cxOf_K', cxOf_mg, cxOf_mg']
  unfold sp__law_stays at h
  split at h
  case h_2 => exact h.elim
  rename_i a b c
  rw [show L2.start ["_law_turns", "_law_marks_here", "_law_numbers_here", "_law_number", "_law_due", "_law_found", "_law_k"] [V.ref a, V.ref b, V.ref c] = [some (V.ref a), some (V.ref b), some (V.ref c), none, none, none, none] from rfl]
  obtain ⟨us, ms, ts, ns, hT, hM, hc, hb, q⟩ := h
  have hul := Paired.length hT.p
  have hml := Paired.length hM.p
  have h24 := hT.len
  walk_at "sts"
  refine L_rl (.of hc) ?_
  refine f_it walk_list (fun i σ' H' => ∃ (v3 v4 v5 : Option V), σ' = [some (.ref a), some (.ref b), some (.ref c), v3, v4, v5, none] ∧ Same H H') ⟨_, _, _, rfl, .refl _⟩ (fun _ _ _ _ ⟨_, _, _, _, s⟩ => .of (s _ _ hc)) ?_ ?_
  · rintro i x1 σ' H3 H3' hi ⟨v3, v4, v5, rfl, s3⟩ ⟨rfl, hx1⟩
    rw [List.getElem?_map] at hx1
    obtain ⟨n, hn, rfl⟩ := Option.map_eq_some_iff.mp hx1
    obtain ⟨n0, n1⟩ := hb n (List.mem_of_getElem? hn)
    have hT3 := hT.same s3
    have hM3 := hM.same s3
    walk_at "sts"
    refine L_lenL (.of hT3.l) ?_
    rw [hul]
    refine L_r1 (by omega) (by omega) ?_
    refine lc_fm walk_range (fun j => (if mk (ts.getD j (0, 0)).1 (ts.getD j (0, 0)).2 n = 1 then some (j : Int) else none).map V.int) (by omega) (fun _ _ => True.intro) ?_ ?_
    · rintro j x2 H4 H4' R R' hj sm ⟨rfl, rfl⟩ r1 r2
      refine L_gnameE (v := .int (0 + (j : Int))) rfl ?_
      rw [Int.zero_add]
      have hjt : j < ts.length := by omega
      obtain ⟨t, ht⟩ : ∃ t, ts[j]? = some t := ⟨_, List.getElem?_eq_getElem hjt⟩
      have hM4 := hM3.same sm
      obtain ⟨x3, hx3⟩ : ∃ x, ms[j]? = some x := ⟨_, List.getElem?_eq_getElem (by omega)⟩
      obtain ⟨t', ht', q1, rfl, hq1⟩ := paired_at hM4.p hx3
      rw [ht] at ht'
      cases ht'
      have hd : ts.getD j (0, 0) = t := by rw [List.getD_eq_getElem?_getD, ht]; rfl
      walk_at "sts"
      refine ⟨rfl, ?_⟩
      walk_at "sts"
      refine L_ixL (.of hM4.l) (atI_int (by omega) (by rw [Int.toNat_natCast]; exact hx3)) ?_
      walk_at "sts"
      refine L_ixL hq1 (atI_int (v := .int (mk t.1 t.2 n)) (by omega) (by rw [List.getElem?_map, List.getElem?_map, List.getElem?_range (by omega), Option.map_some, Option.map_some, Int.toNat_of_nonneg n0])) ?_
      walk_at "sts"
      refine L_b (fun c => ?_) (fun c => ?_)
      · walk_at "sts"
        exact r1 _ _ (by rw [hd, if_pos (of_decide_eq_true c)]; rfl) (.refl _)
      · exact r2 _ (by rw [hd, if_neg (of_decide_eq_false c)]; rfl) (.refl _)
    · rw [fm_int, show ((List.range ((ts.length : Nat) : Int).toNat).filterMap fun j => if mk (ts.getD j (0, 0)).1 (ts.getD j (0, 0)).2 n = 1 then some (j : Int) else none) = stayL ts n from by rw [Int.toNat_natCast, stayL_mk]]
      intro p5 H5 hp5 s5 e5
      walk_at "sts"
      refine .inr ⟨us, ts, n, hT3.same s5, rfl, n0, n1, fun p6 H6 hp6 s6 e6 => ?_⟩
      walk_at "sts"
      refine L_isi (tyx_L (.of e6)) (b := true) (by decide +kernel) ?_
      walk_at "sts"
      refine L_neR (d := .list ((stayL ts n).map .int)) (.lst (.of e6) (dp_ints _)) (.lst (.of (s6 _ _ e5)) (dp_ints _)) (shp_ints (n := 0)).ok ?_
      walk_at "sts"
      refine L_tyL (.of e6) ?_
      walk_at "sts"
      refine L_app e6 (sz_lt (by have := stayL_len ts n; rw [List.length_map]; omega)) ?_
      have s36 : Same H3' (upd H6 p6 (.lst ((stayL ts n).map V.int ++ [V.int 0]))) := same_mut (s5.trans s6) (s5.free hp6)
      have e67 : (upd H6 p6 (.lst ((stayL ts n).map V.int ++ [V.int 0]))) p5 = _ := (upd_ne fun z => (by rw [z, hp6] at e5; cases e5)).trans (s6 _ _ e5)
      generalize (upd H6 p6 (.lst ((stayL ts n).map V.int ++ [V.int 0]))) = H7 at s36 e67
      walk_at "sts"
      refine .inr ⟨us, ts, n, hT3.same s36, rfl, n0, n1, fun p8 H8 hp8 s8 e8 => ?_⟩
      walk_at "sts"
      refine L_neR (d := .list ((stayL ts n).map .int)) (.lst (.of e8) (dp_ints _)) (.lst (.of (s8 _ _ e67)) (dp_ints _)) (shp_ints (n := 0)).ok ?_
      walk_at "sts"
      exact ⟨_, _, _, rfl, s3.trans (s36.trans s8)⟩
  · rintro σ' H3 ⟨v3, v4, v5, rfl, s3⟩
    walk_at "sts"
    exact q _ s3
def sp__law_refused (K : PySem.W.Frag) (mg : Str → Option Value) : Sp := fun vs H Q _ => match vs with | [.int way, v] => BadW K H v 0 999 ∧ BadW K H v 0 1000 ∧ BadW K H v 0 24 ∧ ∀ H', Same H H' → Q (.bl true) H' | _ => False
theorem q__law_refused {H : Hp} {Q : VK} {E : XK} {way : Int} {v : V} (q : BadW K H v 0 999 ∧ BadW K H v 0 1000 ∧ BadW K H v 0 24 ∧ ∀ H', Same H H' → Q (.bl true) H') : sp__law_refused K mg [.int way, v] H Q E := q
local macro_rules | `(tactic| walk_at "op") => `(tactic| with_reducible refine q__law_refused ?_)
theorem c__law_refused (T : Txt K mg) : Cal P w K mg base 6 "_law_refused" (sp__law_refused K mg) := by
  refine T.d__law_refused.cal (k := 5) sc__law_refused (by intro vs H Q E h; unfold sp__law_refused at h; split at h <;> first | rfl | exact h.elim) fun f cdv A outer s H vs Q E hr h => ?_
  refine ⟨_, (pss_cons (ps_set (i := 2) sc__law_refused.nd rfl (.inl rfl) pe_bl)
    (Evl.pss_cut (ps_try_only (tb := fun W => (tIfS (tTest (tOp (aEq K) (tVar 0) (tC (.int 0)))) (tDrop (tCallS (sp_panel K mg) (fun σ => WE W σ) (tCons (tVar 1) (tCons (tC (.int 3)) (tCons (tC (.int 4)) tNil))))) (tIfS (tTest (tOp (aEq K) (tVar 0) (tC (.int 1)))) (tDrop (tCallS (sp_panel K mg) (fun σ => WE W σ) (tCons (tC (.int 3)) (tCons (tVar 1) (tCons (tC (.int 4)) tNil))))) (tIfS (tTest (tOp (aEq K) (tVar 0) (tC (.int 2)))) (tDrop (tCallS (sp_panel K mg) (fun σ => WE W σ) (tCons (tC (.int 3)) (tCons (tC (.int 4)) (tCons (tVar 1) tNil))))) (tDrop (tCallS (sp_stays K mg) (fun σ => WE W σ) (tCons (tLst (tCons (tMakeE (cA mg "Turn") (sp_Turn___init__ K mg) (fun σ => WE W σ) (tCons (tC (.int 3)) (tCons (tC (.int 4)) tNil))) tNil)) (tCons (tVar 1) tNil)))))))) (ts := fun _ _ _ => (tAsg (tC (.bl true)) (gName 2))) rfl rfl ⟨rfl, by decide, .inl T.m_NoTurn⟩ takes0 (fun W pn xe tk po => by exact (pss_one (ps_if (pt_cmpR (op_eqA hr) (pv 0) pe_int (nomark _))
    (pss_one (ps_expr (pe_xS (c_panel T) hr (by decide) (by rfl) (fun σ => passAt tk σ) (pa_cons (pv 1) (pa_cons pe_int (pa_cons pe_int pa_nil))))))
    (pss_one (ps_if (pt_cmpR (op_eqA hr) (pv 0) pe_int (nomark _))
    (pss_one (ps_expr (pe_xS (c_panel T) hr (by decide) (by rfl) (fun σ => passAt tk σ) (pa_cons pe_int (pa_cons (pv 1) (pa_cons pe_int pa_nil))))))
    (pss_one (ps_if (pt_cmpR (op_eqA hr) (pv 0) pe_int (nomark _))
    (pss_one (ps_expr (pe_xS (c_panel T) hr (by decide) (by rfl) (fun σ => passAt tk σ) (pa_cons pe_int (pa_cons pe_int (pa_cons (pv 1) pa_nil))))))
    (pss_one (ps_expr (pe_xS (c_stays T) hr (by decide) (by rfl) (fun σ => passAt tk σ) (pa_cons (pe_lst (pa_cons (pe_xMk (m_Turn T) hr (by decide) (by rfl) (fun σ => passAt tk σ) (pa_cons pe_int (pa_cons pe_int pa_nil))) pa_nil)) (pa_cons (pv 1) pa_nil)))))))))))) (fun a oe cls d pn _ _ => by exact (pss_one (ps_set (i := 2) sc__law_refused.nd rfl (.inl rfl) pe_bl))))
    (pss_one (ps_ret (pv 2))))), ?_⟩
  try simp only [cxOf_K, cxOf_K', cxOf_mg, cxOf_mg']
  unfold sp__law_refused at h
  split at h
  case h_2 => exact h.elim
  rename_i way v
  rw [show L2.start ["_law_way", "_law_thing", "_law_refused_here"] [V.int way, v] = [some (V.int way), some (v), none] from rfl]
  obtain ⟨hb, hb2, hb3, q⟩ := h
  walk_at "sts"
  refine L_cut (Mid := fun σ' H' => σ' = [some (.int way), some v, some (.bl true)] ∧ Same H H') ?_ ?_
  case refine_2 =>
    rintro σ' H' ⟨rfl, e⟩
    walk_at "sts"
    exact q _ e
  have fin : ∀ H', Same H H' → wOnly K (.ref (cA mg "NoTurn")) (fun _ _ _ => tAsg (tC (.bl true)) (gName 2)) (fun _ _ _ _ => False) ⟨fun σ' H' => σ' = [some (.int way), some v, some (.bl true)] ∧ Same H H', Q, fun _ _ => False, fun _ _ => False⟩ (.ref (cA mg "NoTurn")) none [some (.int way), some v, some (.bl false)] H' := fun H' e => by
    refine L_only (T.y_NoTurn.exm T.e_NoTurn_NoTurn) fun _ _ => ?_
    walk_at "sts"
    exact ⟨rfl, e⟩
  walk_at "sts"
  refine L_d (fun _ => ?_) (fun _ => ?_)
  · walk_at "sts"
    exact .inl ⟨.inl hb2, fin _ (.refl _)⟩
  walk_at "sts"
  refine L_d (fun _ => ?_) (fun _ => ?_)
  · walk_at "sts"
    exact .inl ⟨.inr ⟨⟨3, rfl, by decide, by decide⟩, .inl hb⟩, fin _ (.refl _)⟩
  walk_at "sts"
  refine L_d (fun _ => ?_) (fun _ => ?_)
  · walk_at "sts"
    exact .inl ⟨.inr ⟨⟨3, rfl, by decide, by decide⟩, .inr ⟨⟨4, rfl, by decide, by decide⟩, hb3⟩⟩, fin _ (.refl _)⟩
  walk_at "sts"
  refine L_turn ⟨by decide, by decide, by decide, by decide⟩ fun p dx H' hp s e => ?_
  walk_at "sts"
  walk_at "nw"
  rename_i p2 hp2 H2 s2 e2
  walk_at "sts"
  exact .inl ⟨hb.same (s.trans s2), fin _ (s.trans s2)⟩
theorem T2.same {H H' : Hp} {v : V} {p : Int × Int} (h : T2 H v p) (s : Same H H') : T2 H' v p := let ⟨t, h1, h2⟩ := h; ⟨t, h1, s _ _ h2⟩
theorem T2.up {H : Hp} {D : Addr} {us us' : List V} {v : V} {p : Int × Int} (e : H D = some (.lst us)) (h : T2 H v p) : T2 (upd H D (.lst us')) v p := by
  obtain ⟨t, h1, h2⟩ := h
  exact ⟨t, h1, by rw [upd_ne fun z => (by rw [z, e] at h2; cases h2)]; exact h2⟩
theorem cutG_len2 {α : Type} (xs : List α) (a b : Nat) : (cutG xs (some (a : Int)) (some (b : Int))).length ≤ b - a := by
  unfold cutG
  rw [HT.sIx_nat, HT.sIx_nat, List.length_take]
  omega
/-- a comprehension of new things, each of some kind -/
theorem lc_any {α : Type} (F : Hp → V → α → Prop) (Okk : α → Prop) (st : ∀ H H' v a, Same H H' → F H v a → F H' v a) (up : ∀ H D us us' v a, H D = some (.lst us) → F H v a → F (upd H D (.lst us')) v a)
    {σ : L2.St} {H : Hp} {g : TG} {tt : TT} {te : TE} {J : It} {n : Nat} {G : Hp → Prop} {Y : Nat → Hp → V → Hp → Prop} (w : L2.Walk J n G Y) {vs : List Nat} {Qd : Addr → Hp → Prop} (hn : n ≤ 1000000) (hG : ∀ H', Same H H' → G H')
    (hs : ∀ i x H2 H' (R : V → Hp → Prop) (R' : Hp → Prop), i < n → Same H H2 → Y i H2 x H' → (∀ v p H4, Okk p → Same H2 H4 → F H4 v p → R v H4) →
      g x (wipe σ vs) H' fun σ2 H2 => wipe σ2 vs = wipe σ vs ∧ tt σ2 H2 fun b H3 => if b = true then te σ2 H3 R else R' H3)
    (q : ∀ p H' vs l, H p = none → Same H H' → H' p = some (.lst vs) → Paired (F H') vs l → l.length = n → (∀ x ∈ l, Okk x) → Qd p H') :
    ∀ D, H D = none → ∃ W : Nat → Nat → Hp → Prop, (∃ m, W 0 m (upd H D (.lst []))) ∧ ∀ i m H, W i m H →
      (J.stop i H ∧ Qd D H) ∨ (J.go i H ∧ ∃ Nx : Hp → Prop, (∀ H', Nx H' → ∃ m', m' < m ∧ W (i + 1) m' H') ∧ ∀ x H', J.yld i H x H' → g x (wipe σ vs) H' fun σ2 H2 => wipe σ2 vs = wipe σ vs ∧ tt σ2 H2 fun b H3 =>
        if b = true then te σ2 H3 fun y H4 => ∃ acc, H4 D = some (.lst acc) ∧ acc.length < sizeLine ∧ Nx (upd H4 D (.lst (acc ++ [y]))) else Nx H3) := by
  intro D hD
  refine lc_it w (fun i H2 => Same H H2 ∧ ∃ us l, H2 D = some (.lst us) ∧ Paired (F H2) us l ∧ l.length = i ∧ ∀ x ∈ l, Okk x) ⟨same_new hD, [], [], upd_same, .nil, rfl, fun x hx => nomatch hx⟩ (fun i H2 _ p => hG H2 p.1) ?_ (fun H2 ⟨p1, us, l, p2, p3, p4, p5⟩ => q D H2 us l hD p1 p2 p3 p4 p5)
  rintro i x H2 H' hi ⟨p1, us, l, p2, p3, p4, p5⟩ y
  refine hs i x H2 H' _ _ hi p1 y (fun v p H4 e s et => ?_)
  have e4 := s _ _ p2
  refine ⟨us, e4, sz_lt (by have := Paired.length p3; omega), same_mut (p1.trans s) hD, _, l ++ [p], upd_same, ?_, by rw [List.length_append, List.length_singleton, p4], fun x hx => ?_⟩
  · exact paired_app (paired_imp2 (fun v p h => up _ _ _ _ _ _ e4 (st _ _ _ _ s h)) p3) (.cons (up _ _ _ _ _ _ e4 et) .nil)
  · rcases List.mem_append.mp hx with hx | hx
    · exact p5 x hx
    · rw [List.mem_singleton.mp hx]; exact e
theorem mkl_of {K : PySem.W.Frag} {H : Hp} : ∀ {ms : List V} {ts : List (Int × Int)}, DpAll K H ms (ts.map fun t => PyData.list (((List.range 1000).map fun j : Nat => mk t.1 t.2 (j : Int)).map .int)) → Paired (fun v (t : Int × Int) => ∃ a, v = .ref a ∧ SqL K H a (((List.range 1000).map fun j : Nat => mk t.1 t.2 (j : Int)).map V.int)) ms ts
  | _, [], h => by cases h; exact .nil
  | _, t :: ts, h => by
    cases h with | cons h1 h2 =>
    cases h1 with | lst hl hi =>
    have e := of_ints hi
    subst e
    exact .cons ⟨_, rfl, hl⟩ (mkl_of h2)
theorem nums3p {d : Bool} {c : Int} : ∃ m b n, nums d c 0 [1001, 1000, 25] = [m, b, n] ∧ (0 ≤ m ∧ m < 1001) ∧ (0 ≤ b ∧ b < 1000) ∧ (0 ≤ n ∧ n < 25) := by
  have hl := nums_len d [1001, 1000, 25] c 0
  have hb := nums_b d [1001, 1000, 25] c 0 (by decide)
  generalize nums d c 0 [1001, 1000, 25] = l at *
  match l, hl with
  | [s, m, w], _ => exact ⟨s, m, w, rfl, hb 0 s 1001 rfl rfl, hb 1 m 1000 rfl rfl, hb 2 w 25 rfl rfl⟩
def sp_law (K : PySem.W.Frag) (mg : Str → Option Value) : Sp := fun vs H Q _ => match vs with | [.ref a] => ∃ ns : List Int, SqL K H a (ns.map V.int) ∧ ns.length ≤ 63 ∧ (∀ z ∈ ns, Builtin.Int.intBits z ≤ 1048576) ∧ ∀ H', Q (.bl true) H' | _ => False
theorem q_law {H : Hp} {Q : VK} {E : XK} {a : Addr} (q : ∃ ns : List Int, SqL K H a (ns.map V.int) ∧ ns.length ≤ 63 ∧ (∀ z ∈ ns, Builtin.Int.intBits z ≤ 1048576) ∧ ∀ H', Q (.bl true) H') : sp_law K mg [.ref a] H Q E := q
local macro_rules | `(tactic| walk_at "op") => `(tactic| with_reducible refine q_law ?_)
theorem c_law (T : Txt K mg) {f : Addr} {fd : FuncData} (F : Fun K "law" "law" s_law f fd) : FnOk P w K mg base CX0 8 f fd ["_law_script"] (sp_law K mg) := by
  refine F.ok (k := 7) sc_law (by intro vs H Q E h; unfold sp_law at h; split at h <;> first | rfl | exact h.elim) fun cdv A outer s H vs Q E hr h => ?_
  refine ⟨_, (pss_cons (ps_set (i := 1) sc_law.nd rfl (.inr rfl) (pe_cmpR (op_eqA hr) (pe_op op_mod (pe_c (c__law_cell_at T) hr (by decide) (by rfl) (pa_cons (pv 0) (pa_cons pe_int pa_nil))) pe_int) pe_int (nomark _)))
    (pss_cons (ps_asg (pe_c (c__law_numbers T) hr (by decide) (by rfl) (pa_cons (pe_c (c__law_cell_at T) hr (by decide) (by rfl) (pa_cons (pv 0) (pa_cons pe_int pa_nil))) (pa_cons (pv 1) (pa_cons (pe_lst (pa_cons pe_int (pa_cons pe_int (pa_cons pe_int pa_nil)))) pa_nil)))) (pg_lst rfl (pgs_cons (pg_name (i := 2) sc_law.nd rfl (.inr rfl)) (pgs_cons (pg_name (i := 3) sc_law.nd rfl (.inr rfl)) (pgs_cons (pg_name (i := 4) sc_law.nd rfl (.inl rfl)) pgs_nil)))))
    (pss_cons (ps_set (i := 5) sc_law.nd rfl (.inl rfl) (pe_c (c__law_numbers T) hr (by decide) (by rfl) (pa_cons (pe_c (c__law_cell_at T) hr (by decide) (by rfl) (pa_cons (pv 0) (pa_cons pe_int pa_nil))) (pa_cons (pv 1) (pa_cons (pe_op op_mulA (pe_lst (pa_cons pe_int pa_nil)) pe_int) pa_nil)))))
    (pss_cons (ps_set (i := 6) sc_law.nd rfl (.inl rfl) (pe_xS (c_panel T) hr (by decide) (by rfl) (fun σ => passN σ) (pa_cons (pv 2) (pa_cons (pv 3) (pa_cons (pv 4) pa_nil)))))
    (pss_cons (ps_setLc (i := 7) (own := [("_law_k", 13)]) (g := (gName 13)) (tt := tYes) (te := (tTup (tCons (tOp (rI (fun _ j => 0 < j) fun i j => .int (i % j)) (tOp aMul (tVar 13) (tVar 3)) (tC (.int 1000))) (tCons (tVar 2) tNil)))) rfl sc_law.nd rfl rfl (sw_true rfl rfl rfl (by decide +kernel)) (pi_range1 (by rfl) T.n_range (pa_cons (pv 4) pa_nil)) (blkOk_by (N := ["_law_script", "_law_digits", "_law_many", "_law_by", "_law_count", "_law_numbers_here", "_law_turns", "_law_due", "_law_marks_here", "_law_rows", "_law_some", "_law_bad", "_law_way", "_law_k", "_law_turn_here", "_law_cell", "_law_start", "_law_size"]) (sc := defScope s_law) (by decide +kernel)) (fun _ _ _ _ _ => by exact (pg_name (i := 13) sc_law.nd rfl (.inl rfl))) (fun _ _ _ _ _ => pts_nil) (fun _ _ _ _ _ => by exact (pe_tup (pa_cons (pe_op op_mod (pe_op op_mulA (pv 13) (pv 3)) pe_int) (pa_cons (pv 2) pa_nil)))))
    (Evl.pss_cut (ps_if (PW.pt (pw_or (pt_not (pt_val (pe_callB call_isi (by rfl) T.n_isinstance (by decide +kernel) (pa_cons (pv 6) (pa_cons (pe_ty "list" (by rfl) T.n_list (by decide +kernel)) pa_nil))))) (pw_or1 (pt_cmpR (op_neA hr) (pe_lc (own := [("_law_turn_here", 14)]) (g := (gName 14)) (tt := tYes) (te := (tTup (tCons (tFld K (tVar 14) "start") (tCons (tFld K (tVar 14) "many") tNil)))) rfl sc_law.nd (pi_list (pv 6)) (blkOk_by (N := ["_law_script", "_law_digits", "_law_many", "_law_by", "_law_count", "_law_numbers_here", "_law_turns", "_law_due", "_law_marks_here", "_law_rows", "_law_some", "_law_bad", "_law_way", "_law_k", "_law_turn_here", "_law_cell", "_law_start", "_law_size"]) (sc := defScope s_law) (by decide +kernel)) (fun _ _ _ _ _ => by exact (pg_name (i := 14) sc_law.nd rfl (.inl rfl))) (fun _ _ _ _ _ => pts_nil) (fun _ _ _ _ _ => by exact (pe_tup (pa_cons (pe_fld (pv 14) rfl) (pa_cons (pe_fld (pv 14) rfl) pa_nil))))) (pv 7) (nomark _)))))
    (pss_one (ps_ret pe_bl))
    pss_nil)
    (pss_cons (ps_setLc (i := 8) (own := [("_law_turn_here", 14)]) (g := (gName 14)) (tt := tYes) (te := (tCall (sp__law_marks K mg) [] E0 (tCons (tFld K (tVar 14) "start") (tCons (tFld K (tVar 14) "many") tNil)))) rfl sc_law.nd rfl rfl (sw_true rfl rfl rfl (by decide +kernel)) (pi_list (pv 6)) (blkOk_by (N := ["_law_script", "_law_digits", "_law_many", "_law_by", "_law_count", "_law_numbers_here", "_law_turns", "_law_due", "_law_marks_here", "_law_rows", "_law_some", "_law_bad", "_law_way", "_law_k", "_law_turn_here", "_law_cell", "_law_start", "_law_size"]) (sc := defScope s_law) (by decide +kernel)) (fun _ _ _ _ _ => by exact (pg_name (i := 14) sc_law.nd rfl (.inl rfl))) (fun _ _ _ _ _ => pts_nil) (fun _ _ _ _ _ => by exact (pe_c (c__law_marks T) hr (by decide) (by rfl) (pa_cons (pe_fld (pv 14) rfl) (pa_cons (pe_fld (pv 14) rfl) pa_nil)))))
    (pss_cons (ps_set (i := 5) sc_law.nd rfl (.inl rfl) (pe_op op_addA (pv 5) (pe_lst (pa_cons pe_int (pa_cons (pv 3) (pa_cons (pe_op op_mod (pv 2) pe_int) pa_nil))))))
    (Evl.pss_cut (ps_if (PW.pt (pw_or (pt_not (pt_val (pe_c (c__law_counted T) hr (by decide) (by rfl) (pa_cons (pv 6) (pa_cons (pv 8) pa_nil))))) (pw_or1 (pt_not (pt_val (pe_c (c__law_stays T) hr (by decide) (by rfl) (pa_cons (pv 6) (pa_cons (pv 8) (pa_cons (pv 5) pa_nil)))))))))
    (pss_one (ps_ret pe_bl))
    pss_nil)
    (pss_cons (ps_setLc (i := 9) (own := [("_law_cell", 15)]) (g := (gName 15)) (tt := tYes) (te := (tCall (sp__law_turn K mg) [] E0 (tCons (tVar 15) (tCons (tVar 1) tNil)))) rfl sc_law.nd rfl rfl (sw_true rfl rfl rfl (by decide +kernel)) (pi_list (pe_slice sl_list (pv 0) (po_some pe_int) (po_some pe_int))) (blkOk_by (N := ["_law_script", "_law_digits", "_law_many", "_law_by", "_law_count", "_law_numbers_here", "_law_turns", "_law_due", "_law_marks_here", "_law_rows", "_law_some", "_law_bad", "_law_way", "_law_k", "_law_turn_here", "_law_cell", "_law_start", "_law_size"]) (sc := defScope s_law) (by decide +kernel)) (fun _ _ _ _ _ => by exact (pg_name (i := 15) sc_law.nd rfl (.inl rfl))) (fun _ _ _ _ _ => pts_nil) (fun _ _ _ _ _ => by exact (pe_c (c__law_turn T) hr (by decide) (by rfl) (pa_cons (pv 15) (pa_cons (pv 1) pa_nil)))))
    (pss_cons (ps_setLc (i := 6) (own := [("_law_start", 16), ("_law_size", 17)]) (g := (gTup K 2 (gCons (gName 16) (gCons (gName 17) gNil)))) (tt := tYes) (te := (tMakeE (cA mg "Turn") (sp_Turn___init__ K mg) (fun _ => E0) (tCons (tVar 16) (tCons (tVar 17) tNil)))) rfl sc_law.nd rfl rfl (sw_true rfl rfl rfl (by decide +kernel)) (pi_list (pv 9)) (blkOk_by (N := ["_law_script", "_law_digits", "_law_many", "_law_by", "_law_count", "_law_numbers_here", "_law_turns", "_law_due", "_law_marks_here", "_law_rows", "_law_some", "_law_bad", "_law_way", "_law_k", "_law_turn_here", "_law_cell", "_law_start", "_law_size"]) (sc := defScope s_law) (by decide +kernel)) (fun _ _ _ _ _ => by exact (pg_tup rfl (pgs_cons (pg_name (i := 16) sc_law.nd rfl (.inl rfl)) (pgs_cons (pg_name (i := 17) sc_law.nd rfl (.inl rfl)) pgs_nil)))) (fun _ _ _ _ _ => pts_nil) (fun _ _ _ _ _ => by exact (pe_xMk (m_Turn T) hr (by decide) (by rfl) (fun σ => passN σ) (pa_cons (pv 16) (pa_cons (pv 17) pa_nil)))))
    (pss_cons (ps_setLc (i := 8) (own := [("_law_start", 16), ("_law_size", 17)]) (g := (gTup K 2 (gCons (gName 16) (gCons (gName 17) gNil)))) (tt := tYes) (te := (tCall (sp__law_marks K mg) [] E0 (tCons (tVar 16) (tCons (tVar 17) tNil)))) rfl sc_law.nd rfl rfl (sw_true rfl rfl rfl (by decide +kernel)) (pi_list (pv 9)) (blkOk_by (N := ["_law_script", "_law_digits", "_law_many", "_law_by", "_law_count", "_law_numbers_here", "_law_turns", "_law_due", "_law_marks_here", "_law_rows", "_law_some", "_law_bad", "_law_way", "_law_k", "_law_turn_here", "_law_cell", "_law_start", "_law_size"]) (sc := defScope s_law) (by decide +kernel)) (fun _ _ _ _ _ => by exact (pg_tup rfl (pgs_cons (pg_name (i := 16) sc_law.nd rfl (.inl rfl)) (pgs_cons (pg_name (i := 17) sc_law.nd rfl (.inl rfl)) pgs_nil)))) (fun _ _ _ _ _ => pts_nil) (fun _ _ _ _ _ => by exact (pe_c (c__law_marks T) hr (by decide) (by rfl) (pa_cons (pv 16) (pa_cons (pv 17) pa_nil)))))
    (Evl.pss_cut (ps_if (PW.pt (pw_or (pt_not (pt_val (pe_c (c__law_counted T) hr (by decide) (by rfl) (pa_cons (pv 6) (pa_cons (pv 8) pa_nil))))) (pw_or1 (pt_not (pt_val (pe_c (c__law_stays T) hr (by decide) (by rfl) (pa_cons (pv 6) (pa_cons (pv 8) (pa_cons (pv 5) pa_nil)))))))))
    (pss_one (ps_ret pe_bl))
    pss_nil)
    (pss_cons (ps_set (i := 10) sc_law.nd rfl (.inl rfl) (pe_lst (pa_cons pe_non (pa_cons (pe_un un_neg pe_int) (pa_cons pe_int (pa_cons pe_bl (pa_cons pe_str (pa_cons (pe_lst (pa_cons pe_int pa_nil)) (pa_cons (pe_op op_pow pe_int pe_int) (pa_cons (pe_tup pa_nil) (pa_cons pe_int (pa_cons pe_bl (pa_cons pe_str (pa_cons pe_dnewK pa_nil))))))))))))))
    (pss_cons (ps_set (i := 11) sc_law.nd rfl (.inl rfl) (pe_ix ix_seq (pv 10) (pe_op op_mod (pe_c (c__law_mix T) hr (by decide) (by rfl) (pa_cons (pe_c (c__law_cell_at T) hr (by decide) (by rfl) (pa_cons (pv 0) (pa_cons pe_int pa_nil))) (pa_cons pe_int pa_nil))) pe_int) (fun _ _ => rfl)))
    (pss_cons (ps_for PassesOwn.never rfl (pi_range1 (by rfl) T.n_range (pa_cons pe_int pa_nil)) (pg_name (i := 12) sc_law.nd rfl (.inl rfl))
    (pss_one (ps_if (pt_not (pt_val (pe_c (c__law_refused T) hr (by decide) (by rfl) (pa_cons (pv 12) (pa_cons (pv 11) pa_nil)))))
    (pss_one (ps_ret pe_bl))
    pss_nil)))
    (pss_one (ps_ret (pe_cmpR (op_eqA hr) (pe_c (c_counts T) hr (by decide) (by rfl) (pa_cons (pe_lst pa_nil) pa_nil)) (pe_lst (pa_cons pe_int pa_nil)) (nomark _)))))))))))))))))))), ?_⟩
  try simp only [cxOf_K, cxOf_K', cxOf_mg, cxOf_mg']
  unfold sp_law at h
  split at h
  case h_2 => exact h.elim
  rename_i a
  rw [show L2.start ["_law_script", "_law_digits", "_law_many", "_law_by", "_law_count", "_law_numbers_here", "_law_turns", "_law_due", "_law_marks_here", "_law_rows", "_law_some", "_law_bad", "_law_way", "_law_k", "_law_turn_here", "_law_cell", "_law_start", "_law_size"] [V.ref a] = [some (V.ref a), none, none, none, none, none, none, none, none, none, none, none, none, none, none, none, none, none] from rfl]
  obtain ⟨ns, hS, hl, hbits, q⟩ := h
  walk_at "sts"
  refine ⟨ns, hS, by decide, ?_⟩
  walk_at "sa"
  refine ⟨ns, hS, by decide, ?_⟩
  walk_at "sa"
  generalize decide (cellAt ns 0 0 % 2 = 1) = d
  walk_at "nw"
  rename_i p1 hp1 H1 s1 e1
  walk_at "sts"
  refine ⟨[1001, 1000, 25], e1, by decide, by decide, fun p2 H2 hp2 s2 e2 => ?_⟩
  obtain ⟨m, b, n, en, ⟨m0, m1⟩, ⟨b0, b1⟩, n0, n1⟩ := nums3p (d := d) (c := cellAt ns 1 0)
  rw [en] at e2
  replace e2 : H2 p2 = some (HO.lst [V.int m, V.int b, V.int n]) := e2
  refine L_gLst (.of e2) rfl ?_
  walk_at "sts"
  refine ⟨ns, (s1.trans s2).seq hS, by decide, ?_⟩
  walk_at "sa"
  walk_at "nw"
  rename_i p3 hp3 H3 s3 e3
  walk_at "sts"
  refine L_repL e3 (by omega) (by omega) (sz_dec (by decide)) ?_
  walk_at "nwp"
  rename_i p4 hp4 H4 s4 e4
  walk_at "sts"
  refine ⟨[1000, 1000, 1000, 1000, 1000, 1000], e4, by decide, by decide, fun p5 H5 hp5 s5 e5 => ?_⟩
  have hnn := nums_len d [1000, 1000, 1000, 1000, 1000, 1000] (cellAt ns 2 0) 0
  have hnb := nums_b d [1000, 1000, 1000, 1000, 1000, 1000] (cellAt ns 2 0) 0 (by decide)
  generalize nums d (cellAt ns 2 0) 0 [1000, 1000, 1000, 1000, 1000, 1000] = nn at e5 hnn hnb
  have hnb' : ∀ t ∈ nn, 0 ≤ t ∧ t < 1000 := fun t ht => by
    obtain ⟨i, hi, rfl⟩ := List.mem_iff_getElem.mp ht
    have h6 : i < 6 := by rw [hnn] at hi; exact hi
    have := hnb i nn[i] 1000 (List.getElem?_eq_getElem hi) (by rcases i with _ | _ | _ | _ | _ | _ | i <;> first | rfl | omega)
    omega
  have s05 : Same H H5 := by walk_at "sm"
  clear hnb e1 e2 e3 e4
  walk_at "sts"
  refine .inr ⟨m, b, n, rfl, rfl, rfl, by omega, by omega, by omega, by omega, by omega, by omega, fun pT us H6 hpT s6 hT => ?_⟩
  walk_at "sts"
  refine L_r1 (by omega) (by omega) ?_
  refine lc_dp (K := K) walk_range (fun i => some (.tuple [.int ((i : Int) * b % 1000), .int m])) (by omega) (fun _ _ => True.intro) ?_ ?_
  · rintro i x1 pp Ha Hb R R' hi hpp sm hop ⟨rfl, rfl⟩ q1 q2
    refine L_gnameE (v := .int (0 + (i : Int))) rfl ?_
    rw [Int.zero_add]
    refine ⟨rfl, ?_⟩
    walk_at "sts"
    refine L_mulI ((bd_64 (by omega)).cmul (bd_64 (by omega))) ?_
    walk_at "sts"
    refine L_I (by decide) ?_
    walk_at "sts"
    walk_at "nw"
    rename_i pt hpt H7 s7 e7
    exact q1 _ _ _ rfl s7 (dp_tupN e7 (ne_new hpt hop) (.cons (.int _) (.cons (.int _) .nil)))
  intro p7 H7 us7 hp7 s7 e7 hA7
  walk_at "sts"
  have hT7 := hT.same s7
  have hul := Paired.length hT7.p
  have h24 := hT7.len
  refine L_cut (Mid := fun σ' H' => ∃ v7 : Option V, σ' = [some (.ref a), some (.bl d), some (.int m), some (.int b), some (.int n), some (.ref p5), some (.ref pT), v7, none, none, none, none, none, none, none, none, none, none] ∧ Same H6 H') ?_ ?_
  · walk_at "sts"
    refine L_isi (tyx_L (.of hT7.l)) (b := true) (by decide +kernel) ?_
    walk_at "sts"
    refine L_rl (.of hT7.l) ?_
    refine lc_dp (K := K) walk_list (fun i => ((List.range n.toNat).map fun i : Nat => ((i : Int) * b % 1000, m))[i]?.map d2) (by omega) (fun H' e => .of (e _ _ hT7.l)) ?_ ?_
    · rintro i x1 pp Ha Hb R R' hi hpp sm hop ⟨rfl, hx1⟩ q1 q2
      obtain ⟨t, ht, tx, dx, rfl, htx⟩ := paired_at hT7.p hx1
      have htx2 := sm _ _ htx
      walk_at "sts"
      refine ⟨rfl, ?_⟩
      walk_at "sts"
      refine L_fldv htx2 T.k_Turn T.na_Turn_start rfl ?_
      walk_at "sts"
      refine L_fldv htx2 T.k_Turn T.na_Turn_many rfl ?_
      walk_at "sts"
      walk_at "nw"
      rename_i pt hpt H9 s9 e9
      exact q1 _ _ _ (by rw [ht]; rfl) s9 (dp_tupN e9 (ne_new hpt hop) (.cons (.int _) (.cons (.int _) .nil)))
    intro p9 H9 us9 hp9 s9 e9 hA9
    rw [hul, fm_get] at hA9
    have hA7' : DpAll K (rs (· ≠ p7) H7) us7 (((List.range n.toNat).map fun i : Nat => ((i : Int) * b % 1000, m)).map d2) := by
      rw [show (List.range n.toNat).filterMap (fun i : Nat => some (PyData.tuple [.int ((i : Int) * b % 1000), .int m])) = (List.range n.toNat).map fun i : Nat => PyData.tuple [.int ((i : Int) * b % 1000), .int m] from (congrFun (List.filterMap_eq_map (f := fun i : Nat => PyData.tuple [.int ((i : Int) * b % 1000), .int m])) _)] at hA7
      rw [List.map_map]
      exact hA7
    walk_at "sts"
    refine L_neR (dp_whole hA9 e9) ((dp_whole hA7' e7).same s9) (shp_lst (n := 1) (shp_map fun _ _ => shp_tup (shp_cons shp_int (shp_cons shp_int shp_nil)))).ok ?_
    walk_at "sts"
    exact ⟨_, rfl, s7.trans s9⟩
  rintro σ' H8 ⟨v7, rfl, s8⟩
  have hT8 := hT.same s8
  have hS8 := (s05.trans (s6.trans s8)).seq hS
  have e58 := (s6.trans s8) _ _ e5
  generalize (List.range n.toNat).map (fun i : Nat => ((i : Int) * b % 1000, m)) = ts at hT8
  have hul8 := Paired.length hT8.p
  have h248 := hT8.len
  have s58 := s6.trans s8
  walk_at "sts"
  refine L_rl (.of hT8.l) ?_
  refine lc_dp (K := K) walk_list (fun i => ts[i]?.map fun t => PyData.list (((List.range 1000).map fun j : Nat => mk t.1 t.2 (j : Int)).map .int)) (by omega) (fun H' e => .of (e _ _ hT8.l)) ?_ ?_
  · rintro i x1 pp Ha Hb R R' hi hpp sm hop ⟨rfl, hx1⟩ q1 q2
    obtain ⟨t, ht, tx, dx, rfl, htx⟩ := paired_at hT8.p hx1
    obtain ⟨o1, o2, o3, o4⟩ := hT8.ok t (List.mem_of_getElem? ht)
    have htx2 := sm _ _ htx
    walk_at "sts"
    refine ⟨rfl, ?_⟩
    walk_at "sts"
    refine L_fldv htx2 T.k_Turn T.na_Turn_start rfl ?_
    walk_at "sts"
    refine L_fldv htx2 T.k_Turn T.na_Turn_many rfl ?_
    walk_at "sts"
    refine ⟨o1, o2, o3, o4, fun pm Hm hpm sm2 em => ?_⟩
    exact q1 _ _ _ (by rw [ht]; rfl) sm2 (dp_lstN em (ne_new hpm hop) (dp_ints _))
  intro p9 H9 us9 hp9 s9 e9 hA9
  rw [hul8, fm_get] at hA9
  have hM9 : MkL K H9 p9 us9 ts := ⟨e9, mkl_of (hA9.same rs_sub)⟩
  have hT9 := hT8.same s9
  walk_at "sa"
  walk_at "nw"
  rename_i p10 hp10 H10 s10 e10
  walk_at "sa"
  refine L_addL ((s9.trans s10) _ _ e58) e10 (sz_dec (by rw [List.length_map, hnn]; simp)) ?_
  walk_at "nwp"
  rename_i p11 hp11 H11 s11 e11
  replace e11 : H11 p11 = some (.lst ((nn ++ [0, b, m % 1000]).map V.int)) := by rw [List.map_append]; exact e11
  have hnb11 : ∀ t ∈ nn ++ [0, b, m % 1000], 0 ≤ t ∧ t < 1000 := fun t ht => by
    rcases List.mem_append.mp ht with ht | ht
    · exact hnb' t ht
    · simp only [List.mem_cons, List.not_mem_nil, or_false] at ht
      rcases ht with rfl | rfl | rfl <;> omega
  walk_at "sts"
  have hT11 := hT9.same (s10.trans s11)
  have hM11 := hM9.same (s10.trans s11)
  have hS11 := (s9.trans (s10.trans s11)).seq hS8
  refine L_cut (Mid := fun σ' H' => ∃ v2 v3 v4 v6 v7 v8 : Option V, σ' = [some (.ref a), some (.bl d), v2, v3, v4, some (.ref p11), v6, v7, v8, none, none, none, none, none, none, none, none, none] ∧ Same H11 H') ?_ ?_
  · walk_at "sts"
    refine ⟨us, us9, ts, hT11, hM11, fun H12 s12 => ?_⟩
    walk_at "sts"
    refine ⟨us, us9, ts, _, hT11.same s12, hM11.same s12, s12 _ _ e11, hnb11, fun H13 s13 => ?_⟩
    walk_at "sts"
    exact ⟨_, _, _, _, _, _, rfl, s12.trans s13⟩
  rintro σ' H12 ⟨v2, v3, v4, v6, v7, v8, rfl, s12⟩
  have hS12 := s12.seq hS11
  have e12 := s12 _ _ e11
  walk_at "sts"
  refine L_slL hS12 ?_
  walk_at "nwp"
  rename_i p13 hp13 H13 s13 e13
  have hcl : (cutG ns (some 3) (some 27)).length ≤ 24 := cutG_len2 ns 3 27
  rw [cutV_map] at e13
  generalize cutG ns (some 3) (some 27) = cells at e13 hcl
  walk_at "sts"
  refine L_rl (.of e13) ?_
  refine lc_any T2 OkTu (fun _ _ _ _ s h => T2.same h s) (fun _ _ _ _ _ _ e h => T2.up e h) walk_list (by rw [List.length_map]; omega) (fun H' e => .of (e _ _ e13)) ?_ ?_
  · rintro i x1 Ha Hb R R' hi sm ⟨rfl, hx1⟩ q1
    rw [List.getElem?_map] at hx1
    obtain ⟨c, hc, rfl⟩ := Option.map_eq_some_iff.mp hx1
    walk_at "sts"
    refine ⟨rfl, ?_⟩
    walk_at "sts"
    intro s m hs0 hs1 hm0 hm1 pt Ht hpt st et
    exact q1 _ (s, m) _ ⟨hs0, hs1, hm0, hm1⟩ st ⟨pt, rfl, et⟩
  intro p14 H14 us14 rows hp14 s14 e14 hP14 hl14 hok14
  rw [List.length_map] at hl14
  have hr24 : rows.length ≤ 24 := by omega
  have hul14 := Paired.length hP14
  walk_at "sts"
  refine L_rl (.of e14) ?_
  refine lc_ob (TU mg) (fun _ _ _ _ s h => h.same s) (fun _ _ _ _ _ _ e h => tu_up e h) walk_list (fun i => rows[i]?.map id) (by omega) (fun H' e => .of (e _ _ e14)) ?_ ?_
  · rintro i x1 Ha Hb R R' hi sm ⟨rfl, hx1⟩ q1 q2
    obtain ⟨t, ht, pt, rfl, hpt⟩ := paired_at hP14 hx1
    obtain ⟨o1, o2, o3, o4⟩ := hok14 t (List.mem_of_getElem? ht)
    refine L_gTup (.of (sm _ _ hpt)) rfl ?_
    walk_at "sts"
    refine ⟨rfl, ?_⟩
    walk_at "sts"
    refine L_turn ⟨o1, o2, o3, o4⟩ fun p dx H' hp s e => ?_
    exact q1 _ t _ (by rw [ht]; rfl) s ⟨p, dx, rfl, e⟩
  intro p15 H15 us15 hp15 s15 e15 hP15
  rw [hul14, fm_get, List.map_id] at hP15
  have hT15 : TuL mg H15 p15 us15 rows := ⟨e15, hP15, hok14, hr24⟩
  have e14b := s15 _ _ e14
  have hP14b : Paired (T2 H15) us14 rows := paired_imp2 (fun _ _ h => T2.same h s15) hP14
  walk_at "sts"
  refine L_rl (.of e14b) ?_
  refine lc_dp (K := K) walk_list (fun i => rows[i]?.map fun t => PyData.list (((List.range 1000).map fun j : Nat => mk t.1 t.2 (j : Int)).map .int)) (by omega) (fun H' e => .of (e _ _ e14b)) ?_ ?_
  · rintro i x1 pp Ha Hb R R' hi hpp sm hop ⟨rfl, hx1⟩ q1 q2
    obtain ⟨t, ht, pt, rfl, hpt⟩ := paired_at hP14b hx1
    obtain ⟨o1, o2, o3, o4⟩ := hok14 t (List.mem_of_getElem? ht)
    refine L_gTup (.of (sm _ _ hpt)) rfl ?_
    walk_at "sts"
    refine ⟨rfl, ?_⟩
    walk_at "sts"
    refine ⟨o1, o2, o3, o4, fun pm Hm hpm sm2 em => ?_⟩
    exact q1 _ _ _ (by rw [ht]; rfl) sm2 (dp_lstN em (ne_new hpm hop) (dp_ints _))
  intro p16 H16 us16 hp16 s16 e16 hA16
  rw [hul14, fm_get] at hA16
  have hM16 : MkL K H16 p16 us16 rows := ⟨e16, mkl_of (hA16.same rs_sub)⟩
  have hT16 := hT15.same s16
  have e12b := (s13.trans (s14.trans (s15.trans s16))) _ _ e12
  have hS16 := (s13.trans (s14.trans (s15.trans s16))).seq hS12
  walk_at "sts"
  refine L_cut (Mid := fun σ' H' => ∃ v2 v3 v4 v5 v6 v7 v8 v9 : Option V, σ' = [some (.ref a), some (.bl d), v2, v3, v4, v5, v6, v7, v8, v9, none, none, none, none, none, none, none, none] ∧ Same H16 H') ?_ ?_
  · walk_at "sts"
    refine ⟨us15, us16, rows, hT16, hM16, fun H17 s17 => ?_⟩
    walk_at "sts"
    refine ⟨us15, us16, rows, _, hT16.same s17, hM16.same s17, s17 _ _ e12b, hnb11, fun H18 s18 => ?_⟩
    walk_at "sts"
    exact ⟨_, _, _, _, _, _, _, _, rfl, s17.trans s18⟩
  rintro σ' H17 ⟨v2, v3, v4, v5, v6, v7, v8, v9, rfl, s17⟩
  have hS17 := s17.seq hS16
  walk_at "sts"
  walk_at "nw"
  rename_i p20 hp20 H20 s20 e20
  walk_at "sts"
  refine L_powE (i := 10) (j := 30) (n := 1000000000000000000000000000000) (cpow_lit (by decide)) (by decide) ?_
  walk_at "sts"
  walk_at "nw"
  rename_i p21 hp21 H21 s21 e21
  walk_at "sts"
  walk_at "nwp"
  rename_i p22 hp22 H22 s22 e22
  walk_at "sts"
  walk_at "nw"
  rename_i p23 hp23 H23 s23 e23
  walk_at "sts"
  refine ⟨ns, (s20.trans (s21.trans (s22.trans s23))).seq hS17, by decide, ?_⟩
  walk_at "sts"
  refine ⟨by decide, by decide, ?_⟩
  walk_at "sa"
  refine L_menuV (.of e23) (by omega) (by show _ < (12 : Int); omega) fun v hv => ?_
  have hb : BadW K H23 v 0 999 ∧ BadW K H23 v 0 1000 ∧ BadW K H23 v 0 24 := by
    have e20' := (s21.trans (s22.trans s23)) _ _ e20
    have e21' := (s22.trans s23) _ _ e21
    have e22' := s23 _ _ e22
    simp only [List.mem_cons, List.not_mem_nil, or_false] at hv
    rcases hv with rfl | rfl | rfl | rfl | rfl | rfl | rfl | rfl | rfl | rfl | rfl | rfl
    · exact ⟨notw_non.bad, notw_non.bad, notw_non.bad⟩
    · exact ⟨badw_int (by omega), badw_int (by omega), badw_int (by omega)⟩
    · exact ⟨badw_int (by omega), badw_int (by omega), badw_int (by omega)⟩
    · exact ⟨notw_bl.bad, notw_bl.bad, notw_bl.bad⟩
    · exact ⟨notw_str.bad, notw_str.bad, notw_str.bad⟩
    · exact ⟨(notw_lst e20').bad, (notw_lst e20').bad, (notw_lst e20').bad⟩
    · exact ⟨badw_int (by omega), badw_int (by omega), badw_int (by omega)⟩
    · exact ⟨(notw_tup e21').bad, (notw_tup e21').bad, (notw_tup e21').bad⟩
    · exact ⟨badw_int (by omega), badw_int (by omega), badw_int (by omega)⟩
    · exact ⟨notw_bl.bad, notw_bl.bad, notw_bl.bad⟩
    · exact ⟨notw_str.bad, notw_str.bad, notw_str.bad⟩
    · exact ⟨(notw_dK e22').bad, (notw_dK e22').bad, (notw_dK e22').bad⟩
  walk_at "sts"
  refine L_r1 (by omega) (by omega) ?_
  refine f_range (fun i σ' H' => ∃ (v2 v3 v4 v5 v6 v7 v8 v9 v10 v12 : Option V), σ' = [some (.ref a), some (.bl d), v2, v3, v4, v5, v6, v7, v8, v9, v10, some v, v12, none, none, none, none, none] ∧ Same H23 H') ⟨_, _, _, _, _, _, _, _, _, _, rfl, .refl _⟩ ?_ ?_
  · rintro i σ' H' hi ⟨v2, v3, v4, v5, v6, v7, v8, v9, v10, v12, rfl, s24⟩
    walk_at "sts"
    refine ⟨hb.1.same s24, hb.2.1.same s24, hb.2.2.same s24, fun H25 s25 => ?_⟩
    walk_at "sts"
    exact ⟨_, _, _, _, _, _, _, _, _, _, rfl, s24.trans s25⟩
  rintro σ' H24 ⟨v2, v3, v4, v5, v6, v7, v8, v9, v10, v12, rfl, s24⟩
  walk_at "sts"
  walk_at "nw"
  rename_i p30 hp30 H30 s30 e30
  walk_at "sts"
  refine ⟨[], [], ⟨e30, .nil, (fun t ht => nomatch ht), by decide⟩, fun p31 H31 hp31 s31 e31 => ?_⟩
  walk_at "sts"
  walk_at "nw"
  rename_i p32 hp32 H32 s32 e32
  have hcn : cntL [] = [1000] := by
    have h := cnt_sum []
    have hl : (cntL []).length = 1 := rfl
    generalize cntL [] = l at h hl
    match l, hl with
    | [x], _ => simpa using h
  rw [hcn] at e31
  refine L_eqR (d := .list ([1000].map .int)) (.lst (.of (s32 _ _ e31)) (dp_ints _)) (.lst (.of e32) (dp_ints [1000])) (shp_ints (n := 0)).ok ?_
  exact q _
end
theorem txt_mk {K : PySem.W.Frag} {h : Heap} {mg : Str → Option Value} (X : K.In h) (G : h.Ns mainGlobals mg)
    (z_n_len : PySem.W.nsIn K mainGlobals "len" = some none)
    (z_n_enumerate : PySem.W.nsIn K mainGlobals "enumerate" = some none)
    (z_n_range : PySem.W.nsIn K mainGlobals "range" = some none)
    (z_n_bool : PySem.W.nsIn K mainGlobals "bool" = some none)
    (z_n_int : PySem.W.nsIn K mainGlobals "int" = some none)
    (z_n_isinstance : PySem.W.nsIn K mainGlobals "isinstance" = some none)
    {u_g_CIRCLE : Value} (z_g_CIRCLE : PySem.W.nsIn K mainGlobals "CIRCLE" = some (some u_g_CIRCLE)) (y_g_CIRCLE : RelV (.int 1000) u_g_CIRCLE)
    {C_NoTurn : Addr} (aC_NoTurn : PySem.W.nsIn K mainGlobals "NoTurn" = some (some (.ref C_NoTurn)))
    (xx_NoTurn : PySem.W.excIn K C_NoTurn [.type "ValueError", .type "Exception", .type "BaseException", .type "object"] "ValueError.__new__" = true) (xk_NoTurn : PySem.W.keepIn K (.ref C_NoTurn) = true) (xb_NoTurn : PySem.W.subIn K (.ref C_NoTurn) (.type "BaseException") = some true) (xt_NoTurn : PySem.W.typeIn K (.ref C_NoTurn) = some (.type "type"))
    {C_Turn : Addr} (aC_Turn : PySem.W.nsIn K mainGlobals "Turn" = some (some (.ref C_Turn)))
    (pg_Turn : PySem.W.plainGet K C_Turn Str.empty = true) (hd_Turn : PySem.W.hasDictIn K C_Turn = true) (po_Turn : PySem.W.plainOver K C_Turn = true) (sa_Turn : PySem.W.findIn K (.ref C_Turn) "__setattr__" = some (some (.builtin "object.__setattr__"))) (mk_Turn : PySem.W.makesIn K C_Turn = true) (kc_Turn : PySem.W.keepIn K (.ref C_Turn) = true)
    (na_Turn_start : PySem.W.findIn K (.ref C_Turn) "start" = some none)
    (na_Turn_many : PySem.W.findIn K (.ref C_Turn) "many" = some none)
    {u_g_MOST_TURNS : Value} (z_g_MOST_TURNS : PySem.W.nsIn K mainGlobals "MOST_TURNS" = some (some u_g_MOST_TURNS)) (y_g_MOST_TURNS : RelV (.int 24) u_g_MOST_TURNS)
    (z_n_set : PySem.W.nsIn K mainGlobals "set" = some none)
    (z_n_sorted : PySem.W.nsIn K mainGlobals "sorted" = some none)
    (z_n_zip : PySem.W.nsIn K mainGlobals "zip" = some none)
    (z_n_list : PySem.W.nsIn K mainGlobals "list" = some none)
    (z_n_sum : PySem.W.nsIn K mainGlobals "sum" = some none)
    (yb_NoTurn : PySem.W.subIn K (.ref C_NoTurn) (.type "BaseException") = some true) (yi_NoTurn : PySem.W.isClsIn K C_NoTurn = true) (yt_NoTurn : PySem.W.typeIn K (.ref C_NoTurn) = some (.type "type"))
    (es_NoTurn_NoTurn : PySem.W.subIn K (.ref C_NoTurn) (.ref C_NoTurn) = some true)
    {f__law_cell_at : Addr} {od__law_cell_at an__law_cell_at : Option Addr} {sl__law_cell_at : Array (Option Value)} {oc__law_cell_at kV__law_cell_at dc__law_cell_at pm__law_cell_at cd__law_cell_at ct__law_cell_at : Value}
    (a__law_cell_at : PySem.W.nsIn K mainGlobals "_law_cell_at" = some (some (.ref f__law_cell_at))) (l__law_cell_at : K.lookup f__law_cell_at = some ⟨oc__law_cell_at, od__law_cell_at, .func (PySem.W.fnOf "_law_cell_at" "_law_cell_at" (defArgs s__law_cell_at) (defBody s__law_cell_at) (defScope s__law_cell_at) .none kV__law_cell_at dc__law_cell_at pm__law_cell_at an__law_cell_at cd__law_cell_at ct__law_cell_at), sl__law_cell_at⟩) (c__law_cell_at : PySem.W.codeIn K cd__law_cell_at "_law_cell_at" = true) (k__law_cell_at : PySem.W.keepIn K (.ref f__law_cell_at) = true)
    {f__law_mix : Addr} {od__law_mix an__law_mix : Option Addr} {sl__law_mix : Array (Option Value)} {oc__law_mix kV__law_mix dc__law_mix pm__law_mix cd__law_mix ct__law_mix : Value}
    (a__law_mix : PySem.W.nsIn K mainGlobals "_law_mix" = some (some (.ref f__law_mix))) (l__law_mix : K.lookup f__law_mix = some ⟨oc__law_mix, od__law_mix, .func (PySem.W.fnOf "_law_mix" "_law_mix" (defArgs s__law_mix) (defBody s__law_mix) (defScope s__law_mix) .none kV__law_mix dc__law_mix pm__law_mix an__law_mix cd__law_mix ct__law_mix), sl__law_mix⟩) (c__law_mix : PySem.W.codeIn K cd__law_mix "_law_mix" = true) (k__law_mix : PySem.W.keepIn K (.ref f__law_mix) = true)
    {f__law_numbers : Addr} {od__law_numbers an__law_numbers : Option Addr} {sl__law_numbers : Array (Option Value)} {oc__law_numbers kV__law_numbers dc__law_numbers pm__law_numbers cd__law_numbers ct__law_numbers : Value}
    (a__law_numbers : PySem.W.nsIn K mainGlobals "_law_numbers" = some (some (.ref f__law_numbers))) (l__law_numbers : K.lookup f__law_numbers = some ⟨oc__law_numbers, od__law_numbers, .func (PySem.W.fnOf "_law_numbers" "_law_numbers" (defArgs s__law_numbers) (defBody s__law_numbers) (defScope s__law_numbers) .none kV__law_numbers dc__law_numbers pm__law_numbers an__law_numbers cd__law_numbers ct__law_numbers), sl__law_numbers⟩) (c__law_numbers : PySem.W.codeIn K cd__law_numbers "_law_numbers" = true) (k__law_numbers : PySem.W.keepIn K (.ref f__law_numbers) = true)
    {f__law_marks : Addr} {od__law_marks an__law_marks : Option Addr} {sl__law_marks : Array (Option Value)} {oc__law_marks kV__law_marks dc__law_marks pm__law_marks cd__law_marks ct__law_marks : Value}
    (a__law_marks : PySem.W.nsIn K mainGlobals "_law_marks" = some (some (.ref f__law_marks))) (l__law_marks : K.lookup f__law_marks = some ⟨oc__law_marks, od__law_marks, .func (PySem.W.fnOf "_law_marks" "_law_marks" (defArgs s__law_marks) (defBody s__law_marks) (defScope s__law_marks) .none kV__law_marks dc__law_marks pm__law_marks an__law_marks cd__law_marks ct__law_marks), sl__law_marks⟩) (c__law_marks : PySem.W.codeIn K cd__law_marks "_law_marks" = true) (k__law_marks : PySem.W.keepIn K (.ref f__law_marks) = true)
    {f__law_turn : Addr} {od__law_turn an__law_turn : Option Addr} {sl__law_turn : Array (Option Value)} {oc__law_turn kV__law_turn dc__law_turn pm__law_turn cd__law_turn ct__law_turn : Value}
    (a__law_turn : PySem.W.nsIn K mainGlobals "_law_turn" = some (some (.ref f__law_turn))) (l__law_turn : K.lookup f__law_turn = some ⟨oc__law_turn, od__law_turn, .func (PySem.W.fnOf "_law_turn" "_law_turn" (defArgs s__law_turn) (defBody s__law_turn) (defScope s__law_turn) .none kV__law_turn dc__law_turn pm__law_turn an__law_turn cd__law_turn ct__law_turn), sl__law_turn⟩) (c__law_turn : PySem.W.codeIn K cd__law_turn "_law_turn" = true) (k__law_turn : PySem.W.keepIn K (.ref f__law_turn) = true)
    {f_is_whole : Addr} {od_is_whole an_is_whole : Option Addr} {sl_is_whole : Array (Option Value)} {oc_is_whole kV_is_whole dc_is_whole pm_is_whole cd_is_whole ct_is_whole : Value}
    (a_is_whole : PySem.W.nsIn K mainGlobals "is_whole" = some (some (.ref f_is_whole))) (l_is_whole : K.lookup f_is_whole = some ⟨oc_is_whole, od_is_whole, .func (PySem.W.fnOf "is_whole" "is_whole" (defArgs s_is_whole) (defBody s_is_whole) (defScope s_is_whole) .none kV_is_whole dc_is_whole pm_is_whole an_is_whole cd_is_whole ct_is_whole), sl_is_whole⟩) (c_is_whole : PySem.W.codeIn K cd_is_whole "is_whole" = true) (k_is_whole : PySem.W.keepIn K (.ref f_is_whole) = true)
    {f_need_number : Addr} {od_need_number an_need_number : Option Addr} {sl_need_number : Array (Option Value)} {oc_need_number kV_need_number dc_need_number pm_need_number cd_need_number ct_need_number : Value}
    (a_need_number : PySem.W.nsIn K mainGlobals "need_number" = some (some (.ref f_need_number))) (l_need_number : K.lookup f_need_number = some ⟨oc_need_number, od_need_number, .func (PySem.W.fnOf "need_number" "need_number" (defArgs s_need_number) (defBody s_need_number) (defScope s_need_number) .none kV_need_number dc_need_number pm_need_number an_need_number cd_need_number ct_need_number), sl_need_number⟩) (c_need_number : PySem.W.codeIn K cd_need_number "need_number" = true) (k_need_number : PySem.W.keepIn K (.ref f_need_number) = true)
    {f_need_many : Addr} {od_need_many an_need_many : Option Addr} {sl_need_many : Array (Option Value)} {oc_need_many kV_need_many dc_need_many pm_need_many cd_need_many ct_need_many : Value}
    (a_need_many : PySem.W.nsIn K mainGlobals "need_many" = some (some (.ref f_need_many))) (l_need_many : K.lookup f_need_many = some ⟨oc_need_many, od_need_many, .func (PySem.W.fnOf "need_many" "need_many" (defArgs s_need_many) (defBody s_need_many) (defScope s_need_many) .none kV_need_many dc_need_many pm_need_many an_need_many cd_need_many ct_need_many), sl_need_many⟩) (c_need_many : PySem.W.codeIn K cd_need_many "need_many" = true) (k_need_many : PySem.W.keepIn K (.ref f_need_many) = true)
    {f_Turn___init__ : Addr} {od_Turn___init__ an_Turn___init__ : Option Addr} {sl_Turn___init__ : Array (Option Value)} {oc_Turn___init__ kV_Turn___init__ dc_Turn___init__ pm_Turn___init__ cd_Turn___init__ ct_Turn___init__ : Value}
    (a_Turn___init__ : PySem.W.findIn K (.ref C_Turn) "__init__" = some (some (.ref f_Turn___init__))) (i_Turn___init__ : PySem.W.isFn K (.ref f_Turn___init__) = true) (l_Turn___init__ : K.lookup f_Turn___init__ = some ⟨oc_Turn___init__, od_Turn___init__, .func (PySem.W.fnOf "__init__" "Turn.__init__" (defArgs s_Turn___init__) (defBody s_Turn___init__) (defScope s_Turn___init__) .none kV_Turn___init__ dc_Turn___init__ pm_Turn___init__ an_Turn___init__ cd_Turn___init__ ct_Turn___init__), sl_Turn___init__⟩) (c_Turn___init__ : PySem.W.codeIn K cd_Turn___init__ "Turn.__init__" = true) (k_Turn___init__ : PySem.W.keepIn K (.ref f_Turn___init__) = true)
    {f_Turn_has : Addr} {od_Turn_has an_Turn_has : Option Addr} {sl_Turn_has : Array (Option Value)} {oc_Turn_has kV_Turn_has dc_Turn_has pm_Turn_has cd_Turn_has ct_Turn_has : Value}
    (a_Turn_has : PySem.W.findIn K (.ref C_Turn) "has" = some (some (.ref f_Turn_has))) (i_Turn_has : PySem.W.isFn K (.ref f_Turn_has) = true) (l_Turn_has : K.lookup f_Turn_has = some ⟨oc_Turn_has, od_Turn_has, .func (PySem.W.fnOf "has" "Turn.has" (defArgs s_Turn_has) (defBody s_Turn_has) (defScope s_Turn_has) .none kV_Turn_has dc_Turn_has pm_Turn_has an_Turn_has cd_Turn_has ct_Turn_has), sl_Turn_has⟩) (c_Turn_has : PySem.W.codeIn K cd_Turn_has "Turn.has" = true) (k_Turn_has : PySem.W.keepIn K (.ref f_Turn_has) = true)
    {f_panel : Addr} {od_panel an_panel : Option Addr} {sl_panel : Array (Option Value)} {oc_panel kV_panel dc_panel pm_panel cd_panel ct_panel : Value}
    (a_panel : PySem.W.nsIn K mainGlobals "panel" = some (some (.ref f_panel))) (l_panel : K.lookup f_panel = some ⟨oc_panel, od_panel, .func (PySem.W.fnOf "panel" "panel" (defArgs s_panel) (defBody s_panel) (defScope s_panel) .none kV_panel dc_panel pm_panel an_panel cd_panel ct_panel), sl_panel⟩) (c_panel : PySem.W.codeIn K cd_panel "panel" = true) (k_panel : PySem.W.keepIn K (.ref f_panel) = true)
    {f_stays : Addr} {od_stays an_stays : Option Addr} {sl_stays : Array (Option Value)} {oc_stays kV_stays dc_stays pm_stays cd_stays ct_stays : Value}
    (a_stays : PySem.W.nsIn K mainGlobals "stays" = some (some (.ref f_stays))) (l_stays : K.lookup f_stays = some ⟨oc_stays, od_stays, .func (PySem.W.fnOf "stays" "stays" (defArgs s_stays) (defBody s_stays) (defScope s_stays) .none kV_stays dc_stays pm_stays an_stays cd_stays ct_stays), sl_stays⟩) (c_stays : PySem.W.codeIn K cd_stays "stays" = true) (k_stays : PySem.W.keepIn K (.ref f_stays) = true)
    {f_stretches : Addr} {od_stretches an_stretches : Option Addr} {sl_stretches : Array (Option Value)} {oc_stretches kV_stretches dc_stretches pm_stretches cd_stretches ct_stretches : Value}
    (a_stretches : PySem.W.nsIn K mainGlobals "stretches" = some (some (.ref f_stretches))) (l_stretches : K.lookup f_stretches = some ⟨oc_stretches, od_stretches, .func (PySem.W.fnOf "stretches" "stretches" (defArgs s_stretches) (defBody s_stretches) (defScope s_stretches) .none kV_stretches dc_stretches pm_stretches an_stretches cd_stretches ct_stretches), sl_stretches⟩) (c_stretches : PySem.W.codeIn K cd_stretches "stretches" = true) (k_stretches : PySem.W.keepIn K (.ref f_stretches) = true)
    {f_counts : Addr} {od_counts an_counts : Option Addr} {sl_counts : Array (Option Value)} {oc_counts kV_counts dc_counts pm_counts cd_counts ct_counts : Value}
    (a_counts : PySem.W.nsIn K mainGlobals "counts" = some (some (.ref f_counts))) (l_counts : K.lookup f_counts = some ⟨oc_counts, od_counts, .func (PySem.W.fnOf "counts" "counts" (defArgs s_counts) (defBody s_counts) (defScope s_counts) .none kV_counts dc_counts pm_counts an_counts cd_counts ct_counts), sl_counts⟩) (c_counts : PySem.W.codeIn K cd_counts "counts" = true) (k_counts : PySem.W.keepIn K (.ref f_counts) = true)
    {f__law_counted : Addr} {od__law_counted an__law_counted : Option Addr} {sl__law_counted : Array (Option Value)} {oc__law_counted kV__law_counted dc__law_counted pm__law_counted cd__law_counted ct__law_counted : Value}
    (a__law_counted : PySem.W.nsIn K mainGlobals "_law_counted" = some (some (.ref f__law_counted))) (l__law_counted : K.lookup f__law_counted = some ⟨oc__law_counted, od__law_counted, .func (PySem.W.fnOf "_law_counted" "_law_counted" (defArgs s__law_counted) (defBody s__law_counted) (defScope s__law_counted) .none kV__law_counted dc__law_counted pm__law_counted an__law_counted cd__law_counted ct__law_counted), sl__law_counted⟩) (c__law_counted : PySem.W.codeIn K cd__law_counted "_law_counted" = true) (k__law_counted : PySem.W.keepIn K (.ref f__law_counted) = true)
    {f__law_stays : Addr} {od__law_stays an__law_stays : Option Addr} {sl__law_stays : Array (Option Value)} {oc__law_stays kV__law_stays dc__law_stays pm__law_stays cd__law_stays ct__law_stays : Value}
    (a__law_stays : PySem.W.nsIn K mainGlobals "_law_stays" = some (some (.ref f__law_stays))) (l__law_stays : K.lookup f__law_stays = some ⟨oc__law_stays, od__law_stays, .func (PySem.W.fnOf "_law_stays" "_law_stays" (defArgs s__law_stays) (defBody s__law_stays) (defScope s__law_stays) .none kV__law_stays dc__law_stays pm__law_stays an__law_stays cd__law_stays ct__law_stays), sl__law_stays⟩) (c__law_stays : PySem.W.codeIn K cd__law_stays "_law_stays" = true) (k__law_stays : PySem.W.keepIn K (.ref f__law_stays) = true)
    {f__law_refused : Addr} {od__law_refused an__law_refused : Option Addr} {sl__law_refused : Array (Option Value)} {oc__law_refused kV__law_refused dc__law_refused pm__law_refused cd__law_refused ct__law_refused : Value}
    (a__law_refused : PySem.W.nsIn K mainGlobals "_law_refused" = some (some (.ref f__law_refused))) (l__law_refused : K.lookup f__law_refused = some ⟨oc__law_refused, od__law_refused, .func (PySem.W.fnOf "_law_refused" "_law_refused" (defArgs s__law_refused) (defBody s__law_refused) (defScope s__law_refused) .none kV__law_refused dc__law_refused pm__law_refused an__law_refused cd__law_refused ct__law_refused), sl__law_refused⟩) (c__law_refused : PySem.W.codeIn K cd__law_refused "_law_refused" = true) (k__law_refused : PySem.W.keepIn K (.ref f__law_refused) = true)
    {f_law : Addr} {od_law an_law : Option Addr} {sl_law : Array (Option Value)} {oc_law kV_law dc_law pm_law cd_law ct_law : Value}
    (a_law : PySem.W.nsIn K mainGlobals "law" = some (some (.ref f_law))) (l_law : K.lookup f_law = some ⟨oc_law, od_law, .func (PySem.W.fnOf "law" "law" (defArgs s_law) (defBody s_law) (defScope s_law) .none kV_law dc_law pm_law an_law cd_law ct_law), sl_law⟩) (c_law : PySem.W.codeIn K cd_law "law" = true) (k_law : PySem.W.keepIn K (.ref f_law) = true) : Txt K mg := by
  have e_NoTurn : cA mg "NoTurn" = C_NoTurn := cA_of (PySem.W.mg_of X G aC_NoTurn)
  have e_Turn : cA mg "Turn" = C_Turn := cA_of (PySem.W.mg_of X G aC_Turn)
  exact ⟨(PySem.W.mg_none_of X G z_n_len), (PySem.W.mg_none_of X G z_n_enumerate), (PySem.W.mg_none_of X G z_n_range), (PySem.W.mg_none_of X G z_n_bool), (PySem.W.mg_none_of X G z_n_int), (PySem.W.mg_none_of X G z_n_isinstance), (⟨_, PySem.W.mg_of X G z_g_CIRCLE, y_g_CIRCLE⟩), (by rw [e_NoTurn]; exact PySem.W.mg_of X G aC_NoTurn), (by rw [e_NoTurn]; exact ⟨xx_NoTurn, xk_NoTurn, xb_NoTurn, xt_NoTurn⟩), (by rw [e_Turn]; exact PySem.W.mg_of X G aC_Turn), (by rw [e_Turn]; exact ⟨pg_Turn, hd_Turn, po_Turn, sa_Turn⟩), (by rw [e_Turn]; exact na_Turn_start), (by rw [e_Turn]; exact na_Turn_many), (⟨_, PySem.W.mg_of X G z_g_MOST_TURNS, y_g_MOST_TURNS⟩), (PySem.W.mg_none_of X G z_n_set), (PySem.W.mg_none_of X G z_n_sorted), (PySem.W.mg_none_of X G z_n_zip), (PySem.W.mg_none_of X G z_n_list), (PySem.W.mg_none_of X G z_n_sum), (by rw [e_NoTurn]; exact ⟨yb_NoTurn, yi_NoTurn, yt_NoTurn⟩), (by rw [e_NoTurn]; exact es_NoTurn_NoTurn), (⟨f__law_cell_at, _, fun_mk (st := s__law_cell_at) l__law_cell_at c__law_cell_at k__law_cell_at, PySem.W.mg_of X G a__law_cell_at, (fun_mk (st := s__law_cell_at) l__law_cell_at c__law_cell_at k__law_cell_at).binds (ps := ["_law_script", "_law_k"]) fun _ _ _ _ _ _ us hl => match us, hl with | [_, _], _ => rfl⟩), (⟨f__law_mix, _, fun_mk (st := s__law_mix) l__law_mix c__law_mix k__law_mix, PySem.W.mg_of X G a__law_mix, (fun_mk (st := s__law_mix) l__law_mix c__law_mix k__law_mix).binds (ps := ["_law_cell", "_law_k"]) fun _ _ _ _ _ _ us hl => match us, hl with | [_, _], _ => rfl⟩), (⟨f__law_numbers, _, fun_mk (st := s__law_numbers) l__law_numbers c__law_numbers k__law_numbers, PySem.W.mg_of X G a__law_numbers, (fun_mk (st := s__law_numbers) l__law_numbers c__law_numbers k__law_numbers).binds (ps := ["_law_cell", "_law_digits", "_law_bases"]) fun _ _ _ _ _ _ us hl => match us, hl with | [_, _, _], _ => rfl⟩), (⟨f__law_marks, _, fun_mk (st := s__law_marks) l__law_marks c__law_marks k__law_marks, PySem.W.mg_of X G a__law_marks, (fun_mk (st := s__law_marks) l__law_marks c__law_marks k__law_marks).binds (ps := ["_law_start", "_law_many"]) fun _ _ _ _ _ _ us hl => match us, hl with | [_, _], _ => rfl⟩), (⟨f__law_turn, _, fun_mk (st := s__law_turn) l__law_turn c__law_turn k__law_turn, PySem.W.mg_of X G a__law_turn, (fun_mk (st := s__law_turn) l__law_turn c__law_turn k__law_turn).binds (ps := ["_law_cell", "_law_digits"]) fun _ _ _ _ _ _ us hl => match us, hl with | [_, _], _ => rfl⟩), (⟨f_is_whole, _, fun_mk (st := s_is_whole) l_is_whole c_is_whole k_is_whole, PySem.W.mg_of X G a_is_whole, (fun_mk (st := s_is_whole) l_is_whole c_is_whole k_is_whole).binds (ps := ["thing", "low", "high"]) fun _ _ _ _ _ _ us hl => match us, hl with | [_, _, _], _ => rfl⟩), (⟨f_need_number, _, fun_mk (st := s_need_number) l_need_number c_need_number k_need_number, PySem.W.mg_of X G a_need_number, (fun_mk (st := s_need_number) l_need_number c_need_number k_need_number).binds (ps := ["thing"]) fun _ _ _ _ _ _ us hl => match us, hl with | [_], _ => rfl⟩), (⟨f_need_many, _, fun_mk (st := s_need_many) l_need_many c_need_many k_need_many, PySem.W.mg_of X G a_need_many, (fun_mk (st := s_need_many) l_need_many c_need_many k_need_many).binds (ps := ["thing"]) fun _ _ _ _ _ _ us hl => match us, hl with | [_], _ => rfl⟩), (by rw [e_Turn]; exact ⟨f_Turn___init__, _, fun_mk (st := s_Turn___init__) l_Turn___init__ c_Turn___init__ k_Turn___init__, ⟨mk_Turn, a_Turn___init__, i_Turn___init__, kc_Turn⟩, (fun_mk (st := s_Turn___init__) l_Turn___init__ c_Turn___init__ k_Turn___init__).binds (ps := ["self", "start", "many"]) fun _ _ _ _ _ _ us hl => match us, hl with | [_, _, _], _ => rfl⟩), (by rw [e_Turn]; exact ⟨f_Turn_has, _, fun_mk (st := s_Turn_has) l_Turn_has c_Turn_has k_Turn_has, ⟨a_Turn_has, i_Turn_has, k_Turn_has⟩, (fun_mk (st := s_Turn_has) l_Turn_has c_Turn_has k_Turn_has).binds (ps := ["self", "number"]) fun _ _ _ _ _ _ us hl => match us, hl with | [_, _], _ => rfl⟩), (⟨f_panel, _, fun_mk (st := s_panel) l_panel c_panel k_panel, PySem.W.mg_of X G a_panel, (fun_mk (st := s_panel) l_panel c_panel k_panel).binds (ps := ["many", "by", "count"]) fun _ _ _ _ _ _ us hl => match us, hl with | [_, _, _], _ => rfl⟩), (⟨f_stays, _, fun_mk (st := s_stays) l_stays c_stays k_stays, PySem.W.mg_of X G a_stays, (fun_mk (st := s_stays) l_stays c_stays k_stays).binds (ps := ["turns", "number"]) fun _ _ _ _ _ _ us hl => match us, hl with | [_, _], _ => rfl⟩), (⟨f_stretches, _, fun_mk (st := s_stretches) l_stretches c_stretches k_stretches, PySem.W.mg_of X G a_stretches, (fun_mk (st := s_stretches) l_stretches c_stretches k_stretches).binds (ps := ["turns"]) fun _ _ _ _ _ _ us hl => match us, hl with | [_], _ => rfl⟩), (⟨f_counts, _, fun_mk (st := s_counts) l_counts c_counts k_counts, PySem.W.mg_of X G a_counts, (fun_mk (st := s_counts) l_counts c_counts k_counts).binds (ps := ["turns"]) fun _ _ _ _ _ _ us hl => match us, hl with | [_], _ => rfl⟩), (⟨f__law_counted, _, fun_mk (st := s__law_counted) l__law_counted c__law_counted k__law_counted, PySem.W.mg_of X G a__law_counted, (fun_mk (st := s__law_counted) l__law_counted c__law_counted k__law_counted).binds (ps := ["_law_turns", "_law_marks_here"]) fun _ _ _ _ _ _ us hl => match us, hl with | [_, _], _ => rfl⟩), (⟨f__law_stays, _, fun_mk (st := s__law_stays) l__law_stays c__law_stays k__law_stays, PySem.W.mg_of X G a__law_stays, (fun_mk (st := s__law_stays) l__law_stays c__law_stays k__law_stays).binds (ps := ["_law_turns", "_law_marks_here", "_law_numbers_here"]) fun _ _ _ _ _ _ us hl => match us, hl with | [_, _, _], _ => rfl⟩), (⟨f__law_refused, _, fun_mk (st := s__law_refused) l__law_refused c__law_refused k__law_refused, PySem.W.mg_of X G a__law_refused, (fun_mk (st := s__law_refused) l__law_refused c__law_refused k__law_refused).binds (ps := ["_law_way", "_law_thing"]) fun _ _ _ _ _ _ us hl => match us, hl with | [_, _], _ => rfl⟩), (⟨f_law, _, fun_mk (st := s_law) l_law c_law k_law, PySem.W.mg_of X G a_law, (fun_mk (st := s_law) l_law c_law k_law).binds (ps := ["_law_script"]) fun _ _ _ _ _ _ us hl => match us, hl with | [_], _ => rfl⟩)⟩
theorem law_mk {P : Program} {w : World} {K : PySem.W.Frag} {mg : Str → Option Value} {fa : Addr} (T : Txt K mg) (hfa : mg "law" = some (.ref fa)) :
    ∃ fd : FuncData, (∀ (s : Shared) (v : Value), BindsTo s fd ⟨[v], []⟩ [("_law_script", v)]) ∧ ∀ base : Heap, K.In base → base.Ns mainGlobals mg → FnOk P w K mg base CX0 8 fa fd ["_law_script"] (sp_law K mg) := by
  obtain ⟨f, fd, F, hm, b⟩ := T.d_law.ex
  have e := hfa.symm.trans hm
  cases e
  refine ⟨fd, fun s v => ?_, fun base _ _ => c_law T F⟩
  obtain ⟨oc, od, kV, doc, pm, an, cdv, ct, osl, rfl, lk, hcd⟩ := F.ex
  exact .of_eq rfl
end My
open PySem PySem.W PyProof.Rows
set_option maxRecDepth 100000 in
set_option maxHeartbeats 0 in
theorem PySem.Challenge.cw_fewspeak_k64_panels_and_counts_holds : PySem.Challenge.rw_fewspeak_k64_panels_and_counts.Holds := by
  w_on; o_law; k_head; (case hw => w_witness2)
  k_fill
  refine L2.walk_ofB (l := PySem.Challenge.rw_fewspeak_k64_panels_and_counts) (n := 63) (k := 8) (x := "_law_script") (CX := fun _ => L2.CX0) (sp := fun w => My.sp_law _ (fun _ => none)) rfl (by decide) rfl ⟨rfl, by decide, by decide⟩ (fun w h Y => PySem.W.kIn_of Y) ?F (fun _ _ a ns hl hb _ hS => ⟨ns, hS, hl, hb, fun _ => rfl⟩) (fun _ _ _ _ _ h => h)
  case F =>
    intro w mg fa h KX G hmg
    refine' My.law_mk (My.txt_mk KX G ?z_n_len ?z_n_enumerate ?z_n_range ?z_n_bool ?z_n_int ?z_n_isinstance ?z_g_CIRCLE ?y_g_CIRCLE ?aC_NoTurn ?xx_NoTurn ?xk_NoTurn ?xb_NoTurn ?xt_NoTurn ?aC_Turn ?pg_Turn ?hd_Turn ?po_Turn ?sa_Turn ?mk_Turn ?kc_Turn ?na_Turn_start ?na_Turn_many ?z_g_MOST_TURNS ?y_g_MOST_TURNS ?z_n_set ?z_n_sorted ?z_n_zip ?z_n_list ?z_n_sum ?yb_NoTurn ?yi_NoTurn ?yt_NoTurn ?es_NoTurn_NoTurn ?a__law_cell_at ?l__law_cell_at ?c__law_cell_at ?k__law_cell_at ?a__law_mix ?l__law_mix ?c__law_mix ?k__law_mix ?a__law_numbers ?l__law_numbers ?c__law_numbers ?k__law_numbers ?a__law_marks ?l__law_marks ?c__law_marks ?k__law_marks ?a__law_turn ?l__law_turn ?c__law_turn ?k__law_turn ?a_is_whole ?l_is_whole ?c_is_whole ?k_is_whole ?a_need_number ?l_need_number ?c_need_number ?k_need_number ?a_need_many ?l_need_many ?c_need_many ?k_need_many ?a_Turn___init__ ?i_Turn___init__ ?l_Turn___init__ ?c_Turn___init__ ?k_Turn___init__ ?a_Turn_has ?i_Turn_has ?l_Turn_has ?c_Turn_has ?k_Turn_has ?a_panel ?l_panel ?c_panel ?k_panel ?a_stays ?l_stays ?c_stays ?k_stays ?a_stretches ?l_stretches ?c_stretches ?k_stretches ?a_counts ?l_counts ?c_counts ?k_counts ?a__law_counted ?l__law_counted ?c__law_counted ?k__law_counted ?a__law_stays ?l__law_stays ?c__law_stays ?k__law_stays ?a__law_refused ?l__law_refused ?c__law_refused ?k__law_refused ?a_law ?l_law ?c_law ?k_law) hmg
    (case z_n_len => k_is)
    (case z_n_enumerate => k_is)
    (case z_n_range => k_is)
    (case z_n_bool => k_is)
    (case z_n_int => k_is)
    (case z_n_isinstance => k_is)
    (case z_g_CIRCLE => k_is)
    (case y_g_CIRCLE => exact ⟨_, rfl⟩)
    (case aC_NoTurn => k_is)
    (case xx_NoTurn => k_exc)
    (case xk_NoTurn => k_is)
    (case xb_NoTurn => k_is)
    (case xt_NoTurn => k_is)
    (case aC_Turn => k_is)
    (case pg_Turn => k_is)
    (case hd_Turn => k_is)
    (case po_Turn => k_is)
    (case sa_Turn => k_is)
    (case mk_Turn => k_is)
    (case kc_Turn => k_is)
    (case na_Turn_start => k_is)
    (case na_Turn_many => k_is)
    (case z_g_MOST_TURNS => k_is)
    (case y_g_MOST_TURNS => exact ⟨_, rfl⟩)
    (case z_n_set => k_is)
    (case z_n_sorted => k_is)
    (case z_n_zip => k_is)
    (case z_n_list => k_is)
    (case z_n_sum => k_is)
    (case yb_NoTurn => k_is)
    (case yi_NoTurn => k_is)
    (case yt_NoTurn => k_is)
    (case es_NoTurn_NoTurn => first | rfl | k_is)
    (case a__law_cell_at => k_is)
    (case l__law_cell_at => k_is)
    (case c__law_cell_at => k_is)
    (case k__law_cell_at => k_is)
    (case a__law_mix => k_is)
    (case l__law_mix => k_is)
    (case c__law_mix => k_is)
    (case k__law_mix => k_is)
    (case a__law_numbers => k_is)
    (case l__law_numbers => k_is)
    (case c__law_numbers => k_is)
    (case k__law_numbers => k_is)
    (case a__law_marks => k_is)
    (case l__law_marks => k_is)
    (case c__law_marks => k_is)
    (case k__law_marks => k_is)
    (case a__law_turn => k_is)
    (case l__law_turn => k_is)
    (case c__law_turn => k_is)
    (case k__law_turn => k_is)
    (case a_is_whole => k_is)
    (case l_is_whole => k_is)
    (case c_is_whole => k_is)
    (case k_is_whole => k_is)
    (case a_need_number => k_is)
    (case l_need_number => k_is)
    (case c_need_number => k_is)
    (case k_need_number => k_is)
    (case a_need_many => k_is)
    (case l_need_many => k_is)
    (case c_need_many => k_is)
    (case k_need_many => k_is)
    (case a_Turn___init__ => k_is)
    (case i_Turn___init__ => k_is)
    (case l_Turn___init__ => k_is)
    (case c_Turn___init__ => k_is)
    (case k_Turn___init__ => k_is)
    (case a_Turn_has => k_is)
    (case i_Turn_has => k_is)
    (case l_Turn_has => k_is)
    (case c_Turn_has => k_is)
    (case k_Turn_has => k_is)
    (case a_panel => k_is)
    (case l_panel => k_is)
    (case c_panel => k_is)
    (case k_panel => k_is)
    (case a_stays => k_is)
    (case l_stays => k_is)
    (case c_stays => k_is)
    (case k_stays => k_is)
    (case a_stretches => k_is)
    (case l_stretches => k_is)
    (case c_stretches => k_is)
    (case k_stretches => k_is)
    (case a_counts => k_is)
    (case l_counts => k_is)
    (case c_counts => k_is)
    (case k_counts => k_is)
    (case a__law_counted => k_is)
    (case l__law_counted => k_is)
    (case c__law_counted => k_is)
    (case k__law_counted => k_is)
    (case a__law_stays => k_is)
    (case l__law_stays => k_is)
    (case c__law_stays => k_is)
    (case k__law_stays => k_is)
    (case a__law_refused => k_is)
    (case l__law_refused => k_is)
    (case c__law_refused => k_is)
    (case k__law_refused => k_is)
    (case a_law => k_is)
    (case l_law => k_is)
    (case c_law => k_is)
    (case k_law => k_is)
#print axioms PySem.Challenge.cw_fewspeak_k64_panels_and_counts_holds

