import PyProof.Rows.All
import Wide.All
import OpenK.AllK
import Wide.FinOn
import HandS.ForMost
import HandS.Exc
import HandS.TryOnly
import HandS.ExcOwn
import HandS.WordsExc
import HandS.Wide
import HandS.IsInst
import HandS.EndBits
import HandS.Conv
import HandS.Style
import HandS.TupAny
import HandS.Evl
import HandS.Walk
import HandS.ExcIs
import HandS.ExcInit
import HandS.ExcField
import HandS.ExcValue
import HandS.SetKeys
import KE.KExcIs
import HandS.Defaults
import HandS.CallSlots
import HandS.More
import PyProof.StrBlock2
import HandS.Text
import PySem.Challenge.RW_fewspeak_k66_pots_by_throws
set_option Elab.async false
set_option linter.all false
set_option maxRecDepth 100000
set_option maxHeartbeats 4000000
namespace Kt
open PySem PySem.Spec PyProof.Rows L2
/-- a def of the top, as it stands behind the top -/
structure DefAt (K : PySem.W.Frag) (mg : Str → Option Value) (x : Str) (st : Stmt) (ps : List Str) : Prop where
  ex : ∃ (f : Addr) (fd : FuncData), Fun K x x st f fd ∧ mg x = some (.ref f) ∧ Binds K fd ps []
/-- a method of the class at C -/
structure MethAt (K : PySem.W.Frag) (C : Addr) (m qual : Str) (st : Stmt) (ps : List Str) : Prop where
  ex : ∃ (f : Addr) (fd : FuncData), Fun K m qual st f fd ∧ Meth K C m f ∧ Binds K fd ps []
structure InitAt (K : PySem.W.Frag) (C : Addr) (qual : Str) (st : Stmt) (ps : List Str) : Prop where
  ex : ∃ (f : Addr) (fd : FuncData), Fun K "__init__" qual st f fd ∧ Mk K C f ∧ Binds K fd ps []
/-- the class that a name of the module holds -/
def cA (mg : Str → Option Value) (x : Str) : Addr := match mg x with | some (.ref a) => a | _ => 0
theorem cA_of {mg : Str → Option Value} {x : Str} {a : Addr} (h : mg x = some (.ref a)) : cA mg x = a := by unfold cA; rw [h]
/-- a def that may be called by its name; a method of the class at C; a class that may be made -/
structure Cal (P : Program) (w : World) (K : PySem.W.Frag) (mg : Str → Option Value) (base : Heap) (k : Nat) (x : Str) (sp : Sp) : Prop where
  ex : ∃ (f : Addr) (fd : FuncData) (ps : List Str), FnOk P w K mg base CX0 k f fd ps sp ∧ mg x = some (.ref f) ∧ PySem.W.keepIn K (.ref f) = true ∧ Binds K fd ps []
structure Met (P : Program) (w : World) (K : PySem.W.Frag) (mg : Str → Option Value) (base : Heap) (k : Nat) (C : Addr) (m : Str) (sp : Sp) : Prop where
  ex : ∃ (f : Addr) (fd : FuncData) (ps : List Str), Cls K C ∧ Meth K C m f ∧ FnOk P w K mg base CX0 k f fd ps sp ∧ Binds K fd ps []
structure Mak (P : Program) (w : World) (K : PySem.W.Frag) (mg : Str → Option Value) (base : Heap) (k : Nat) (x : Str) (C : Addr) (sp : Sp) : Prop where
  ex : ∃ (f : Addr) (fd : FuncData) (ps : List Str), Mk K C f ∧ FnOk P w K mg base CX0 k f fd ps sp ∧ mg x = some (.ref C) ∧ Binds K fd ps []
section
variable {P : Program} {w : World} {K : PySem.W.Frag} {mg : Str → Option Value} {base : Heap}
theorem DefAt.cal {x : Str} {st : Stmt} {N ps : List Str} {k : Nat} {sp : Sp} (d : DefAt K mg x st ps) (S : FnScope N ps (defScope st)) (len : ∀ vs H Q E, sp vs H Q E → vs.length = ps.length)
    (hbody : ∀ (f : Addr) (cdv : Value) (A : Around) (outer : List Env) (s : Shared) (H : Hp) (vs : List V) (Q : VK) (E : XK), Room k (A.deeper (envOfC x (defScope st) s.heap.objs.size f cdv)) → sp vs H Q E →
      ∃ t, PSs (cxOf CX0 P w K mg base N x (defScope st) f cdv A outer s H E).nox (defBody st) t ∧ t { nx := fun _ H' => Q .non H', rt := Q } (start N vs) H) : Cal P w K mg base (k + 1) x sp := by
  obtain ⟨f, fd, F, hm, b⟩ := d.ex
  exact ⟨f, fd, ps, F.ok S len (hbody f), hm, F.kp, b⟩
theorem MethAt.met {C : Addr} {m qual : Str} {st : Stmt} {N ps : List Str} {k : Nat} {sp : Sp} (c : Cls K C) (d : MethAt K C m qual st ps) (S : FnScope N ps (defScope st)) (len : ∀ vs H Q E, sp vs H Q E → vs.length = ps.length)
    (hbody : ∀ (f : Addr) (cdv : Value) (A : Around) (outer : List Env) (s : Shared) (H : Hp) (vs : List V) (Q : VK) (E : XK), Room k (A.deeper (envOfC qual (defScope st) s.heap.objs.size f cdv)) → sp vs H Q E →
      ∃ t, PSs (cxOf CX0 P w K mg base N qual (defScope st) f cdv A outer s H E).nox (defBody st) t ∧ t { nx := fun _ H' => Q .non H', rt := Q } (start N vs) H) : Met P w K mg base (k + 1) C m sp := by
  obtain ⟨f, fd, F, hm, b⟩ := d.ex
  exact ⟨f, fd, ps, c, hm, F.ok S len (hbody f), b⟩
theorem InitAt.mak {x : Str} {C : Addr} {qual : Str} {st : Stmt} {N ps : List Str} {k : Nat} {sp : Sp} (hx : mg x = some (.ref C)) (d : InitAt K C qual st ps) (S : FnScope N ps (defScope st)) (len : ∀ vs H Q E, sp vs H Q E → vs.length = ps.length)
    (hbody : ∀ (f : Addr) (cdv : Value) (A : Around) (outer : List Env) (s : Shared) (H : Hp) (vs : List V) (Q : VK) (E : XK), Room k (A.deeper (envOfC qual (defScope st) s.heap.objs.size f cdv)) → sp vs H Q E →
      ∃ t, PSs (cxOf CX0 P w K mg base N qual (defScope st) f cdv A outer s H E).nox (defBody st) t ∧ t { nx := fun _ H' => Q .non H', rt := Q } (start N vs) H) : Mak P w K mg base (k + 1) x C sp := by
  obtain ⟨f, fd, F, hm, b⟩ := d.ex
  exact ⟨f, fd, ps, hm, F.ok S len (hbody f), hx, b⟩
/-- a def that may raise -/
structure CalX (P : Program) (w : World) (K : PySem.W.Frag) (mg : Str → Option Value) (base : Heap) (k : Nat) (x : Str) (sp : Sp) : Prop where
  ex : ∃ (f : Addr) (fd : FuncData) (ps : List Str), FnOk P w K mg base (L2.CX P w) k f fd ps sp ∧ mg x = some (.ref f) ∧ PySem.W.keepIn K (.ref f) = true ∧ Binds K fd ps []
theorem DefAt.calX {x : Str} {st : Stmt} {N ps : List Str} {k : Nat} {sp : Sp} (d : DefAt K mg x st ps) (S : FnScope N ps (defScope st)) (len : ∀ vs H Q E, sp vs H Q E → vs.length = ps.length)
    (hbody : ∀ (f : Addr) (cdv : Value) (A : Around) (outer : List Env) (s : Shared) (H : Hp) (vs : List V) (Q : VK) (E : XK), Room k (A.deeper (envOfC x (defScope st) s.heap.objs.size f cdv)) → sp vs H Q E →
      ∃ t, PSs (cxOf (L2.CX P w) P w K mg base N x (defScope st) f cdv A outer s H E) (defBody st) t ∧ t { nx := fun _ H' => Q .non H', rt := Q } (start N vs) H) : CalX P w K mg base (k + 1) x sp := by
  obtain ⟨f, fd, F, hm, b⟩ := d.ex
  exact ⟨f, fd, ps, F.okX S len (hbody f), hm, F.kp, b⟩
end
section
variable {X : Cx} {k j : Nat} {C : Addr} {x m : Str} {sp : Sp} {p pos apos : Pos} {e o : Expr} {es : List Expr} {ta : TE} {t : TA}
theorem pe_c (c : Cal X.prog X.w X.K X.mg X.base k x sp) (hr : Room j X.A) (hk : k ≤ j) (hg : Gl X x) (ha : PA X (e :: es) t)
    (hdb : (x == ("__debug__" : Str)) = false := by decide) (he : starEach (e :: es) X.env = (false, eval e X.env) :: starEach es X.env := by rfl) (hpl : (backTo pos (starEach es X.env)).any (·.1) = false := by rfl) :
    PE X (.Call (.Name x p) (e :: es) [] pos) (tCall sp [] E0 t) := by
  obtain ⟨f, fd, ps, F, hm, kp, b⟩ := c.ex
  exact pe_call F (hr.mono hk) hg hm kp b .nil pass0 ha hdb he hpl
theorem pe_c0 (c : Cal X.prog X.w X.K X.mg X.base k x sp) (hr : Room j X.A) (hk : k ≤ j) (hg : Gl X x)
    (hdb : (x == ("__debug__" : Str)) = false := by decide) :
    PE X (.Call (.Name x p) [] [] pos) (tCall sp [] E0 tNil) := by
  obtain ⟨f, fd, ps, F, hm, kp, b⟩ := c.ex
  exact pe_call0 F (hr.mono hk) hg hm kp b .nil pass0 hdb
theorem pe_mk (c : Mak X.prog X.w X.K X.mg X.base k x C sp) (hr : Room j X.A) (hk : k + 1 ≤ j) (hg : Gl X x) (ha : PA X (e :: es) t)
    (hdb : (x == ("__debug__" : Str)) = false := by decide) (he : starEach (e :: es) X.env = (false, eval e X.env) :: starEach es X.env := by rfl) (hpl : (backTo pos (starEach es X.env)).any (·.1) = false := by rfl) :
    PE X (.Call (.Name x p) (e :: es) [] pos) (tMake C sp [] E0 t) := by
  obtain ⟨f, fd, ps, M, F, hm, b⟩ := c.ex
  exact pe_make M F (hr.mono hk) hg hm b .nil pass0 ha hdb he hpl
theorem pe_mt {pl : Sem Bool} (c : Met X.prog X.w X.K X.mg X.base k C m sp) (hr : Room j X.A) (hk : k ≤ j) (he : PE X o ta) (ha : PA X (e :: es) t)
    (hst : starEach (e :: es) X.env = (false, eval e X.env) :: starEach es X.env := by rfl) (hpl : (backTo pos (starEach es X.env)).any (·.1) = false := by rfl)
    (ht : eval (.Call (.Attribute o m apos) (e :: es) [] pos) X.env = (do
      let ov ← eval o X.env
      standAt apos.atName
      let (f, first) ← holding [ov] (getMethod ov m pl)
      callWith pos f first (backTo pos (starEach (e :: es) X.env)) (backToKw pos (keywordEach [] X.env))) := by rfl) :
    PE X (.Call (.Attribute o m apos) (e :: es) [] pos) (tMeth C m sp [] E0 ta t) := by
  obtain ⟨f, fd, ps, hc, hm, F, b⟩ := c.ex
  exact pe_meth (pl := pl) he hc hm F (hr.mono hk) b .nil pass0 ha hst hpl ht
theorem pe_mt0 {pl : Sem Bool} (c : Met X.prog X.w X.K X.mg X.base k C m sp) (hr : Room j X.A) (hk : k ≤ j) (he : PE X o ta)
    (ht : eval (.Call (.Attribute o m apos) [] [] pos) X.env = (do
      let ov ← eval o X.env
      standAt apos.atName
      let (f, first) ← holding [ov] (getMethod ov m pl)
      callWith pos f first (backTo pos (starEach [] X.env)) (backToKw pos (keywordEach [] X.env))) := by rfl) :
    PE X (.Call (.Attribute o m apos) [] [] pos) (tMeth C m sp [] E0 ta tNil) := by
  obtain ⟨f, fd, ps, hc, hm, F, b⟩ := c.ex
  exact pe_meth0 (pl := pl) he hc hm F (hr.mono hk) b .nil pass0 ht
/-- a call of a def that may raise, where nothing is raised -/
theorem pe_x0 (c : CalX X.prog X.w X.K X.mg X.base k x sp) (hr : Room j X.A) (hk : k ≤ j) (hg : Gl X x) (ha : PA X (e :: es) t)
    (hdb : (x == ("__debug__" : Str)) = false := by decide) (he : starEach (e :: es) X.env = (false, eval e X.env) :: starEach es X.env := by rfl) (hpl : (backTo pos (starEach es X.env)).any (·.1) = false := by rfl) :
    PE X (.Call (.Name x p) (e :: es) [] pos) (tCall sp [] E0 t) := by
  obtain ⟨f, fd, ps, F, hm, kp, b⟩ := c.ex
  exact pe_call F (hr.mono hk) hg hm kp b .nil passL ha hdb he hpl
end
/-- a built-in class as a value -/
theorem pe_ty {X : Cx} {x : Str} {pos : Pos} (n : String) (hg : Gl X x) (hm : X.mg x = none) (hv : bootBuiltins x = some (.type n)) (hn : x ≠ "__name__" := by decide) (hdb : (x == ("__debug__" : Str)) = false := by decide) : PE X (.Name x pos) (tC (.ty n)) :=
  pe_bltn hg hm hv rfl hn hdb
/-- a constant of the module -/
theorem pe_gc {X : Cx} {x : Str} {pos : Pos} {v : V} (hg : Gl X x) (h : ∃ u, X.mg x = some u ∧ RelV v u) (hdb : (x == ("__debug__" : Str)) = false := by decide) : PE X (.Name x pos) (tC v) := by
  obtain ⟨u, h1, h2⟩ := h
  exact pe_glob hg h1 h2 hdb
/-! ### heaps -/
theorem hp_new {H : Hp} {a b : Addr} {o o' : HO} (h : H a = none) (h' : H b = some o') : upd H a o b = some o' := by
  rw [upd_ne (ne_of_none h' h)]; exact h'
theorem hp_same {H H' : Hp} {b : Addr} {o : HO} (e : Same H H') (h : H b = some o) : H' b = some o := e b o h
theorem same_upd {H H' : Hp} {a : Addr} {o : HO} (e : Same H H') (h : H' a = none) : Same H (upd H' a o) := fun b o' q => hp_new h (e b o' q)
theorem same_new {H : Hp} {a : Addr} {o : HO} (h : H a = none) : Same H (upd H a o) := fun b o' q => hp_new h q
theorem cxOf_K {CX : CXT} {P : Program} {w : World} {K : PySem.W.Frag} {mg : Str → Option Value} {base : Heap} {N : List Str} {qual : Str} {scope : Scope} {f : Addr} {cd : Value} {A : Around} {outer : List Env} {s : Shared} {H : Hp} {E : XK} : (cxOf CX P w K mg base N qual scope f cd A outer s H E).nox.K = K := rfl
theorem cxOf_K' {CX : CXT} {P : Program} {w : World} {K : PySem.W.Frag} {mg : Str → Option Value} {base : Heap} {N : List Str} {qual : Str} {scope : Scope} {f : Addr} {cd : Value} {A : Around} {outer : List Env} {s : Shared} {H : Hp} {E : XK} : (cxOf CX P w K mg base N qual scope f cd A outer s H E).K = K := rfl
theorem cxOf_mg {CX : CXT} {P : Program} {w : World} {K : PySem.W.Frag} {mg : Str → Option Value} {base : Heap} {N : List Str} {qual : Str} {scope : Scope} {f : Addr} {cd : Value} {A : Around} {outer : List Env} {s : Shared} {H : Hp} {E : XK} : (cxOf CX P w K mg base N qual scope f cd A outer s H E).nox.mg = mg := rfl
theorem cxOf_mg' {CX : CXT} {P : Program} {w : World} {K : PySem.W.Frag} {mg : Str → Option Value} {base : Heap} {N : List Str} {qual : Str} {scope : Scope} {f : Addr} {cd : Value} {A : Around} {outer : List Env} {s : Shared} {H : Hp} {E : XK} : (cxOf CX P w K mg base N qual scope f cd A outer s H E).mg = mg := rfl
/-- a new tuple, a new list: all that stood stands -/
def NewT (H : Hp) (xs : List V) (Q : VK) : Prop := ∀ p H', H p = none → Same H H' → H' p = some (.tup xs) → Q (.ref p) H'
def NewL (H : Hp) (xs : List V) (Q : VK) : Prop := ∀ p H', H p = none → Same H H' → H' p = some (.lst xs) → Q (.ref p) H'
theorem NewT.at {H : Hp} {xs : List V} {Q : VK} (q : NewT H xs Q) (p : Addr) (h : H p = none) : Q (.ref p) (upd H p (.tup xs)) := q p _ h (same_new h) upd_same
theorem NewL.at {H : Hp} {xs : List V} {Q : VK} (q : NewL H xs Q) (p : Addr) (h : H p = none) : Q (.ref p) (upd H p (.lst xs)) := q p _ h (same_new h) upd_same
theorem NewT.of {H H' : Hp} {xs : List V} {Q : VK} (q : NewT H xs Q) (e : Same H H') : NewT H' xs Q := fun p H2 h s x => q p H2 (e.free h) (e.trans s) x
theorem NewL.of {H H' : Hp} {xs : List V} {Q : VK} (q : NewL H xs Q) (e : Same H H') : NewL H' xs Q := fun p H2 h s x => q p H2 (e.free h) (e.trans s) x
/-! ### readings by name -/
section
variable {X : Cx}
def aAdd (K : PySem.W.Frag) : R2 := fun x y H Q => rI0 (fun i j => .int (i + j)) x y H Q ∨ (∃ i j, x = .str i ∧ y = .str j ∧ i.length + j.length ≤ sizeLine ∧ Q (.str (i ++ j)) H) ∨ rCat x y H Q ∨ rCatA K x y H Q
theorem op_addA : OpR X (binaryOp .Add) (aAdd X.K) := op_add.or (op_add_str.or (op_cat.or op_catA))
def aMul : R2 := fun x y H Q => rI CMulW (fun i j => .int (i * j)) x y H Q ∨ rRep x y H Q
theorem op_mulA : OpR X (binaryOp .Mult) aMul := op_mulW.or op_rep
def aEq (K : PySem.W.Frag) : R2 := fun x y H Q => rEq x y H Q ∨ rEqD K x y H Q
theorem op_eqA {k : Nat} (hr : Room k X.A) : OpR X (compareOp .Eq) (aEq X.K) := op_eq.or (op_eqD hr.units)
def aNe (K : PySem.W.Frag) : R2 := fun x y H Q => rNe x y H Q ∨ rNeD K x y H Q
theorem op_neA {k : Nat} (hr : Room k X.A) : OpR X (compareOp .NotEq) (aNe X.K) := op_ne.or (op_neD hr.units)
def aLe : R2 := fun x y H Q => rI0 (fun i j => .bl (decide (i ≤ j))) x y H Q ∨ ∃ i j, x = .str i ∧ y = .str j ∧ Q (.bl (!decide (j.cps.toList < i.cps.toList))) H
theorem op_leA : OpR X (compareOp .LtE) aLe := op_le.or op_le_str
def aLt : R2 := fun x y H Q => rI0 (fun i j => .bl (decide (i < j))) x y H Q ∨ ∃ i j, x = .str i ∧ y = .str j ∧ Q (.bl (decide (i.cps.toList < j.cps.toList))) H
theorem op_ltA : OpR X (compareOp .Lt) aLt := op_lt.or op_lt_str
def aIn (K : PySem.W.Frag) : R2 := fun x y H Q => (∃ (c : Nat) (z : Str), x = .str ⟨#[c]⟩ ∧ y = .str z ∧ Q (.bl (decide (c ∈ z.cps.toList))) H) ∨ rIn K false x y H Q
theorem op_inA : OpR X (compareOp .In) (aIn X.K) := op_in_sign.or op_in_seq
def aNotIn (K : PySem.W.Frag) : R2 := fun x y H Q => (∃ (c : Nat) (z : Str), x = .str ⟨#[c]⟩ ∧ y = .str z ∧ Q (.bl (!decide (c ∈ z.cps.toList))) H) ∨ rIn K true x y H Q
theorem op_notInA : OpR X (compareOp .NotIn) (aNotIn X.K) := op_notIn_sign.or op_notIn_seq
def aLen (K : PySem.W.Frag) : List V → Hp → VK → Prop := fun xs H Q => (∃ p ys, xs = [.ref p] ∧ (SqL K H p ys ∨ SqT K H p ys) ∧ Q (.int ys.length) H) ∨ (∃ z, xs = [.str z] ∧ z.length ≤ sizeLine ∧ Q (.int z.length) H) ∨ (∃ a kvs, xs = [V.ref a] ∧ H a = some (.dK kvs) ∧ Q (.int kvs.length) H)
theorem call_lenA : CallR X (.builtin "len") (aLen X.K) := call_len_seq.or (call_len_str.or call_lenD)
def aAbs : List V → Hp → VK → Prop := fun xs H Q => ∃ i, xs = [.int i] ∧ Q (.int (if i < 0 then -i else i)) H
theorem call_absA : CallR X (.builtin "abs") aAbs := call_abs
def aMax2 : List V → Hp → VK → Prop := fun xs H Q => ∃ i j, xs = [.int i, .int j] ∧ Q (.int (if j > i then j else i)) H
theorem call_max2A (hc : X.calm = true) : CallR X (.builtin "max") aMax2 := call_max2 hc
def aMin2 : List V → Hp → VK → Prop := fun xs H Q => ∃ i j, xs = [.int i, .int j] ∧ Q (.int (if j < i then j else i)) H
theorem call_min2A (hc : X.calm = true) : CallR X (.builtin "min") aMin2 := call_min2 hc
def aInt1 : List V → Hp → VK → Prop := fun xs H Q => (∃ i, xs = [.int i] ∧ Q (.int i) H) ∨ ∃ k, xs = [.bl k] ∧ Q (.int (if k then 1 else 0)) H
theorem call_int1A : CallR X (.type "int") aInt1 := call_int1
def aStr1 : List V → Hp → VK → Prop := fun xs H Q => ∃ i, xs = [.int i] ∧ i.natAbs.log2 < 1920 ∧ Q (.str (toString i)) H
theorem call_str1A : CallR X (.type "str") aStr1 := call_str_int
def aList1 (K : PySem.W.Frag) : List V → Hp → VK → Prop := fun xs H Q => ∃ p ys, xs = [.ref p] ∧ (SqL K H p ys ∨ SqT K H p ys) ∧ ∀ l, H l = none → Q (.ref l) (upd H l (.lst ys))
theorem call_list1A : CallR X (.type "list") (aList1 X.K) := call_list_of
def aTuple1 (K : PySem.W.Frag) : List V → Hp → VK → Prop := fun xs H Q => ∃ p ys, xs = [.ref p] ∧ ((SqL K H p ys ∧ ∀ l, H l = none → Q (.ref l) (upd H l (.tup ys))) ∨ (SqT K H p ys ∧ Q (.ref p) H))
theorem call_tuple1A : CallR X (.type "tuple") (aTuple1 X.K) := call_tuple_of
def aTru (K : PySem.W.Frag) (ta : TE) : TT := fun σ H Q => ta σ H fun x H' => ∃ k, TruV K x H' k ∧ Q k H'
theorem pt_tru {a : Expr} {ta : TE} (ha : PE X a ta) (he : ∀ whole, isTrue a X.env whole = (do let v ← whole; standAt a.pos; holding [v] (truthy v))) : PT X a (aTru X.K ta) := pt_truth ha he
def aIsN : R2 := fun x y H Q => y = .non ∧ Q (.bl (decide (x = .non))) H
theorem op_isNA : OpR X (compareOp .Is) aIsN := op_isN
def aNotN : R2 := fun x y H Q => y = .non ∧ Q (.bl (!decide (x = .non))) H
theorem op_notNA : OpR X (compareOp .IsNot) aNotN := op_notN
end
/-! ### one step of a reading -/
section
variable {K : PySem.W.Frag} {σ : L2.St} {H : Hp} {N B C : L2.St → Hp → Prop} {R : VK} {t u : TS} {c d : TT} {ta tb te tc : TE} {tr : TA} {Q : VK} {g : TG} {i j : Nat} {v x y : V} {r r' : R2}
theorem L_seq (h : t ⟨u ⟨N, R, B, C⟩, R, B, C⟩ σ H) : tSeq t u ⟨N, R, B, C⟩ σ H := h
theorem L_next (h : N σ H) : tNext ⟨N, R, B, C⟩ σ H := h
theorem L_brk (h : B σ H) : tBreak ⟨N, R, B, C⟩ σ H := h
theorem L_cont (h : C σ H) : tCont ⟨N, R, B, C⟩ σ H := h
theorem L_ret (h : te σ H R) : tRet te ⟨N, R, B, C⟩ σ H := h
theorem L_retN (h : R .non H) : tRetN ⟨N, R, B, C⟩ σ H := h
theorem L_drop (h : te σ H fun _ H1 => N σ H1) : tDrop te ⟨N, R, B, C⟩ σ H := h
theorem L_asg (h : te σ H fun x H1 => g x σ H1 N) : tAsg te g ⟨N, R, B, C⟩ σ H := h
theorem L_gname {Q : L2.St → Hp → Prop} (h : Q (σ.set i (some v)) H) : gName i v σ H Q := h
theorem L_aug {ti : TIp} (hx : σ[i]? = some (some x)) (h : te σ H fun y H1 => ti x y H1 fun z H2 => N (σ.set i (some z)) H2) : tAug i te ti ⟨N, R, B, C⟩ σ H := ⟨x, hx, h⟩
theorem L_ipI {f : Int → Int → Int} {a b : Int} (h : Q (.int (f a b)) H) : ipI f (.int a) (.int b) H Q := ⟨a, b, rfl, rfl, h⟩
theorem L_ifS (h : c σ H fun b H1 => if b = true then t ⟨N, R, B, C⟩ σ H1 else u ⟨N, R, B, C⟩ σ H1) : tIfS c t u ⟨N, R, B, C⟩ σ H := h
theorem L_par (h : tr σ H fun vs H1 => ∃ v w, vs = [v, w] ∧ N ((σ.set i (some v)).set j (some w)) H1) : tPar i j tr ⟨N, R, B, C⟩ σ H := h
theorem L_par3 {l : Nat} (h : tr σ H fun vs H1 => ∃ u v w, vs = [u, v, w] ∧ N (((σ.set i (some u)).set j (some v)).set l (some w)) H1) : tPar3 i j l tr ⟨N, R, B, C⟩ σ H := h
theorem L_vs2 {Q : V → V → Prop} (h : Q x y) : ∃ v w, [x, y] = [v, w] ∧ Q v w := ⟨x, y, rfl, h⟩
theorem L_vs3 {z : V} {Q : V → V → V → Prop} (h : Q x y z) : ∃ u v w, [x, y, z] = [u, v, w] ∧ Q u v w := ⟨x, y, z, rfl, h⟩
theorem L_var (h : σ[i]? = some (some v)) (q : Q v H) : tVar i σ H Q := ⟨v, h, q⟩
theorem L_c (q : Q v H) : tC v σ H Q := q
theorem L_op (h : ta σ H fun x H1 => tb σ H1 fun y H2 => r x y H2 Q) : tOp r ta tb σ H Q := h
theorem L_un {r : V → Hp → VK → Prop} (h : ta σ H fun x H1 => r x H1 Q) : tUn r ta σ H Q := h
theorem L_rU {g : Int → V} {i : Int} (q : Q (g i) H) : rU g (.int i) H Q := ⟨i, rfl, q⟩
theorem L_I0 {g : Int → Int → V} {i j : Int} (q : Q (g i j) H) : rI0 g (.int i) (.int j) H Q := ⟨i, j, rfl, rfl, q⟩
theorem L_I {C : Int → Int → Prop} {g : Int → Int → V} {i j : Int} (hc : C i j) (q : Q (g i j) H) : rI C g (.int i) (.int j) H Q := ⟨i, j, rfl, rfl, hc, q⟩
theorem L_addI {i j : Int} (q : Q (.int (i + j)) H) : aAdd K (.int i) (.int j) H Q := .inl ⟨i, j, rfl, rfl, q⟩
theorem L_addS {a b : Str} (hl : a.length + b.length ≤ sizeLine) (q : Q (.str (a ++ b)) H) : aAdd K (.str a) (.str b) H Q := .inr (.inl ⟨a, b, rfl, rfl, hl, q⟩)
theorem L_addL {a b : Addr} {xs ys : List V} (ha : H a = some (.lst xs)) (hb : H b = some (.lst ys)) (hl : xs.length + ys.length ≤ sizeLine) (q : ∀ p, H p = none → Q (.ref p) (upd H p (.lst (xs ++ ys)))) : aAdd K (.ref a) (.ref b) H Q := .inr (.inr (.inl ⟨a, b, xs, ys, rfl, rfl, ha, hb, hl, q⟩))
theorem L_mulI {i j : Int} (hc : CMulW i j) (q : Q (.int (i * j)) H) : aMul (.int i) (.int j) H Q := .inl ⟨i, j, rfl, rfl, hc, q⟩
theorem L_eqI {i j : Int} (q : Q (.bl (decide (i = j))) H) : aEq K (.int i) (.int j) H Q := .inl ⟨rfl, by rw [show decide (V.int i = V.int j) = decide (i = j) by simp]; exact q⟩
theorem L_eqS {i j : Str} (q : Q (.bl (decide (i = j))) H) : aEq K (.str i) (.str j) H Q := .inl ⟨rfl, by rw [show decide (V.str i = V.str j) = decide (i = j) by simp]; exact q⟩
theorem L_eqB {i j : Bool} (q : Q (.bl (decide (i = j))) H) : aEq K (.bl i) (.bl j) H Q := .inl ⟨rfl, by rw [show decide (V.bl i = V.bl j) = decide (i = j) by simp]; exact q⟩
theorem L_neI {i j : Int} (q : Q (.bl (!decide (i = j))) H) : aNe K (.int i) (.int j) H Q := .inl ⟨rfl, by rw [show decide (V.int i = V.int j) = decide (i = j) by simp]; exact q⟩
theorem L_neS {i j : Str} (q : Q (.bl (!decide (i = j))) H) : aNe K (.str i) (.str j) H Q := .inl ⟨rfl, by rw [show decide (V.str i = V.str j) = decide (i = j) by simp]; exact q⟩
theorem L_eqD {d e : PyData} (hx : Dp K H x d) (hy : Dp K H y e) (sd : SeqAt.shaped d = true) (se : SeqAt.shaped e = true) (q : Q (.bl (PyData.eqv d e)) H) : aEq K x y H Q := .inr ⟨d, e, hx, hy, sd, se, q⟩
theorem L_neD {d e : PyData} (hx : Dp K H x d) (hy : Dp K H y e) (sd : SeqAt.shaped d = true) (se : SeqAt.shaped e = true) (q : Q (.bl (!PyData.eqv d e)) H) : aNe K x y H Q := .inr ⟨d, e, hx, hy, sd, se, q⟩
theorem L_leI {i j : Int} (q : Q (.bl (decide (i ≤ j))) H) : aLe (.int i) (.int j) H Q := .inl ⟨i, j, rfl, rfl, q⟩
theorem L_leS {i j : Str} (q : Q (.bl (!decide (j.cps.toList < i.cps.toList))) H) : aLe (.str i) (.str j) H Q := .inr ⟨i, j, rfl, rfl, q⟩
theorem L_ltI {i j : Int} (q : Q (.bl (decide (i < j))) H) : aLt (.int i) (.int j) H Q := .inl ⟨i, j, rfl, rfl, q⟩
theorem L_isN (q : Q (.bl (decide (x = .non))) H) : aIsN x .non H Q := ⟨rfl, q⟩
theorem L_notN (q : Q (.bl (!decide (x = .non))) H) : aNotN x .non H Q := ⟨rfl, q⟩
theorem L_inC {a : Nat} {z : Str} (q : Q (.bl (decide (a ∈ z.cps.toList))) H) : aIn K (.str ⟨#[a]⟩) (.str z) H Q := .inl ⟨a, z, rfl, rfl, q⟩
theorem L_notInC {a : Nat} {z : Str} (q : Q (.bl (!decide (a ∈ z.cps.toList))) H) : aNotIn K (.str ⟨#[a]⟩) (.str z) H Q := .inl ⟨a, z, rfl, rfl, q⟩
theorem L_fld {f : Str} (h : ta σ H fun x H1 => ∃ a C dx fs v, x = .ref a ∧ H1 a = some (.ins C dx fs) ∧ Cls K C ∧ NoAttr K C f ∧ fs.lookup f = some v ∧ Q v H1) : tFld K ta f σ H Q := h
theorem L_fldv {a C dx : Addr} {fs : List (Str × V)} {f : Str} {Q : V → Prop} (h : H a = some (.ins C dx fs)) (cl : Cls K C) (n : NoAttr K C f) (l : fs.lookup f = some v) (q : Q v) :
    ∃ a' C dx fs v, V.ref a = V.ref a' ∧ H a' = some (.ins C dx fs) ∧ Cls K C ∧ NoAttr K C f ∧ fs.lookup f = some v ∧ Q v := ⟨a, C, dx, fs, v, rfl, h, cl, n, l, q⟩
theorem L_tTest {Q : Bool → Hp → Prop} (h : te σ H fun x H' => ∃ k, x = .bl k ∧ Q k H') : tTest te σ H Q := h
theorem L_tB {Q : Bool → Hp → Prop} (h : te σ H fun x H' => ∃ k, x = .bl k ∧ Q k H') : tB te σ H Q := h
theorem L_k {b : Bool} {Q : Bool → Prop} (q : Q b) : ∃ k, V.bl b = V.bl k ∧ Q k := ⟨b, rfl, q⟩
theorem L_tru {Q : Bool → Hp → Prop} (h : te σ H fun x H' => ∃ k, TruV K x H' k ∧ Q k H') : aTru K te σ H Q := h
theorem L_truB {b : Bool} {Q : Bool → Prop} (q : Q b) : ∃ k, TruV K (.bl b) H k ∧ Q k := ⟨b, rfl, q⟩
theorem L_truI {i : Int} {Q : Bool → Prop} (q : Q (i != 0)) : ∃ k, TruV K (.int i) H k ∧ Q k := ⟨_, rfl, q⟩
theorem L_and {Q : Bool → Hp → Prop} (h : c σ H fun b H1 => if b = true then d σ H1 Q else Q false H1) : tAnd c d σ H Q := h
theorem L_or {Q : Bool → Hp → Prop} (h : c σ H fun b H1 => if b = true then Q true H1 else d σ H1 Q) : tOr c d σ H Q := h
theorem L_not {Q : Bool → Hp → Prop} (h : c σ H fun b H1 => Q (!b) H1) : tNot c σ H Q := h
theorem L_andV (h : ta σ H fun x H1 => ∃ c, x = .bl c ∧ if c = true then tb σ H1 Q else Q (.bl false) H1) : tAndV ta tb σ H Q := h
theorem L_orV (h : ta σ H fun x H1 => ∃ c, x = .bl c ∧ if c = true then Q (.bl true) H1 else tb σ H1 Q) : tOrV ta tb σ H Q := h
theorem L_notV (h : ta σ H fun x H1 => ∃ c, x = .bl c ∧ Q (.bl (!c)) H1) : tNotV ta σ H Q := h
theorem L_ifE (h : c σ H fun b H1 => if b = true then ta σ H1 Q else tb σ H1 Q) : tIf c ta tb σ H Q := h
theorem L_chain (h : ta σ H fun x H1 => tb σ H1 fun y H2 => r x y H2 fun z H3 => ∃ k, z = .bl k ∧ (if k = true then tc σ H3 fun w' H4 => r' y w' H4 Q else Q (.bl false) H3)) : tChain r r' ta tb tc σ H Q := h
theorem L_T {A B : Prop} (a : A) : if true = true then A else B := by rw [if_pos rfl]; exact a
theorem L_F {A B : Prop} (b : B) : if false = true then A else B := by rw [if_neg Bool.false_ne_true]; exact b
theorem L_dT {p : Prop} [Decidable p] {A B : Prop} (h : p) (a : A) : if decide p = true then A else B := by rw [decide_eq_true h]; exact L_T a
theorem L_dF {p : Prop} [Decidable p] {A B : Prop} (h : ¬ p) (b : B) : if decide p = true then A else B := by rw [decide_eq_false h]; exact L_F b
theorem L_d {p : Prop} [Decidable p] {A B : Prop} (a : p → A) (b : ¬ p → B) : if decide p = true then A else B := by
  by_cases h : p
  · exact L_dT h (a h)
  · exact L_dF h (b h)
theorem L_nd {p : Prop} [Decidable p] {A B : Prop} (a : ¬ p → A) (b : p → B) : if (!decide p) = true then A else B := by
  by_cases h : p
  · rw [decide_eq_true h]; exact L_F (b h)
  · rw [decide_eq_false h]; exact L_T (a h)
theorem L_ndT {p : Prop} [Decidable p] {A B : Prop} (h : ¬ p) (a : A) : if (!decide p) = true then A else B := by rw [decide_eq_false h]; exact L_T a
theorem L_ndF {p : Prop} [Decidable p] {A B : Prop} (h : p) (b : B) : if (!decide p) = true then A else B := by rw [decide_eq_true h]; exact L_F b
theorem L_b {k : Bool} {A B : Prop} (a : k = true → A) (b : k = false → B) : if k = true then A else B := by
  cases k with
  | true => exact L_T (a rfl)
  | false => exact L_F (b rfl)
theorem L_nT {A B : Prop} (b : B) : if (!true) = true then A else B := L_F b
theorem L_nF {A B : Prop} (a : A) : if (!false) = true then A else B := L_T a
theorem L_nil {Q : List V → Hp → Prop} (q : Q [] H) : tNil σ H Q := q
theorem L_cons {Q : List V → Hp → Prop} (h : ta σ H fun x H1 => tr σ H1 fun xs H2 => Q (x :: xs) H2) : tCons ta tr σ H Q := h
theorem L_tup (h : tr σ H fun xs H1 => xs.length ≤ sizeLine ∧ ∀ p, H1 p = none → Q (.ref p) (upd H1 p (.tup xs))) : tTup tr σ H Q := h
theorem L_lst (h : tr σ H fun xs H1 => xs.length ≤ sizeLine ∧ ∀ p, H1 p = none → Q (.ref p) (upd H1 p (.lst xs))) : tLst tr σ H Q := h
theorem L_new {n : Nat} {R : Prop} (hl : n ≤ sizeLine) (q : R) : n ≤ sizeLine ∧ R := ⟨hl, q⟩
theorem L_call {sp : Sp} {E : XK} (h : tr σ H fun vs H1 => sp vs H1 Q E) : tCall sp [] E tr σ H Q := by
  unfold tCall
  simp only [List.append_nil]
  exact h
theorem L_cb {r : List V → Hp → VK → Prop} (h : tr σ H fun vs H1 => r vs H1 Q) : tCB r tr σ H Q := h
theorem L_lenL {a : Addr} {xs : List V} (h : SqL K H a xs) (q : Q (.int xs.length) H) : aLen K [.ref a] H Q := .inl ⟨a, xs, rfl, .inl h, q⟩
theorem L_lenT {a : Addr} {xs : List V} (h : SqT K H a xs) (q : Q (.int xs.length) H) : aLen K [.ref a] H Q := .inl ⟨a, xs, rfl, .inr h, q⟩
theorem L_lenS {z : Str} (h : z.length ≤ sizeLine) (q : Q (.int z.length) H) : aLen K [.str z] H Q := .inr (.inl ⟨z, rfl, h, q⟩)
theorem L_abs {i : Int} (q : Q (.int (if i < 0 then -i else i)) H) : aAbs [.int i] H Q := ⟨i, rfl, q⟩
theorem L_max2 {i j : Int} (q : Q (.int (max i j)) H) : aMax2 [.int i, .int j] H Q := ⟨i, j, rfl, by rw [show (if j > i then j else i) = max i j by omega]; exact q⟩
theorem L_min2 {i j : Int} (q : Q (.int (min i j)) H) : aMin2 [.int i, .int j] H Q := ⟨i, j, rfl, by rw [show (if j < i then j else i) = min i j by omega]; exact q⟩
theorem L_int1 {i : Int} (q : Q (.int i) H) : aInt1 [.int i] H Q := .inl ⟨i, rfl, q⟩
theorem L_int1B {k : Bool} (q : Q (.int (if k then 1 else 0)) H) : aInt1 [.bl k] H Q := .inr ⟨k, rfl, q⟩
theorem L_isi {a n : String} {b : Bool} (hx : TyX K H x (.type a)) (hk : kitB a n = some b) (q : Q (.bl b) H) : rIsi K [x, .ty n] H Q := ⟨x, .ty n, .type a, .type n, b, rfl, .ty n, hx, kit_ty hk, q⟩
theorem L_ixL {p : Addr} {xs : List V} {i : Int} (h : SqL K H p xs) (ha : atI xs i = some v) (q : Q v H) : rIx K (.ref p) (.int i) H Q := .inl ⟨p, xs, i, v, rfl, rfl, h, ha, q⟩
theorem L_ixT {p : Addr} {xs : List V} {i : Int} (h : SqT K H p xs) (ha : atI xs i = some v) (q : Q v H) : rIx K (.ref p) (.int i) H Q := .inr (.inl ⟨p, xs, i, v, rfl, rfl, h, ha, q⟩)
theorem L_ixS {z : Str} {i : Int} {a : Nat} (h : z.length ≤ sizeLine) (ha : atI z.cps.toList i = some a) (q : Q (.str ⟨#[a]⟩) H) : rIx K (.str z) (.int i) H Q := .inr (.inr ⟨z, i, a, rfl, rfl, h, ha, q⟩)
theorem L_bm {T : String} {r : V → List V → Hp → VK → Prop} (h : te σ H fun x H1 => tyV K T x H1 ∧ tr σ H1 fun xs H2 => r x xs H2 Q) : tBM K T r te tr σ H Q := h
theorem L_tyL {a : Addr} {xs : List V} {R : Prop} (h : SqL K H a xs) (q : R) : tyV K "list" (.ref a) H ∧ R := ⟨.inl ⟨rfl, xs, h⟩, q⟩
theorem L_app {a : Addr} {xs : List V} (h : H a = some (.lst xs)) (hl : xs.length < sizeLine) (q : Q .non (upd H a (.lst (xs ++ [v])))) : rAppend (.ref a) [v] H Q := ⟨a, xs, v, rfl, rfl, h, hl, q⟩
theorem L_sum {a : Addr} {ns : List Int} (h : SqL K H a (ns.map V.int)) (q : Q (.int ns.sum) H) : rSum K [.ref a] H Q := ⟨a, ns, rfl, h, q⟩
theorem L_while (W : Nat → L2.St → Hp → Prop) (h0 : ∃ m, W m σ H) (hs : ∀ m σ H, W m σ H → c σ H fun b H1 => if b = true then ∃ M : L2.St → Hp → Prop, (∀ σ' H', M σ' H' → ∃ m', m' < m ∧ W m' σ' H') ∧ t ⟨M, R, N, M⟩ σ H1 else N σ H1) : tWhile c t ⟨N, R, B, C⟩ σ H := ⟨W, h0, hs⟩
theorem L_N {W : Nat → L2.St → Hp → Prop} {m : Nat} (h : t ⟨fun σ' H' => ∃ m', m' < m ∧ W m' σ' H', R, N, fun σ' H' => ∃ m', m' < m ∧ W m' σ' H'⟩ σ H) :
    ∃ M : L2.St → Hp → Prop, (∀ σ' H', M σ' H' → ∃ m', m' < m ∧ W m' σ' H') ∧ t ⟨M, R, N, M⟩ σ H := ⟨_, fun _ _ h => h, h⟩
theorem L_cut {Mid : L2.St → Hp → Prop} (h : t ⟨Mid, R, B, C⟩ σ H) (k : ∀ σ' H', Mid σ' H' → u ⟨N, R, B, C⟩ σ' H') : Evl.tCut t u ⟨N, R, B, C⟩ σ H := ⟨Mid, h, k⟩
theorem L_for {wi : TI} (h : wi σ H fun J H1 => ∃ W : Nat → Nat → L2.St → Hp → Prop, (∃ m, W 0 m σ H1) ∧ ∀ i m σ H, W i m σ H →
      (J.stop i H ∧ N σ H) ∨ (J.go i H ∧ ∃ M : L2.St → Hp → Prop, (∀ σ' H', M σ' H' → ∃ m', m' < m ∧ W (i + 1) m' σ' H') ∧ ∀ x H', J.yld i H x H' → g x σ H' fun σ2 H2 => t ⟨M, R, N, M⟩ σ2 H2)) : tFor wi g t ⟨N, R, B, C⟩ σ H := h
theorem L_iRng1 {R : It → Hp → Prop} (h : tr σ H fun vs H1 => ∃ j : Int, vs = [.int j] ∧ -(2 ^ 62) ≤ j ∧ j < 2 ^ 62 ∧ R (Itr 0 j.toNat) H1) : iRng1 tr σ H R := h
theorem L_iRng2 {R : It → Hp → Prop} (h : tr σ H fun vs H1 => ∃ i j : Int, vs = [.int i, .int j] ∧ (-(2 ^ 62) ≤ i ∧ i < 2 ^ 62 ∧ -(2 ^ 62) ≤ j ∧ j < 2 ^ 62) ∧ R (Itr i (j - i).toNat) H1) : iRng2 tr σ H R := h
theorem L_iList {R : It → Hp → Prop} (h : te σ H fun x H1 => ∃ a, x = .ref a ∧ (∃ xs, SqL K H1 a xs) ∧ R (Itl K a) H1) : iList K te σ H R := h
theorem L_iTup {R : It → Hp → Prop} (h : te σ H fun x H1 => ∃ a, x = .ref a ∧ (∃ xs, SqT K H1 a xs) ∧ R (Itt K a) H1) : iTup K te σ H R := h
theorem L_r1 {n : Int} {R : Int → Prop} (h1 : -(2 ^ 62) ≤ n) (h2 : n < 2 ^ 62) (q : R n) : ∃ j : Int, [V.int n] = [V.int j] ∧ -(2 ^ 62) ≤ j ∧ j < 2 ^ 62 ∧ R j := ⟨n, rfl, h1, h2, q⟩
theorem L_r2 {a n : Int} {R : Int → Int → Prop} (h : -(2 ^ 62) ≤ a ∧ a < 2 ^ 62 ∧ -(2 ^ 62) ≤ n ∧ n < 2 ^ 62) (q : R a n) : ∃ i j : Int, [V.int a, V.int n] = [V.int i, V.int j] ∧ (-(2 ^ 62) ≤ i ∧ i < 2 ^ 62 ∧ -(2 ^ 62) ≤ j ∧ j < 2 ^ 62) ∧ R i j := ⟨a, n, rfl, h, q⟩
theorem L_rl {a : Addr} {xs : List V} {R : Addr → Prop} (h : SqL K H a xs) (q : R a) : ∃ b, V.ref a = V.ref b ∧ (∃ xs, SqL K H b xs) ∧ R b := ⟨a, rfl, ⟨xs, h⟩, q⟩
theorem L_rt {a : Addr} {xs : List V} {R : Addr → Prop} (h : SqT K H a xs) (q : R a) : ∃ b, V.ref a = V.ref b ∧ (∃ xs, SqT K H b xs) ∧ R b := ⟨a, rfl, ⟨xs, h⟩, q⟩
end
theorem sz_dec {n : Nat} (h : n ≤ 1000000) : n ≤ sizeLine := Nat.le_trans h (by decide)
theorem sz_lt {n : Nat} (h : n < 1000000) : n < sizeLine := Nat.lt_of_lt_of_le h (by decide)
/-! ### sizes of ints -/
/-- less than n bits -/
def Bd (n : Nat) (i : Int) : Prop := i.natAbs < 2 ^ n
theorem Bd.mono {n m : Nat} {i : Int} (h : Bd n i) (hm : n ≤ m) : Bd m i := Nat.lt_of_lt_of_le h (Nat.pow_le_pow_right (by decide) hm)
theorem Bd.mul {n m : Nat} {i j : Int} (h : Bd n i) (k : Bd m j) : Bd (n + m) (i * j) := wide_lt h k
theorem Bd.add {n m : Nat} {i j : Int} (h : Bd n i) (k : Bd m j) : Bd (max n m + 1) (i + j) := by
  have a := h.mono (Nat.le_max_left n m)
  have b := k.mono (Nat.le_max_right n m)
  unfold Bd at *
  rw [Nat.pow_succ]
  have := Int.natAbs_add_le i j
  omega
theorem Bd.neg {n : Nat} {i : Int} (h : Bd n i) : Bd n (-i) := by unfold Bd at *; rw [Int.natAbs_neg]; exact h
theorem Bd.sub {n m : Nat} {i j : Int} (h : Bd n i) (k : Bd m j) : Bd (max n m + 1) (i - j) := by
  rw [Int.sub_eq_add_neg]; exact h.add k.neg
theorem Bd.cmul {n m : Nat} {i j : Int} (h : Bd n i) (k : Bd m j) (hz : n + m + 2 ≤ 1000000 := by decide) : CMulW i j :=
  wide_mul (h.mono (Nat.le_succ n)) (k.mono (Nat.le_succ m)) (Nat.succ_pos _) (Nat.succ_pos _) (by omega)
theorem Bd.cdiv {n : Nat} {i j : Int} (k : Bd n j) (h : 0 < j) (hz : n + 1 ≤ 9000 := by decide) : CDivW i j := wide_div h (k.mono (Nat.le_succ n)) (Nat.succ_pos _) hz
theorem bd_lit {i : Int} (h : -4294967296 < i ∧ i < 4294967296) : Bd 32 i := by
  unfold Bd
  have : (2 : Nat) ^ 32 = 4294967296 := by decide
  omega
theorem bd_64 {i : Int} (h : -18446744073709551616 < i ∧ i < 18446744073709551616) : Bd 64 i := by
  unfold Bd
  have : (2 : Nat) ^ 64 = 18446744073709551616 := by decide
  omega
/-- an item of the script, or what stands in its place -/
def cellAt (ns : List Int) (k d : Int) : Int := if k < (ns.length : Int) then ns.getD k.toNat 0 else d
theorem cellAt_in {ns : List Int} {k d : Int} (h0 : 0 ≤ k) (h : k < (ns.length : Int)) : atI (ns.map V.int) k = some (V.int (cellAt ns k d)) := by
  obtain ⟨j, rfl⟩ : ∃ j : Nat, k = (j : Int) := ⟨k.toNat, by omega⟩
  have hl : j < ns.length := by omega
  unfold cellAt
  rw [if_pos h]
  refine atI_nat ?_
  rw [List.getElem?_map, List.getElem?_eq_getElem hl]
  simp [List.getD, List.getElem?_eq_getElem hl]
theorem cellAt_out {ns : List Int} {k d : Int} (h : ¬ k < (ns.length : Int)) : cellAt ns k d = d := if_neg h
theorem cellAt_mem {ns : List Int} {k d : Int} (h0 : 0 ≤ k) : cellAt ns k d ∈ ns ∨ cellAt ns k d = d := by
  unfold cellAt
  split
  · rename_i h
    have hl : k.toNat < ns.length := by omega
    left
    simp [List.getD, List.getElem?_eq_getElem hl]
  · exact .inr rfl
theorem _root_.L2.Same.seqT {K : PySem.W.Frag} {H H' : Hp} {a : Addr} {xs : List V} (e : Same H H') (h : SqT K H a xs) : SqT K H' a xs := by
  rcases h with (h | ⟨o, h⟩) | h
  · exact .inl (.inl (e _ _ h))
  · exact .inl (.inr ⟨o, e _ _ h⟩)
  · exact .inr h
/-! ### what is walked: more -/
section
variable {K : PySem.W.Frag} {σ : L2.St} {H : Hp} {te : TE} {tr : TA} {Q : VK} {g : TG} {tt : TT}
theorem L_yes {Q : Bool → Hp → Prop} (q : Q true H) : tYes σ H Q := q
theorem L_iZip {R : It → Hp → Prop} (h : tr σ H fun vs H1 => ∃ a b xs ys, vs = [.ref a, .ref b] ∧ SqL K H1 a xs ∧ SqL K H1 b ys ∧ R (Itz K a b) H1) : iZip K tr σ H R := h
theorem L_iEnum {R : It → Hp → Prop} (h : tr σ H fun vs H1 => ∃ a xs, vs = [.ref a] ∧ SqL K H1 a xs ∧ R (Ite K a) H1) : iEnum K tr σ H R := h
theorem L_iStr {R : It → Hp → Prop} (h : te σ H fun v H1 => ∃ x, v = .str x ∧ R (Its x) H1) : iStr te σ H R := h
theorem L_iRng3 {R : It → Hp → Prop} (h : tr σ H fun vs H1 => ∃ (i j c : Int) (n : Nat), vs = [.int i, .int j, .int c] ∧ RgC i j c n ∧ R (Itc i c n) H1) : iRng3 tr σ H R := h
theorem L_rz {a b : Addr} {xs ys : List V} {R : Addr → Addr → Prop} (h1 : SqL K H a xs) (h2 : SqL K H b ys) (q : R a b) : ∃ a' b' xs ys, [V.ref a, V.ref b] = [.ref a', .ref b'] ∧ SqL K H a' xs ∧ SqL K H b' ys ∧ R a' b' := ⟨a, b, xs, ys, rfl, h1, h2, q⟩
theorem L_re {a : Addr} {xs : List V} {R : Addr → Prop} (h1 : SqL K H a xs) (q : R a) : ∃ a' xs, [V.ref a] = [.ref a'] ∧ SqL K H a' xs ∧ R a' := ⟨a, xs, rfl, h1, q⟩
theorem L_rs {z : Str} {R : Str → Prop} (q : R z) : ∃ x, V.str z = .str x ∧ R x := ⟨z, rfl, q⟩
theorem L_r3 {i j c : Int} {n : Nat} {R : Int → Int → Nat → Prop} (h : RgC i j c n) (q : R i c n) : ∃ (i' j' c' : Int) (n : Nat), [V.int i, V.int j, V.int c] = [.int i', .int j', .int c'] ∧ RgC i' j' c' n ∧ R i' c' n := ⟨i, j, c, n, rfl, h, q⟩
theorem L_lc {wi : TI} {vs : List Nat} (h : wi σ H fun J H1 => ∀ D, H1 D = none → ∃ W : Nat → Nat → Hp → Prop, (∃ m, W 0 m (upd H1 D (.lst []))) ∧ ∀ i m H, W i m H →
  (J.stop i H ∧ Q (.ref D) H) ∨ (J.go i H ∧ ∃ Nx : Hp → Prop, (∀ H', Nx H' → ∃ m', m' < m ∧ W (i + 1) m' H') ∧ ∀ x H', J.yld i H x H' → g x (wipe σ vs) H' fun σ2 H2 => wipe σ2 vs = wipe σ vs ∧ tt σ2 H2 fun b H3 =>
    if b = true then te σ2 H3 fun y H4 => ∃ acc, H4 D = some (.lst acc) ∧ acc.length < sizeLine ∧ Nx (upd H4 D (.lst (acc ++ [y]))) else Nx H3)) : tLc wi g tt te vs σ H Q := h
theorem fm_succ (f : Nat → Option V) (i : Nat) : (List.range (i + 1)).filterMap f = (List.range i).filterMap f ++ (match f i with | some y => [y] | none => []) := by
  rw [List.range_succ, List.filterMap_append]
  cases h : f i <;> simp [h]
theorem fm_len (f : Nat → Option V) (i : Nat) : ((List.range i).filterMap f).length ≤ i := by
  have := List.length_filterMap_le f (List.range i)
  simpa using this
/-- a comprehension whose things are told one by one: f i is what turn i gives, none where its test is false -/
theorem lc_fm {J : It} {n : Nat} {G : Hp → Prop} {Y : Nat → Hp → V → Hp → Prop} (w : L2.Walk J n G Y) {vs : List Nat} {Qd : Addr → Hp → Prop} (f : Nat → Option V) (hn : n ≤ 1000000) (hG : ∀ H', Same H H' → G H')
    (hs : ∀ i x H2 H' (R : V → Hp → Prop) (R' : Hp → Prop), i < n → Same H H2 → Y i H2 x H' → (∀ y H4, f i = some y → Same H2 H4 → R y H4) → (∀ H3, f i = none → Same H2 H3 → R' H3) →
      g x (wipe σ vs) H' fun σ2 H2 => wipe σ2 vs = wipe σ vs ∧ tt σ2 H2 fun b H3 => if b = true then te σ2 H3 R else R' H3)
    (q : ∀ p H', H p = none → Same H H' → H' p = some (.lst ((List.range n).filterMap f)) → Qd p H') :
    ∀ D, H D = none → ∃ W : Nat → Nat → Hp → Prop, (∃ m, W 0 m (upd H D (.lst []))) ∧ ∀ i m H, W i m H →
      (J.stop i H ∧ Qd D H) ∨ (J.go i H ∧ ∃ Nx : Hp → Prop, (∀ H', Nx H' → ∃ m', m' < m ∧ W (i + 1) m' H') ∧ ∀ x H', J.yld i H x H' → g x (wipe σ vs) H' fun σ2 H2 => wipe σ2 vs = wipe σ vs ∧ tt σ2 H2 fun b H3 =>
        if b = true then te σ2 H3 fun y H4 => ∃ acc, H4 D = some (.lst acc) ∧ acc.length < sizeLine ∧ Nx (upd H4 D (.lst (acc ++ [y]))) else Nx H3) := by
  intro D hD
  refine lc_it w (fun i H2 => Same H H2 ∧ H2 D = some (.lst ((List.range i).filterMap f))) ⟨same_new hD, upd_same⟩ (fun i H2 _ p => hG H2 p.1) ?_ (fun H2 p => q D H2 hD p.1 p.2)
  intro i x H2 H' hi ⟨p1, p2⟩ y
  refine hs i x H2 H' _ _ hi p1 y (fun y H4 e s => ?_) (fun H3 e s => ?_)
  · refine ⟨_, s _ _ p2, sz_lt (by have := fm_len f i; omega), ?_, ?_⟩
    · intro b o hb
      rw [upd_ne (ne_of_none hb hD)]
      exact s _ _ (p1 _ _ hb)
    · rw [fm_succ, e]; exact upd_same
  · refine ⟨p1.trans s, ?_⟩
    rw [fm_succ, e, List.append_nil]
    exact s _ _ p2
theorem fm_map {α : Type} (f : Nat → α) (h : α → V) (n : Nat) : (List.range n).filterMap (fun i => some (h (f i))) = ((List.range n).map f).map h := by
  rw [List.map_map]
  induction n with
  | zero => rfl
  | succ n ih => rw [fm_succ (fun i => some (h (f i))), ih, List.range_succ, List.map_append]; rfl
theorem rgC_up {i j c : Int} (hc : 0 < c) (hc2 : c < 1000000) (hi : -1000000000 ≤ i ∧ i ≤ 1000000000) (hj : -1000000000 ≤ j ∧ j ≤ 1000000000) : RgC i j c (if i < j then ((j - i - 1) / c + 1).toNat else 0) := by
  have e : Builtin.Range.rangeSize i j c = ((if i < j then ((j - i - 1) / c + 1).toNat else 0 : Nat) : Int) := by
    unfold Builtin.Range.rangeSize
    rw [if_pos (by omega)]
    split
    · have : 0 ≤ (j - i - 1) / c := Int.ediv_nonneg (by omega) (by omega)
      omega
    · rfl
  refine ⟨by omega, by omega, ?_, e⟩
  unfold Builtin.Range.small
  rw [e]
  have hz : ((if i < j then ((j - i - 1) / c + 1).toNat else 0 : Nat) : Int) * c ≤ 4000000000 ∧ ((if i < j then ((j - i - 1) / c + 1).toNat else 0 : Nat) : Int) ≤ 4000000000 ∧ 0 ≤ ((if i < j then ((j - i - 1) / c + 1).toNat else 0 : Nat) : Int) := by
    split
    · have h0 : 0 ≤ (j - i - 1) / c := Int.ediv_nonneg (by omega) (by omega)
      have h1 : (j - i - 1) / c * c ≤ j - i - 1 := Int.ediv_mul_le _ (by omega)
      have h2 : (j - i - 1) / c ≤ j - i - 1 := Int.ediv_le_self _ (by omega)
      have h3 : (((j - i - 1) / c + 1).toNat : Int) = (j - i - 1) / c + 1 := by omega
      rw [h3, Int.add_mul]
      omega
    · simp
  generalize ((if i < j then ((j - i - 1) / c + 1).toNat else 0 : Nat) : Int) = n at *
  simp only [Builtin.Range.rangeFitsLong, Bool.and_eq_true, Bool.or_eq_true, decide_eq_true_eq, beq_iff_eq]
  refine ⟨by omega, .inr ?_⟩
  rw [if_pos (by omega), Bool.and_eq_true, decide_eq_true_eq, decide_eq_true_eq]
  omega
/-- what making an instance asks -/
def MakeP (C : Addr) (sp : Sp) (E : XK) (vs : List V) (H : Hp) (Q : VK) : Prop := ∀ x dx, H x = none → H dx = none → dx ≠ x → sp (.ref x :: vs) (upd (upd H dx (.own x)) x (.ins C dx [])) (fun v H2 => v = .non ∧ Q (.ref x) H2) E
theorem L_make {C : Addr} {sp : Sp} {E : XK} (h : tr σ H fun vs H1 => MakeP C sp E vs H1 Q) : tMake C sp [] E tr σ H Q := by
  unfold tMake
  simp only [List.append_nil]
  exact h
/-- a new instance: all that stood stands -/
def NewI (H : Hp) (C : Addr) (fs : List (Str × V)) (Q : VK) : Prop := ∀ p H' dx, H p = none → Same H H' → H' p = some (.ins C dx fs) → Q (.ref p) H'
theorem L_gTup {n : Nat} {t : TGs} {a : Addr} {xs : List V} {Q : L2.St → Hp → Prop} (h : SqT K H a xs) (hn : xs.length = n) (q : t xs σ H Q) : gTup K n t (.ref a) σ H Q := ⟨a, xs, rfl, h, hn, q⟩
theorem L_gLst {n : Nat} {t : TGs} {a : Addr} {xs : List V} {Q : L2.St → Hp → Prop} (h : SqL K H a xs) (hn : xs.length = n) (q : t xs σ H Q) : gLst K n t (.ref a) σ H Q := ⟨a, xs, rfl, h, hn, q⟩
theorem L_gCons {v : V} {r : List V} {t : TG} {u : TGs} {Q : L2.St → Hp → Prop} (q : t v σ H fun σ' H' => u r σ' H' Q) : gCons t u (v :: r) σ H Q := ⟨v, r, rfl, q⟩
theorem L_gNil {Q : L2.St → Hp → Prop} (q : Q σ H) : gNil [] σ H Q := ⟨rfl, q⟩
theorem L_sub {to ti : TE} {t : TSet} {v : V} {Q : L2.St → Hp → Prop} (h : to σ H fun o H1 => ti σ H1 fun i H2 => t o i v H2 fun H3 => Q σ H3) : gSub to ti t v σ H Q := h
theorem L_setL {p : Addr} {xs : List V} {k : Int} {j : Nat} {v : V} {Q : Hp → Prop} (h : H p = some (.lst xs)) (hj : ixN xs.length k = some j) (q : Q (upd H p (.lst (xs.set j v)))) : rSetL (.ref p) (.int k) v H Q := ⟨p, xs, k, j, rfl, rfl, h, hj, q⟩
theorem ixN_of {n : Nat} {k : Int} (h0 : 0 ≤ k) (h : k < n) : ixN n k = some k.toNat := by
  unfold ixN
  rw [if_pos h0, if_pos h]
theorem L_sFld {f : Str} {ta tv : TE} {N B C' : L2.St → Hp → Prop} {R : VK} (h : tv σ H fun y H1 => ta σ H1 fun x H2 => ∃ a C dx fs, x = .ref a ∧ H2 a = some (.ins C dx fs) ∧ Cls K C ∧ NoAttr K C f ∧ fs.length < 1000 ∧ N σ (upd H2 a (.ins C dx (putF f y fs)))) : sFld K ta tv f ⟨N, R, B, C'⟩ σ H := h
theorem L_sFldv {a C dx : Addr} {fs : List (Str × V)} {f : Str} {Q : Addr → Addr → Addr → List (Str × V) → Prop} (h : H a = some (.ins C dx fs)) (cl : Cls K C) (n : NoAttr K C f) (l : fs.length < 1000) (q : Q a C dx fs) :
    ∃ a' C dx fs, V.ref a = V.ref a' ∧ H a' = some (.ins C dx fs) ∧ Cls K C ∧ NoAttr K C f ∧ fs.length < 1000 ∧ Q a' C dx fs := ⟨a, C, dx, fs, rfl, h, cl, n, l, q⟩
theorem L_repL {a : Addr} {xs : List V} {k : Int} (h : H a = some (.lst xs)) (h1 : -(2 ^ 63) ≤ k) (h2 : k < 2 ^ 63) (h3 : xs.length * k.toNat ≤ sizeLine) (q : ∀ p, H p = none → Q (.ref p) (upd H p (.lst (List.replicate k.toNat xs).flatten))) : aMul (.ref a) (.int k) H Q := .inr ⟨a, k, xs, rfl, rfl, h, h1, h2, h3, q⟩
theorem atI_int {xs : List V} {k : Int} {v : V} (h0 : 0 ≤ k) (h : xs[k.toNat]? = some v) : atI xs k = some v := by
  obtain ⟨j, rfl⟩ : ∃ j : Nat, k = (j : Int) := ⟨k.toNat, by omega⟩
  exact atI_nat h
theorem atI_ints {xs : List Int} {k : Int} (h0 : 0 ≤ k) (h : k < xs.length) : atI (xs.map V.int) k = some (.int (xs.getD k.toNat 0)) := by
  refine atI_int h0 ?_
  have hl : k.toNat < xs.length := by omega
  rw [List.getElem?_map, List.getElem?_eq_getElem hl]
  simp [List.getD, List.getElem?_eq_getElem hl]
theorem L_nw {xs : List V} {R : Prop} (q : R) (hl : xs.length ≤ 1000000 := by simp) : xs.length ≤ sizeLine ∧ R := ⟨sz_dec hl, q⟩
end
theorem fm_succ' {α : Type} (f : Nat → Option α) (i : Nat) : (List.range (i + 1)).filterMap f = (List.range i).filterMap f ++ (match f i with | some y => [y] | none => []) := by
  rw [List.range_succ, List.filterMap_append]
  cases h : f i <;> simp [h]
theorem fm_len' {α : Type} (f : Nat → Option α) (i : Nat) : ((List.range i).filterMap f).length ≤ i := by
  have := List.length_filterMap_le f (List.range i)
  simpa using this
/-! ### data as trees -/
mutual
theorem Dp_same {K : PySem.W.Frag} {H H' : Hp} (e : Same H H') : ∀ (d : PyData) {v : V}, Dp K H v d → Dp K H' v d
  | .none, _, h => by cases h; exact .non
  | .bool b, _, h => by cases h; exact .bl b
  | .int i, _, h => by cases h; exact .int i
  | .str x, _, h => by cases h; exact .str x
  | .list ds, _, h => by cases h with | lst hs ha => exact .lst (e.seq hs) (DpAll_same e ds ha)
  | .tuple ds, _, h => by cases h with | tup hs ha => exact .tup (e.seqT hs) (DpAll_same e ds ha)
  | .dict _, _, h => by cases h
theorem DpAll_same {K : PySem.W.Frag} {H H' : Hp} (e : Same H H') : ∀ (ds : List PyData) {vs : List V}, DpAll K H vs ds → DpAll K H' vs ds
  | [], _, h => by cases h; exact .nil
  | d :: ds, _, h => by cases h with | cons h1 h2 => exact .cons (Dp_same e d h1) (DpAll_same e ds h2)
end
section
variable {K : PySem.W.Frag} {H H' : Hp} {v : V} {vs : List V} {d : PyData} {ds : List PyData}
theorem _root_.L2.Dp.same (h : Dp K H v d) (e : Same H H') : Dp K H' v d := Dp_same e d h
theorem _root_.L2.DpAll.same (h : DpAll K H vs ds) (e : Same H H') : DpAll K H' vs ds := DpAll_same e ds h
theorem _root_.L2.DpAll.len : ∀ {ds : List PyData} {vs : List V}, DpAll K H vs ds → vs.length = ds.length
  | [], _, h => by cases h; rfl
  | d :: ds, _, h => by cases h with | cons h1 h2 => rw [List.length_cons, List.length_cons, h2.len]
theorem _root_.L2.DpAll.at : ∀ {ds : List PyData} {vs : List V} {i : Nat}, DpAll K H vs ds → ds[i]? = some d → ∃ v, vs[i]? = some v ∧ Dp K H v d
  | [], _, i, h, e => by simp at e
  | c :: ds, _, 0, h, e => by
    cases h with
    | cons h1 h2 =>
      rename_i v vs
      have : c = d := by simpa using e
      subst this
      exact ⟨v, by simp, h1⟩
  | c :: ds, _, i + 1, h, e => by
    cases h with
    | cons h1 h2 =>
      obtain ⟨v, q1, q2⟩ := h2.at (i := i) (by simpa using e)
      exact ⟨v, by simpa using q1, q2⟩
theorem _root_.L2.DpAll.of : ∀ {ds : List PyData} {vs : List V} {i : Nat}, DpAll K H vs ds → vs[i]? = some v → ∃ d, ds[i]? = some d ∧ Dp K H v d
  | [], _, i, h, e => by cases h; simp at e
  | c :: ds, _, 0, h, e => by
    cases h with
    | cons h1 h2 =>
      rename_i w vs
      have : w = v := by simpa using e
      subst this
      exact ⟨c, by simp, h1⟩
  | c :: ds, _, i + 1, h, e => by
    cases h with
    | cons h1 h2 =>
      obtain ⟨d, q1, q2⟩ := h2.of (i := i) (by simpa using e)
      exact ⟨d, by simpa using q1, q2⟩
theorem _root_.L2.DpAll.app : ∀ {ds es : List PyData} {vs us : List V}, DpAll K H vs ds → DpAll K H us es → DpAll K H (vs ++ us) (ds ++ es)
  | [], _, _, _, h, g => by cases h; exact g
  | d :: ds, _, _, _, h, g => by cases h with | cons h1 h2 => exact .cons h1 (h2.app g)
theorem _root_.L2.DpAll.snoc (h : DpAll K H vs ds) (g : Dp K H v d) : DpAll K H (vs ++ [v]) (ds ++ [d]) := h.app (.cons g .nil)
theorem dp_ints : ∀ (ns : List Int), DpAll K H (ns.map V.int) (ns.map PyData.int)
  | [] => .nil
  | n :: ns => .cons (.int n) (dp_ints ns)
theorem dp_strs : ∀ (ns : List Str), DpAll K H (ns.map V.str) (ns.map PyData.str)
  | [] => .nil
  | n :: ns => .cons (.str n) (dp_strs ns)
theorem of_ints : ∀ {ns : List Int} {vs : List V}, DpAll K H vs (ns.map PyData.int) → vs = ns.map V.int
  | [], _, h => by cases h; rfl
  | n :: ns, _, h => by
    cases h with
    | cons h1 h2 => cases h1; rw [of_ints h2]; rfl
theorem of_strs : ∀ {ns : List Str} {vs : List V}, DpAll K H vs (ns.map PyData.str) → vs = ns.map V.str
  | [], _, h => by cases h; rfl
  | n :: ns, _, h => by
    cases h with
    | cons h1 h2 => cases h1; rw [of_strs h2]; rfl
theorem of_tup (h : Dp K H v (.tuple ds)) : ∃ a xs, v = .ref a ∧ SqT K H a xs ∧ DpAll K H xs ds := by
  cases h with | tup h1 h2 => exact ⟨_, _, rfl, h1, h2⟩
theorem of_lst (h : Dp K H v (.list ds)) : ∃ a xs, v = .ref a ∧ SqL K H a xs ∧ DpAll K H xs ds := by
  cases h with | lst h1 h2 => exact ⟨_, _, rfl, h1, h2⟩
theorem of_int {i : Int} (h : Dp K H v (.int i)) : v = .int i := by cases h; rfl
theorem of_str {i : Str} (h : Dp K H v (.str i)) : v = .str i := by cases h; rfl
theorem of_bl {i : Bool} (h : Dp K H v (.bool i)) : v = .bl i := by cases h; rfl
theorem of_non (h : Dp K H v .none) : v = .non := by cases h; rfl
theorem of_t2 {d e : PyData} (h : Dp K H v (.tuple [d, e])) : ∃ a x y, v = .ref a ∧ SqT K H a [x, y] ∧ Dp K H x d ∧ Dp K H y e := by
  obtain ⟨a, xs, rfl, h1, h2⟩ := of_tup h
  cases h2 with
  | cons p1 p2 => cases p2 with | cons p3 p4 => cases p4; exact ⟨a, _, _, rfl, h1, p1, p3⟩
theorem of_t3 {d e f : PyData} (h : Dp K H v (.tuple [d, e, f])) : ∃ a x y z, v = .ref a ∧ SqT K H a [x, y, z] ∧ Dp K H x d ∧ Dp K H y e ∧ Dp K H z f := by
  obtain ⟨a, xs, rfl, h1, h2⟩ := of_tup h
  cases h2 with
  | cons p1 p2 => cases p2 with | cons p3 p4 => cases p4 with | cons p5 p6 => cases p6; exact ⟨a, _, _, _, rfl, h1, p1, p3, p5⟩
theorem of_t4 {d e f g : PyData} (h : Dp K H v (.tuple [d, e, f, g])) : ∃ a x y z w, v = .ref a ∧ SqT K H a [x, y, z, w] ∧ Dp K H x d ∧ Dp K H y e ∧ Dp K H z f ∧ Dp K H w g := by
  obtain ⟨a, xs, rfl, h1, h2⟩ := of_tup h
  cases h2 with
  | cons p1 p2 => cases p2 with | cons p3 p4 => cases p4 with | cons p5 p6 => cases p6 with | cons p7 p8 => cases p8; exact ⟨a, _, _, _, _, rfl, h1, p1, p3, p5, p7⟩
end
/-- the part of a heap at which P holds -/
noncomputable def rs (P : Addr → Prop) (H : Hp) : Hp := fun a => @ite _ (P a) (Classical.propDecidable _) (H a) none
theorem rs_at {P : Addr → Prop} {H : Hp} {a : Addr} {o : HO} (p : P a) (h : H a = some o) : rs P H a = some o := by unfold rs; rw [if_pos p]; exact h
theorem rs_of {P : Addr → Prop} {H : Hp} {a : Addr} {o : HO} (h : rs P H a = some o) : P a ∧ H a = some o := by
  unfold rs at h
  split at h
  · rename_i p; exact ⟨p, h⟩
  · cases h
theorem rs_same {P P' : Addr → Prop} {H H' : Hp} (h : ∀ a o, P a → H a = some o → P' a ∧ H' a = some o) : Same (rs P H) (rs P' H') := fun a o e => by
  obtain ⟨p, q⟩ := rs_of e
  obtain ⟨p', q'⟩ := h a o p q
  exact rs_at p' q'
theorem rs_sub {P : Addr → Prop} {H : Hp} : Same (rs P H) H := fun a o e => (rs_of e).2
theorem rs_in {P : Addr → Prop} {H H' : Hp} (h : ∀ a o, P a → H a = some o → H' a = some o) : Same (rs P H) H' := fun a o e => h a o (rs_of e).1 (rs_of e).2
theorem rs_all {P : Addr → Prop} {H H' : Hp} (h : ∀ a o, H a = some o → P a ∧ H' a = some o) : Same H (rs P H') := fun a o e => rs_at (h a o e).1 (h a o e).2
/-- a list that changes: what stood ahead of it stands -/
theorem same_mut {H H' : Hp} {a : Addr} {o : HO} (e : Same H H') (h : H a = none) : Same H (upd H' a o) := fun b o' q => by
  rw [upd_ne (fun z => by rw [z, h] at q; cases q)]; exact e b o' q
section
variable {K : PySem.W.Frag} {σ : L2.St} {H : Hp} {g : TG} {tt : TT} {te : TE} {tb : TS} {D : Ends} {x y : V} {Q : VK}
theorem L_rlD {v : V} {ds : List PyData} {R : Addr → Prop} (h : Dp K H v (.list ds)) (q : ∀ a, v = .ref a → R a) : ∃ b, v = V.ref b ∧ (∃ xs, SqL K H b xs) ∧ R b := by
  obtain ⟨a, xs, rfl, h1, h2⟩ := of_lst h
  exact ⟨a, rfl, ⟨xs, h1⟩, q a rfl⟩
/-- for x in a list of data -/
theorem for_dp {a : Addr} {ds : List PyData} (h : Dp K H (.ref a) (.list ds)) (Pv : Nat → L2.St → Hp → Prop) (h0 : Pv 0 σ H) (hG : ∀ i σ' H', i ≤ ds.length → Pv i σ' H' → Same H H')
    (hs : ∀ i d x σ' H', i < ds.length → ds[i]? = some d → Pv i σ' H' → Dp K H' x d → g x σ' H' fun σ2 H2 => tb { D with nx := Pv (i + 1), ct := Pv (i + 1), bk := D.nx } σ2 H2) (hd : ∀ σ' H', Pv ds.length σ' H' → D.nx σ' H') :
    ∃ W : Nat → Nat → L2.St → Hp → Prop, (∃ m, W 0 m σ H) ∧ ∀ i m σ H, W i m σ H →
      ((Itl K a).stop i H ∧ D.nx σ H) ∨ ((Itl K a).go i H ∧ ∃ N : L2.St → Hp → Prop, (∀ σ' H', N σ' H' → ∃ m', m' < m ∧ W (i + 1) m' σ' H') ∧ ∀ x H', (Itl K a).yld i H x H' → g x σ H' fun σ2 H2 => tb { D with nx := N, ct := N, bk := D.nx } σ2 H2) := by
  obtain ⟨a', xs, ea, h1, h2⟩ := of_lst h
  cases ea
  have hl := h2.len
  refine for_it walk_list Pv h0 (fun i σ' H' hi p => (hG i σ' H' (by omega) p).seq h1) (fun i x σ' H' H'' hi p ⟨e1, e2⟩ => ?_) (fun σ' H' p => hd σ' H' (by rw [← hl]; exact p))
  subst e1
  obtain ⟨d, e3, e4⟩ := h2.of e2
  exact hs i d x σ' _ (by omega) e3 p (e4.same (hG i σ' _ (by omega) p))
/-- a comprehension: what turn i gives is told as data, or none; the new list's things stand apart from it -/
theorem lc_dp {J : It} {n : Nat} {G : Hp → Prop} {Y : Nat → Hp → V → Hp → Prop} (w : L2.Walk J n G Y) {vs : List Nat} {Qd : Addr → Hp → Prop} (f : Nat → Option PyData) (hn : n ≤ 1000000) (hG : ∀ H', Same H H' → G H')
    (hs : ∀ i x p H2 H' (R : V → Hp → Prop) (R' : Hp → Prop), i < n → H p = none → Same H H2 → (∃ o, H2 p = some o) → Y i H2 x H' → (∀ y d H4, f i = some d → Same H2 H4 → Dp K (rs (· ≠ p) H4) y d → R y H4) → (∀ H3, f i = none → Same H2 H3 → R' H3) →
      g x (wipe σ vs) H' fun σ2 H2 => wipe σ2 vs = wipe σ vs ∧ tt σ2 H2 fun b H3 => if b = true then te σ2 H3 R else R' H3)
    (q : ∀ p H' vs, H p = none → Same H H' → H' p = some (.lst vs) → DpAll K (rs (· ≠ p) H') vs ((List.range n).filterMap f) → Qd p H') :
    ∀ D, H D = none → ∃ W : Nat → Nat → Hp → Prop, (∃ m, W 0 m (upd H D (.lst []))) ∧ ∀ i m H, W i m H →
      (J.stop i H ∧ Qd D H) ∨ (J.go i H ∧ ∃ Nx : Hp → Prop, (∀ H', Nx H' → ∃ m', m' < m ∧ W (i + 1) m' H') ∧ ∀ x H', J.yld i H x H' → g x (wipe σ vs) H' fun σ2 H2 => wipe σ2 vs = wipe σ vs ∧ tt σ2 H2 fun b H3 =>
        if b = true then te σ2 H3 fun y H4 => ∃ acc, H4 D = some (.lst acc) ∧ acc.length < sizeLine ∧ Nx (upd H4 D (.lst (acc ++ [y]))) else Nx H3) := by
  intro D hD
  refine lc_it w (fun i H2 => Same H H2 ∧ ∃ us, H2 D = some (.lst us) ∧ DpAll K (rs (· ≠ D) H2) us ((List.range i).filterMap f)) ⟨same_new hD, [], upd_same, .nil⟩ (fun i H2 _ p => hG H2 p.1) ?_ (fun H2 ⟨p1, us, p2, p3⟩ => q D H2 us hD p1 p2 p3)
  rintro i x H2 H' hi ⟨p1, us, p2, p3⟩ y
  refine hs i x D H2 H' _ _ hi hD p1 ⟨_, p2⟩ y (fun y d H4 e s dy => ?_) (fun H3 e s => ?_)
  · have e4 : Same (rs (· ≠ D) H2) (rs (· ≠ D) H4) := rs_same fun a o h1 h2 => ⟨h1, s _ _ h2⟩
    have e5 : Same (rs (· ≠ D) H4) (rs (· ≠ D) (upd H4 D (.lst (us ++ [y])))) := rs_same fun a o h1 h2 => ⟨h1, by rw [upd_ne h1]; exact h2⟩
    refine ⟨us, s _ _ p2, sz_lt (by have := p3.len; have := fm_len' f i; omega), same_mut (p1.trans s) hD, _, upd_same, ?_⟩
    rw [fm_succ', e]
    exact ((p3.same e4).same e5).snoc (dy.same e5)
  · refine ⟨p1.trans s, us, s _ _ p2, ?_⟩
    rw [fm_succ', e, List.append_nil]
    exact p3.same (rs_same fun a o h1 h2 => ⟨h1, s _ _ h2⟩)
end
/-! ### defs that may raise -/
structure MetX (P : Program) (w : World) (K : PySem.W.Frag) (mg : Str → Option Value) (base : Heap) (k : Nat) (C : Addr) (m : Str) (sp : Sp) : Prop where
  ex : ∃ (f : Addr) (fd : FuncData) (ps : List Str), Cls K C ∧ Meth K C m f ∧ FnOk P w K mg base (L2.CX P w) k f fd ps sp ∧ Binds K fd ps []
structure MakX (P : Program) (w : World) (K : PySem.W.Frag) (mg : Str → Option Value) (base : Heap) (k : Nat) (x : Str) (C : Addr) (sp : Sp) : Prop where
  ex : ∃ (f : Addr) (fd : FuncData) (ps : List Str), Mk K C f ∧ FnOk P w K mg base (L2.CX P w) k f fd ps sp ∧ mg x = some (.ref C) ∧ Binds K fd ps []
section
variable {P : Program} {w : World} {K : PySem.W.Frag} {mg : Str → Option Value} {base : Heap}
theorem MethAt.metX {C : Addr} {m qual : Str} {st : Stmt} {N ps : List Str} {k : Nat} {sp : Sp} (c : Cls K C) (d : MethAt K C m qual st ps) (S : FnScope N ps (defScope st)) (len : ∀ vs H Q E, sp vs H Q E → vs.length = ps.length)
    (hbody : ∀ (f : Addr) (cdv : Value) (A : Around) (outer : List Env) (s : Shared) (H : Hp) (vs : List V) (Q : VK) (E : XK), Room k (A.deeper (envOfC qual (defScope st) s.heap.objs.size f cdv)) → sp vs H Q E →
      ∃ t, PSs (cxOf (L2.CX P w) P w K mg base N qual (defScope st) f cdv A outer s H E) (defBody st) t ∧ t { nx := fun _ H' => Q .non H', rt := Q } (start N vs) H) : MetX P w K mg base (k + 1) C m sp := by
  obtain ⟨f, fd, F, hm, b⟩ := d.ex
  exact ⟨f, fd, ps, c, hm, F.okX S len (hbody f), b⟩
theorem InitAt.makX {x : Str} {C : Addr} {qual : Str} {st : Stmt} {N ps : List Str} {k : Nat} {sp : Sp} (hx : mg x = some (.ref C)) (d : InitAt K C qual st ps) (S : FnScope N ps (defScope st)) (len : ∀ vs H Q E, sp vs H Q E → vs.length = ps.length)
    (hbody : ∀ (f : Addr) (cdv : Value) (A : Around) (outer : List Env) (s : Shared) (H : Hp) (vs : List V) (Q : VK) (E : XK), Room k (A.deeper (envOfC qual (defScope st) s.heap.objs.size f cdv)) → sp vs H Q E →
      ∃ t, PSs (cxOf (L2.CX P w) P w K mg base N qual (defScope st) f cdv A outer s H E) (defBody st) t ∧ t { nx := fun _ H' => Q .non H', rt := Q } (start N vs) H) : MakX P w K mg base (k + 1) x C sp := by
  obtain ⟨f, fd, F, hm, b⟩ := d.ex
  exact ⟨f, fd, ps, hm, F.okX S len (hbody f), hx, b⟩
end
/-- where no exception is wanted -/
theorem passN {X : Cx} (σ : L2.St) : PassesAt (L2.CX X.prog X.w) X σ ((fun _ => E0) σ) := fun pins H s e s' I c => passL pins σ H s e s' I c
/-- x.m(..), C(..), where what is raised is wished for at the caller's slots -/
def tMethE (C : Addr) (m : Str) (sp : Sp) (E : L2.St → XK) (ta : TE) (t : TA) : TE := fun σ H Q => ta σ H fun x H1 => ∃ a dx fs, x = .ref a ∧ H1 a = some (.ins C dx fs) ∧ fs.lookup m = none ∧ t σ H1 fun vs H2 => sp (x :: vs) H2 Q (E σ)
def tMakeE (C : Addr) (sp : Sp) (E : L2.St → XK) (t : TA) : TE := fun σ H Q => t σ H fun vs H1 => ∀ x dx, H1 x = none → H1 dx = none → dx ≠ x →
  sp (.ref x :: vs) (upd (upd H1 dx (.own x)) x (.ins C dx [])) (fun v H2 => v = .non ∧ Q (.ref x) H2) (E σ)
section
variable {X : Cx} {CX : CXT} {k j : Nat} {f C : Addr} {fd : FuncData} {ps : List Str} {x m : Str} {sp : Sp} {p pos apos : Pos} {e o : Expr} {es : List Expr} {ta : TE} {t : TA} {E : L2.St → XK}
theorem run_makeS {pins : List (Addr × Obj)} {σ : L2.St} {H : Hp} {s : Shared} {Q : VK} {us : List Value} {vs : List V} (M : Mk X.K C f) (F : FnOk X.prog X.w X.K X.mg X.base CX k f fd ps sp) (hr : Room (k + 1) X.A) (hb : Binds X.K fd ps [])
    (hx : PassesAt CX X σ (E σ)) (I : Inv X pins σ H s) (r : Vals vs us)
    (h : ∀ x dx, H x = none → H dx = none → dx ≠ x → sp (.ref x :: vs) (upd (upd H dx (.own x)) x (.ins C dx [])) (fun v H2 => v = .non ∧ Q (.ref x) H2) (E σ)) :
    wpAny (model X.prog X.w) X.A (call (.ref C) us) (EP X pins σ Q) X.xe s := by
  -- the new object's place, its dict's place
  obtain ⟨dn, hdn⟩ : ∃ dn, dn = s.heap.objs.size := ⟨_, rfl⟩
  have fresh1 : H dn = none := I.hok.fresh (Nat.le_of_eq hdn.symm)
  have fresh2 : H (dn + 1) = none := I.hok.fresh (Nat.le_succ_of_le (Nat.le_of_eq hdn.symm))
  have asked := h (dn + 1) dn fresh2 fresh1 (Nat.ne_of_lt (Nat.lt_succ_self _))
  have J := Inv.made (C := C) I
  rw [← hdn] at J
  have args : Vals (V.ref (dn + 1) :: vs) (Value.ref (dn + 1) :: us) := .cons rfl r
  have many : (Value.ref (dn + 1) :: us).length = ps.length := args.length.symm.trans (F.len _ _ _ _ asked)
  have bound := hb _ (Value.ref (dn + 1) :: us) J.kIn (by rw [List.append_nil]; exact many)
  rw [List.append_nil] at bound
  subst hdn
  refine wpAny_call (make_map (f := f) I.kIn M.makes M.init (beq_iff_eq.mp M.fn) ?_)
  refine codeAny_mono (F.run _ X.stack _ _ ⟨_, []⟩ _ _ _ (E σ) (hr.make C us []) (J.env0.make C us []) bound args asked) fun out s' ho => ?_
  match out, ho with
  | .error e, ho => exact hx pins _ _ e s' J ho
  | .ok (.ret u), ho =>
    obtain ⟨v, H', J', rel, hv, rest⟩ := J.after ho
    cases hv
    exact ⟨rel, .ref (s.heap.objs.size + 1), H', J', rfl, rest⟩
  | .ok .next, ho => exact ho.elim
  | .ok .brk, ho => exact ho.elim
  | .ok .cont, ho => exact ho.elim
theorem pe_xS (c : CalX X.prog X.w X.K X.mg X.base k x sp) (hr : Room j X.A) (hk : k ≤ j) (hg : Gl X x) (hx : ∀ σ, PassesAt (L2.CX X.prog X.w) X σ (E σ)) (ha : PA X (e :: es) t)
    (hdb : (x == ("__debug__" : Str)) = false := by decide) (he : starEach (e :: es) X.env = (false, eval e X.env) :: starEach es X.env := by rfl) (hpl : (backTo pos (starEach es X.env)).any (·.1) = false := by rfl) :
    PE X (.Call (.Name x p) (e :: es) [] pos) (tCallS sp E t) := by
  obtain ⟨f, fd, ps, F, hm, kp, b⟩ := c.ex
  exact pe_callS F (hr.mono hk) hg hm kp b hx ha hdb he hpl
theorem pe_xMk (c : MakX X.prog X.w X.K X.mg X.base k x C sp) (hr : Room j X.A) (hk : k + 1 ≤ j) (hg : Gl X x) (hx : ∀ σ, PassesAt (L2.CX X.prog X.w) X σ (E σ)) (ha : PA X (e :: es) t)
    (hdb : (x == ("__debug__" : Str)) = false := by decide) (he : starEach (e :: es) X.env = (false, eval e X.env) :: starEach es X.env := by rfl) (hpl : (backTo pos (starEach es X.env)).any (·.1) = false := by rfl) :
    PE X (.Call (.Name x p) (e :: es) [] pos) (tMakeE C sp E t) := by
  obtain ⟨f, fd, ps, M, F, hm, hb⟩ := c.ex
  refine ⟨fun pins s σ H Q I h => ?_⟩
  refine wpAny_Call_Name_kw (ld_glob I hg hm ?_ hdb)
  refine PySem.W.callWith_K (h₀ := X.base) I.ok.mod.kin M.kp (thn (ha.run pos pins s σ H _ I h) fun us s1 ⟨vs, H1, I1, r, q⟩ => ⟨I1.kIn, ?_⟩) he hpl
  exact run_makeS M F (hr.mono hk) hb (hx σ) I1 r q
theorem pe_xMt {pl : Sem Bool} (c : MetX X.prog X.w X.K X.mg X.base k C m sp) (hr : Room j X.A) (hk : k ≤ j) (hx : ∀ σ, PassesAt (L2.CX X.prog X.w) X σ (E σ)) (he : PE X o ta) (ha : PA X (e :: es) t)
    (hst : starEach (e :: es) X.env = (false, eval e X.env) :: starEach es X.env := by rfl) (hpl : (backTo pos (starEach es X.env)).any (·.1) = false := by rfl)
    (ht : eval (.Call (.Attribute o m apos) (e :: es) [] pos) X.env = (do
      let ov ← eval o X.env
      standAt apos.atName
      let (f, first) ← holding [ov] (getMethod ov m pl)
      callWith pos f first (backTo pos (starEach (e :: es) X.env)) (backToKw pos (keywordEach [] X.env))) := by rfl) :
    PE X (.Call (.Attribute o m apos) (e :: es) [] pos) (tMethE C m sp E ta t) := by
  obtain ⟨f, fd, ps, hc, hm, F, hb⟩ := c.ex
  refine ⟨fun pins s σ H Q I h => ?_⟩
  refine PySem.W.methodCall_KW (pl := pl) (thn (he.run pins s σ H _ I h) fun u s1 ⟨x, H1, I1, rx, a, dx, fs, ex, ea, l, q⟩ => ?_) ht
  subst ex
  obtain rfl : u = Value.ref a := rx
  refine getmeth_ok I1 ea hc hm l ?_
  refine PySem.W.callWith_K (first := [.ref a]) (h₀ := X.base) I.ok.mod.kin hm.kp (thn (ha.run pos pins s1 σ H1 _ I1 q) fun us s2 ⟨vs, H2, I2, r, q2⟩ => ⟨I2.kIn, ?_⟩) hst hpl
  exact run_fnS (us := .ref a :: us) (vs := .ref a :: vs) F (hr.mono hk) hb (hx σ) I2 (.cons rfl r) q2
theorem pe_xMt0 {pl : Sem Bool} (c : MetX X.prog X.w X.K X.mg X.base k C m sp) (hr : Room j X.A) (hk : k ≤ j) (hx : ∀ σ, PassesAt (L2.CX X.prog X.w) X σ (E σ)) (he : PE X o ta)
    (ht : eval (.Call (.Attribute o m apos) [] [] pos) X.env = (do
      let ov ← eval o X.env
      standAt apos.atName
      let (f, first) ← holding [ov] (getMethod ov m pl)
      callWith pos f first (backTo pos (starEach [] X.env)) (backToKw pos (keywordEach [] X.env))) := by rfl) :
    PE X (.Call (.Attribute o m apos) [] [] pos) (tMethE C m sp E ta tNil) := by
  obtain ⟨f, fd, ps, hc, hm, F, hb⟩ := c.ex
  refine ⟨fun pins s σ H Q I h => ?_⟩
  refine PySem.W.methodCall_KW (pl := pl) (thn (he.run pins s σ H _ I h) fun u s1 ⟨x, H1, I1, rx, a, dx, fs, ex, ea, l, q⟩ => ?_) ht
  subst ex
  obtain rfl : u = Value.ref a := rx
  refine getmeth_ok I1 ea hc hm l ?_
  exact PySem.W.callWith_K0 (first := [.ref a]) I1.kIn hm.kp (run_fnS (us := [.ref a]) (vs := [.ref a]) F (hr.mono hk) hb (hx σ) I1 (.cons rfl .nil) q)
end
/-- an own exception class that is raised; one that is caught -/
structure ExcAt (K : PySem.W.Frag) (C : Addr) : Prop where
  x : PySem.W.excIn K C [.type "ValueError", .type "Exception", .type "BaseException", .type "object"] "ValueError.__new__" = true
  k : PySem.W.keepIn K (.ref C) = true
  b : PySem.W.subIn K (.ref C) (.type "BaseException") = some true
  t : PySem.W.typeIn K (.ref C) = some (.type "type")
structure ExcK (K : PySem.W.Frag) (C : Addr) : Prop where
  b : PySem.W.subIn K (.ref C) (.type "BaseException") = some true
  i : PySem.W.isClsIn K C = true
  t : PySem.W.typeIn K (.ref C) = some (.type "type")
theorem ExcK.exm {K : PySem.W.Frag} {C D : Addr} {r : Bool} (c : ExcK K C) (h : PySem.W.subIn K (.ref D) (.ref C) = some r) : PySem.W.exmOne K (.ref D) (.ref C) = some r := by
  have e1 : (PySem.W.subIn K (.ref C) (.type "BaseException") == some true) = true := by rw [c.b] <;> rfl
  have e2 : ((PySem.W.clsIn K C).isSome && PySem.W.typeIn K (.ref C) == some (.type "type")) = true := by
    have h2' : (PySem.W.clsIn K C).isSome = true := c.i
    rw [h2', c.t] <;> rfl
  show (if (PySem.W.subIn K (.ref C) (.type "BaseException") == some true) = true then (if ((PySem.W.clsIn K C).isSome && PySem.W.typeIn K (.ref C) == some (.type "type")) = true then PySem.W.subIn K (.ref D) (.ref C) else none) else none) = some r
  rw [if_pos e1, if_pos e2]
  exact h
/-- C() -/
theorem pmk_own0 {X : Cx} {C : Addr} {x : Str} {p pos : Pos} (c : ExcAt X.K C) (gC : X.mg x = some (.ref C)) (hg : Gl X x) (hdb : (x == ("__debug__" : Str)) = false := by decide) :
    PMk X (.Call (.Name x p) [] [] pos) (fun _ H Q => Q (.ref C) none H) := by
  intro pins s σ H Q I h
  refine wpAny_Call_Name_kw (ld_glob I hg gC ?_ hdb)
  refine PySem.W.callWith_K0 I.kIn c.k ?_
  obtain ⟨bm, N, nm, qn, bs, hdct, sn, sub, ab, col, dd, k0, k1, k2, k3, k5, mN, hC, hN, hni, T⟩ := exc_obj I.kIn c.x
  refine wpAny_call_exc_subT PySem.F.excBase_ValueError T hC hN hni (fun h' e hm => ?_) (Nat.zero_le _)
  exact mk_of I hm (raises_own c.b c.t) h (I.hok.gone hm.new)
section
variable {K : PySem.W.Frag} {σ : L2.St} {H : Hp} {ta : TE} {tr : TA} {Q : VK} {E : L2.St → XK} {C : Addr} {m : Str} {sp : Sp}
theorem L_callS (h : tr σ H fun vs H1 => sp vs H1 Q (E σ)) : tCallS sp E tr σ H Q := h
theorem L_methE (h : ta σ H fun x H1 => ∃ a dx fs, x = .ref a ∧ H1 a = some (.ins C dx fs) ∧ fs.lookup m = none ∧ tr σ H1 fun vs H2 => sp (x :: vs) H2 Q (E σ)) : tMethE C m sp E ta tr σ H Q := h
theorem L_makeE (h : tr σ H fun vs H1 => MakeP C sp (E σ) vs H1 Q) : tMakeE C sp E tr σ H Q := h
theorem L_meth {E : XK} (h : ta σ H fun x H1 => ∃ a dx fs, x = .ref a ∧ H1 a = some (.ins C dx fs) ∧ fs.lookup m = none ∧ tr σ H1 fun vs H2 => sp (x :: vs) H2 Q E) : tMeth C m sp [] E ta tr σ H Q := by
  unfold tMeth
  simp only [List.append_nil]
  exact h
theorem L_methv {a dx : Addr} {fs : List (Str × V)} {R : Prop} (h : H a = some (.ins C dx fs)) (l : fs.lookup m = none) (q : R) : ∃ a' dx fs, V.ref a = V.ref a' ∧ H a' = some (.ins C dx fs) ∧ fs.lookup m = none ∧ R := ⟨a, dx, fs, rfl, h, l, q⟩
theorem L_only {c : Value} {ts : Addr → Value → Option Addr → TS} {Wout : WX} {D : Ends} {cls : Value} {d : Option Addr} (h : PySem.W.exmOne K cls c = some true) (q : ∀ a, H a = none → ts a cls d D σ H) : wOnly K c ts Wout D cls d σ H := ⟨true, h, fun _ => q, fun z => nomatch z⟩
end
/-- no whole number: another kind of thing, or a truth -/
def NotW (K : PySem.W.Frag) (H : Hp) (v : V) : Prop := (∃ b, v = .bl b) ∨ ∃ a, TyX K H v (.type a) ∧ kitB a "int" = some false
/-- what is_whole denies -/
def BadW (K : PySem.W.Frag) (H : Hp) (v : V) (lo hi : Int) : Prop := NotW K H v ∨ ∃ t, v = .int t ∧ ¬ (lo ≤ t ∧ t ≤ hi)
section
variable {K : PySem.W.Frag} {H : Hp}
theorem notw_non : NotW K H .non := .inr ⟨_, .base .non, by decide +kernel⟩
theorem notw_bl {b : Bool} : NotW K H (.bl b) := .inl ⟨b, rfl⟩
theorem notw_str {z : Str} : NotW K H (.str z) := .inr ⟨_, .base (.str z), by decide +kernel⟩
theorem notw_lst {a : Addr} {xs : List V} (h : H a = some (.lst xs)) : NotW K H (.ref a) := .inr ⟨_, .base (.lst h), by decide +kernel⟩
theorem notw_tup {a : Addr} {xs : List V} (h : H a = some (.tup xs)) : NotW K H (.ref a) := .inr ⟨_, .base (.tup h), by decide +kernel⟩
theorem notw_dK {a : Addr} {xs : List (Key × V)} (h : H a = some (.dK xs)) : NotW K H (.ref a) := .inr ⟨_, .base (.dK h), by decide +kernel⟩
theorem badw_int {t lo hi : Int} (h : ¬ (lo ≤ t ∧ t ≤ hi)) : BadW K H (.int t) lo hi := .inr ⟨t, rfl, h⟩
theorem NotW.bad {v : V} {lo hi : Int} (h : NotW K H v) : BadW K H v lo hi := .inl h
end
section
variable {K : PySem.W.Frag} {H H' : Hp}
theorem tyx_T {a : Addr} {xs : List V} (h : SqT K H a xs) : TyX K H (.ref a) (.type "tuple") := by
  rcases h with (h | ⟨o, h⟩) | ⟨o, _, _, h, c, _⟩
  · exact .base (.tup h)
  · exact .fTuple h
  · exact .kTuple h c
theorem tyx_L {a : Addr} {xs : List V} (h : SqL K H a xs) : TyX K H (.ref a) (.type "list") := by
  rcases h with (h | ⟨o, h⟩) | ⟨o, _, _, h, c, _⟩
  · exact .base (.lst h)
  · exact .base (.frz h)
  · exact .kList h c
variable {σ : L2.St} {Q : VK}
theorem L_sort2 {a : Addr} {x y : Int} (h : SqL K H a [V.int x, V.int y]) (q : ∀ p, H p = none → Q (.ref p) (upd H p (.lst [V.int (min x y), V.int (max x y)]))) : rSorted K [.ref a] H Q := by
  refine ⟨a, [x, y], rfl, h, by simp, fun ns p hp hs hn => ?_⟩
  have hl := hp.length_eq
  match ns, hl with
  | [u, v], _ =>
    have hle : u ≤ v := by simpa using hs
    have hm : (u = x ∧ v = y) ∨ (u = y ∧ v = x) := by
      have h1 : u ∈ [x, y] := hp.mem_iff.mp (by simp)
      have h2 : v ∈ [x, y] := hp.mem_iff.mp (by simp)
      have h3 : x ∈ [u, v] := hp.mem_iff.mpr (by simp)
      have h4 : y ∈ [u, v] := hp.mem_iff.mpr (by simp)
      simp only [List.mem_cons, List.not_mem_nil, or_false] at h1 h2 h3 h4
      rcases h1 with h1 | h1 <;> rcases h2 with h2 | h2 <;> rcases h3 with h3 | h3 <;> rcases h4 with h4 | h4 <;> omega
    have e : [u, v] = [min x y, max x y] := by
      rcases hm with ⟨rfl, rfl⟩ | ⟨rfl, rfl⟩
      · rw [Int.min_eq_left hle, Int.max_eq_right hle]
      · rw [Int.min_eq_right hle, Int.max_eq_left hle]
    rw [e]
    exact q p hn
theorem L_list1 {a : Addr} {xs : List V} (h : SqL K H a xs) (q : ∀ l, H l = none → Q (.ref l) (upd H l (.lst xs))) : aList1 K [.ref a] H Q := ⟨a, xs, rfl, .inl h, q⟩
theorem L_tuple1 {a : Addr} {xs : List V} (h : SqL K H a xs) (q : ∀ l, H l = none → Q (.ref l) (upd H l (.tup xs))) : aTuple1 K [.ref a] H Q := ⟨a, xs, rfl, .inl ⟨h, q⟩⟩
theorem eqv_same {d : PyData} (h : SeqAt.shaped d = true) : PyData.eqv d d = true := SeqAt.eqv_refl d (SeqAt.canLay_of_shaped h)
theorem L_eqR {x y : V} {d : PyData} (hx : Dp K H x d) (hy : Dp K H y d) (s : SeqAt.shaped d = true) (q : Q (.bl true) H) : aEq K x y H Q := L_eqD hx hy s s (by rw [eqv_same s]; exact q)
theorem L_neR {x y : V} {d : PyData} (hx : Dp K H x d) (hy : Dp K H y d) (s : SeqAt.shaped d = true) (q : Q (.bl false) H) : aNe K x y H Q := L_neD hx hy s s (by rw [eqv_same s]; exact q)
theorem L_zipA {a b : Addr} {xs ys : List V} {R : Addr → Addr → Prop} (h1 : SqL K H a xs) (h2 : SqL K H b ys) (q : R a b) : ∃ a' b' xs ys, [V.ref a, V.ref b] = [.ref a', .ref b'] ∧ SqL K H a' xs ∧ SqL K H b' ys ∧ R a' b' := ⟨a, b, xs, ys, rfl, h1, h2, q⟩
end
/-- data that == may be asked of, at most n deep -/
structure Shp (n : Nat) (d : PyData) : Prop where
  c : d.canLay0 = true
  d : d.depth ≤ n
theorem Shp.ok {n : Nat} {d : PyData} (h : Shp n d) (hn : n ≤ 64 := by decide) : SeqAt.shaped d = true := by
  unfold SeqAt.shaped
  rw [h.c, decide_eq_true (Nat.le_trans h.d hn)]; rfl
theorem shp_int {n : Nat} {i : Int} : Shp n (.int i) := ⟨by simp [PyData.canLay0], by simp [PyData.depth]⟩
theorem shp_bl {n : Nat} {i : Bool} : Shp n (.bool i) := ⟨by simp [PyData.canLay0], by simp [PyData.depth]⟩
theorem shp_non {n : Nat} : Shp n .none := ⟨by simp [PyData.canLay0], by simp [PyData.depth]⟩
theorem shp_str {n : Nat} {z : Str} (h : PyData.strOk z = true) : Shp n (.str z) := ⟨by simpa [PyData.canLay0] using h, by simp [PyData.depth]⟩
theorem shp_all {n : Nat} : ∀ {ds : List PyData}, (∀ d ∈ ds, Shp n d) → PyData.canLayAll0 ds = true ∧ PyData.depthAll ds ≤ n
  | [], _ => ⟨by simp [PyData.canLayAll0], by simp [PyData.depthAll]⟩
  | d :: ds, h => by
    have h1 := h d (List.mem_cons_self ..)
    have h2 := shp_all fun x hx => h x (List.mem_cons_of_mem _ hx)
    exact ⟨by simp [PyData.canLayAll0, h1.c, h2.1], by simp only [PyData.depthAll]; exact Nat.max_le.mpr ⟨h1.d, h2.2⟩⟩
theorem shp_lst {n : Nat} {ds : List PyData} (h : ∀ d ∈ ds, Shp n d) : Shp (n + 1) (.list ds) := ⟨by simp only [PyData.canLay0]; exact (shp_all h).1, by simp only [PyData.depth]; have := (shp_all h).2; omega⟩
theorem shp_tup {n : Nat} {ds : List PyData} (h : ∀ d ∈ ds, Shp n d) : Shp (n + 1) (.tuple ds) := ⟨by simp only [PyData.canLay0]; exact (shp_all h).1, by simp only [PyData.depth]; have := (shp_all h).2; omega⟩
theorem shp_nil {n : Nat} : ∀ d ∈ ([] : List PyData), Shp n d := fun _ h => nomatch h
theorem shp_cons {n : Nat} {d : PyData} {ds : List PyData} (h : Shp n d) (t : ∀ d ∈ ds, Shp n d) : ∀ x ∈ d :: ds, Shp n x := fun x hx => by
  rcases List.mem_cons.mp hx with rfl | hx
  · exact h
  · exact t x hx
theorem shp_map {n : Nat} {α : Type} {f : α → PyData} {l : List α} (h : ∀ a ∈ l, Shp n (f a)) : ∀ d ∈ l.map f, Shp n d := fun d hd => by
  obtain ⟨a, ha, rfl⟩ := List.mem_map.mp hd
  exact h a ha
theorem shp_ints {n : Nat} {l : List Int} : Shp (n + 1) (.list (l.map .int)) := shp_lst (shp_map fun _ _ => shp_int)
theorem _root_.L2.Dp.ints {K : PySem.W.Frag} {H : Hp} {a : Addr} {ns : List Int} (h : SqL K H a (ns.map V.int)) : Dp K H (.ref a) (.list (ns.map .int)) := .lst h (dp_ints ns)
section
variable {K : PySem.W.Frag} {H : Hp} {Q : VK}
theorem L_powE {i j n : Int} (h : CPow i j) (e : i ^ j.toNat = n) (q : Q (.int n) H) : rI CPow (fun i j => .int (i ^ j.toNat)) (.int i) (.int j) H Q := ⟨i, j, rfl, rfl, h, by subst e; exact q⟩
/-- one of some ints -/
theorem L_menu {ns : List Int} {p : Addr} {i : Int} (h : SqL K H p (ns.map V.int)) (h0 : 0 ≤ i) (h1 : i < ns.length) (q : ∀ v ∈ ns, Q (.int v) H) : rIx K (.ref p) (.int i) H Q := by
  have hl : i.toNat < ns.length := by omega
  refine L_ixL h (atI_ints h0 h1) (q _ ?_)
  rw [List.getD_eq_getElem?_getD, List.getElem?_eq_getElem hl]
  exact List.getElem_mem hl
/-- an item of a list of ints, some property of all its items kept -/
theorem L_ixP {ns : List Int} {p : Addr} {i : Int} {P : Int → Prop} (h : SqL K H p (ns.map V.int)) (hP : ∀ v ∈ ns, P v) (h0 : 0 ≤ i) (h1 : i < ns.length) (q : ∀ v, P v → Q (.int v) H) : rIx K (.ref p) (.int i) H Q :=
  L_menu h h0 h1 fun v hv => q v (hP v hv)
end
theorem cdiv_lit {i j : Int} (h : 0 < j ∧ j < 1000000000000) : CDivW i j := (bd_64 (by omega)).cdiv h.1
theorem cpow_lit {i j : Int} (h : 0 ≤ j ∧ j ≤ 1000 ∧ -1000000 < i ∧ i < 1000000) : CPow i j := by
  have e : (2 : Nat) ^ 64 = 18446744073709551616 := by decide
  exact ⟨h.1, by omega, by omega⟩
theorem same_newE {H Hn : Hp} {p : Addr} {o : HO} (e : upd H p o = Hn) (h : H p = none) : Same H Hn := e ▸ same_new h
theorem upd_at {H Hn : Hp} {p : Addr} {o : HO} (e : upd H p o = Hn) : Hn p = some o := e ▸ upd_same
section
variable {K : PySem.W.Frag} {H H' : Hp} {p q : Addr} {us xs : List V} {ds : List PyData} {d : PyData} {y : V} {o : HO}
/-- a list grows: its things stand apart from it -/
theorem dp_grow (hdp : DpAll K (rs (· ≠ p) H) us ds) (s : Same H H') (hy : Dp K (rs (· ≠ p) H') y d) : DpAll K (rs (· ≠ p) (upd H' p o)) (us ++ [y]) (ds ++ [d]) :=
  (hdp.same (rs_same fun a u na ha => ⟨na, by rw [upd_ne na]; exact s _ _ ha⟩)).snoc (hy.same (rs_same fun a u na ha => ⟨na, by rw [upd_ne na]; exact ha⟩))
theorem dp_tupN (h : H q = some (.tup xs)) (n : q ≠ p) (ha : DpAll K (rs (· ≠ p) H) xs ds) : Dp K (rs (· ≠ p) H) (.ref q) (.tuple ds) := .tup (.of (rs_at n h)) ha
theorem dp_lstN (h : H q = some (.lst xs)) (n : q ≠ p) (ha : DpAll K (rs (· ≠ p) H) xs ds) : Dp K (rs (· ≠ p) H) (.ref q) (.list ds) := .lst (.of (rs_at n h)) ha
/-- data that stood ahead of p -/
theorem dp_old {H0 : Hp} (h : Dp K H0 y d) (n : H0 p = none) (s : Same H0 H) : Dp K (rs (· ≠ p) H) y d := h.same (rs_all fun a u ha => ⟨fun z => (by rw [z, n] at ha; cases ha), s _ _ ha⟩)
theorem dpA_old {H0 : Hp} (h : DpAll K H0 us ds) (n : H0 p = none) (s : Same H0 H) : DpAll K (rs (· ≠ p) H) us ds := h.same (rs_all fun a u ha => ⟨fun z => (by rw [z, n] at ha; cases ha), s _ _ ha⟩)
theorem dp_whole (h : DpAll K (rs (· ≠ p) H) us ds) (e : H p = some (.lst us)) : Dp K H (.ref p) (.list ds) := .lst (.of e) (h.same rs_sub)
theorem ne_new (h : H p = none) (h' : ∃ o, H q = some o) : p ≠ q := fun z => by
  obtain ⟨o, e⟩ := h'
  rw [z, e] at h; cases h
end
theorem fm_get {α β : Type} (g : α → β) : ∀ (l : List α), (List.range l.length).filterMap (fun i => l[i]?.map g) = l.map g
  | [] => rfl
  | a :: l => by
    have ih := fm_get g l
    rw [List.length_cons, List.range_succ_eq_map]
    simp only [List.filterMap_cons, List.getElem?_cons_zero, Option.map_some, List.filterMap_map, Function.comp_def, List.getElem?_cons_succ, List.map_cons]
    rw [ih]
theorem sum_take {α : Type} {l : List α} {f : α → Int} {i : Nat} {x : α} (h : l[i]? = some x) : ((l.take (i + 1)).map f).sum = ((l.take i).map f).sum + f x := by
  rw [List.take_succ, h]
  simp
theorem sum_takeAll {α : Type} {l : List α} {f : α → Int} {n : Nat} (h : l.length ≤ n) : ((l.take n).map f).sum = (l.map f).sum := by rw [List.take_of_length_le h]
/-! ### loops, the ends told one by one -/
section
variable {K : PySem.W.Frag} {σ : L2.St} {H : Hp} {g : TG} {tb : TS} {N : L2.St → Hp → Prop} {R : VK}
/-- what a for asks behind its iterable -/
abbrev ForT (J : It) (σ : L2.St) (H : Hp) (g : TG) (tb : TS) (N : L2.St → Hp → Prop) (R : VK) : Prop :=
  ∃ W : Nat → Nat → L2.St → Hp → Prop, (∃ m, W 0 m σ H) ∧ ∀ i m σ H, W i m σ H →
      (J.stop i H ∧ N σ H) ∨ (J.go i H ∧ ∃ M : L2.St → Hp → Prop, (∀ σ' H', M σ' H' → ∃ m', m' < m ∧ W (i + 1) m' σ' H') ∧ ∀ x H', J.yld i H x H' → g x σ H' fun σ2 H2 => tb ⟨M, R, N, M⟩ σ2 H2)
theorem f_it {J : It} {n : Nat} {G : Hp → Prop} {Y : Nat → Hp → V → Hp → Prop} (w : L2.Walk J n G Y) (Pv : Nat → L2.St → Hp → Prop) (h0 : Pv 0 σ H) (hG : ∀ i σ H, i ≤ n → Pv i σ H → G H)
    (hs : ∀ i x σ H H', i < n → Pv i σ H → Y i H x H' → g x σ H' fun σ2 H2 => tb ⟨Pv (i + 1), R, N, Pv (i + 1)⟩ σ2 H2) (hd : ∀ σ H, Pv n σ H → N σ H) : ForT J σ H g tb N R :=
  for_it (D := ⟨N, R, N, N⟩) w Pv h0 hG hs hd
theorem f_range {lo : Int} {n : Nat} (Pv : Nat → L2.St → Hp → Prop) (h0 : Pv 0 σ H)
    (hs : ∀ i σ H, i < n → Pv i σ H → g (.int (lo + i)) σ H fun σ2 H2 => tb ⟨Pv (i + 1), R, N, Pv (i + 1)⟩ σ2 H2) (hd : ∀ σ H, Pv n σ H → N σ H) : ForT (Itr lo n) σ H g tb N R :=
  for_range (D := ⟨N, R, N, N⟩) Pv h0 hs hd
theorem f_rangeC {lo c : Int} {n : Nat} (Pv : Nat → L2.St → Hp → Prop) (h0 : Pv 0 σ H)
    (hs : ∀ i σ H, i < n → Pv i σ H → g (.int (lo + (i : Nat) * c)) σ H fun σ2 H2 => tb ⟨Pv (i + 1), R, N, Pv (i + 1)⟩ σ2 H2) (hd : ∀ σ H, Pv n σ H → N σ H) : ForT (Itc lo c n) σ H g tb N R :=
  for_rangeC (D := ⟨N, R, N, N⟩) Pv h0 hs hd
theorem f_dp {a : Addr} {ds : List PyData} (h : Dp K H (.ref a) (.list ds)) (Pv : Nat → L2.St → Hp → Prop) (h0 : Pv 0 σ H) (hG : ∀ i σ' H', i ≤ ds.length → Pv i σ' H' → Same H H')
    (hs : ∀ i d x σ' H', i < ds.length → ds[i]? = some d → Pv i σ' H' → Dp K H' x d → g x σ' H' fun σ2 H2 => tb ⟨Pv (i + 1), R, N, Pv (i + 1)⟩ σ2 H2) (hd : ∀ σ' H', Pv ds.length σ' H' → N σ' H') : ForT (Itl K a) σ H g tb N R :=
  for_dp (D := ⟨N, R, N, N⟩) h Pv h0 hG hs hd
end
section
variable {σ σ' : L2.St} {H : Hp} {i : Nat} {v x : V} {B C : L2.St → Hp → Prop} {N : L2.St → Hp → Prop} {R : VK} {te : TE}
theorem L_gnameE {Q : L2.St → Hp → Prop} (e : σ.set i (some v) = σ') (h : Q σ' H) : gName i v σ H Q := by subst e; exact h
end
section
variable {K : PySem.W.Frag} {H H' : Hp} {σ : L2.St} {Q : VK} {te : TE} {tl th : TO}
theorem TyX_same {v : V} {t : Value} (e : Same H H') (h : TyX K H v t) : TyX K H' v t := by
  cases h with
  | base h =>
    refine .base ?_
    cases h with
    | non => exact .non
    | bl x => exact .bl x
    | int x => exact .int x
    | str x => exact .str x
    | flt x => exact .flt x
    | lst h => exact .lst (e _ _ h)
    | frz h => exact .frz (e _ _ h)
    | tup h => exact .tup (e _ _ h)
    | dK h => exact .dK (e _ _ h)
    | dT h => exact .dT (e _ _ h)
    | ins h cl ha hn htk hm => exact .ins (e _ _ h) cl ha hn htk hm
  | byt b => exact .byt b
  | set h => exact .set (e _ _ h)
  | kList h c => exact .kList h c
  | kTuple h c => exact .kTuple h c
  | kDict h c => exact .kDict h c
  | fTuple h => exact .fTuple (e _ _ h)
  | fDict h => exact .fDict (e _ _ h)
theorem NotW.same {v : V} (h : NotW K H v) (e : Same H H') : NotW K H' v := by
  rcases h with h | ⟨a, h1, h2⟩
  · exact .inl h
  · exact .inr ⟨a, TyX_same e h1, h2⟩
theorem BadW.same {v : V} {lo hi : Int} (h : BadW K H v lo hi) (e : Same H H') : BadW K H' v lo hi := by
  rcases h with h | h
  · exact .inl (h.same e)
  · exact .inr h
theorem L_sl {r : V → Option Int → Option Int → Hp → VK → Prop} (h : te σ H fun x H1 => tl σ H1 fun l H2 => th σ H2 fun u H3 => r x l u H3 Q) : L2.tSl r te tl th σ H Q := h
theorem L_noPart {R : Option Int → Hp → Prop} (h : R none H) : tNoPart σ H R := h
theorem L_part {t : TE} {R : Option Int → Hp → Prop} (h : t σ H fun x H1 => ∃ i, x = .int i ∧ R (some i) H1) : tPart t σ H R := h
theorem L_ki {i : Int} {R : Int → Prop} (h : R i) : ∃ j, V.int i = V.int j ∧ R j := ⟨i, rfl, h⟩
theorem L_slL {a : Addr} {xs : List V} {lo hi : Option Int} (h : SqL K H a xs) (q : ∀ p, H p = none → Q (.ref p) (upd H p (.lst (cutV xs lo hi)))) : rSlL K (.ref a) lo hi H Q := ⟨a, xs, rfl, h, q⟩
end
def cutG {α : Type} (xs : List α) (lo hi : Option Int) : List α := (xs.drop (HT.sIx xs.length 0 lo)).take (HT.sIx xs.length xs.length hi - HT.sIx xs.length 0 lo)
theorem cutV_map {α : Type} (f : α → V) (xs : List α) (lo hi : Option Int) : cutV (xs.map f) lo hi = (cutG xs lo hi).map f := by
  unfold cutV cutG
  rw [List.length_map, List.map_take, List.map_drop]
theorem cutG_mem {α : Type} {xs : List α} {lo hi : Option Int} {x : α} (h : x ∈ cutG xs lo hi) : x ∈ xs := List.mem_of_mem_drop (List.mem_of_mem_take h)
theorem cutG_len {α : Type} (xs : List α) (lo hi : Option Int) : (cutG xs lo hi).length ≤ xs.length := by
  unfold cutG
  rw [List.length_take, List.length_drop]
  omega
section
variable {K : PySem.W.Frag} {H : Hp} {Q : VK}
/-- one of some things -/
theorem L_menuV {xs : List V} {p : Addr} {i : Int} (h : SqL K H p xs) (h0 : 0 ≤ i) (h1 : i < xs.length) (q : ∀ v ∈ xs, Q v H) : rIx K (.ref p) (.int i) H Q := by
  have hl : i.toNat < xs.length := by omega
  exact L_ixL h (atI_int h0 (List.getElem?_eq_getElem hl)) (q _ (List.getElem_mem hl))
end
theorem hpL {K : PySem.W.Frag} {H : Hp} {a : Addr} {xs : List V} (h : H a = some (.lst xs)) : SqL K H a xs := .of h
theorem hpT {K : PySem.W.Frag} {H : Hp} {a : Addr} {xs : List V} (h : H a = some (.tup xs)) : SqT K H a xs := .of h
theorem bd_mod {x n : Int} (h : 0 < n ∧ n < 18446744073709551616) : Bd 64 (x % n) := bd_64 (by
  have h1 := Int.emod_nonneg x (show n ≠ 0 by omega)
  have h2 := Int.emod_lt_of_pos x h.1
  omega)
theorem hp_from {H0 H : Hp} {p : Addr} {o : HO} (h : H0 p = some o) (e : Same H0 H) : H p = some o := e _ _ h
theorem same_via {H H1 H2 : Hp} (b : Same H1 H2) (a : Same H H1) : Same H H2 := a.trans b
theorem same_upd' {H H' : Hp} {a : Addr} {o : HO} (h : H' a = none) (e : Same H H') : Same H (upd H' a o) := same_upd e h
theorem same_mut' {H H' : Hp} {a : Addr} {o : HO} (h : H a = none) (e : Same H H') : Same H (upd H' a o) := same_mut e h
section
variable {K : PySem.W.Frag} {H : Hp} {σ : L2.St} {Q : VK}
theorem L_clear {a : Addr} {xs : List V} (h : H a = some (.lst xs)) (q : Q .non (upd H a (.lst []))) : rClear (.ref a) [] H Q := ⟨a, xs, rfl, rfl, h, q⟩
theorem L_dnew (h : ∀ p, H p = none → Q (.ref p) (upd H p (.dK []))) : tDNewK σ H Q := h
/-- no list -/
def NotL (K : PySem.W.Frag) (H : Hp) (v : V) : Prop := ∃ a, TyX K H v (.type a) ∧ kitB a "list" = some false
theorem notl_tup {a : Addr} {xs : List V} (h : SqT K H a xs) : NotL K H (.ref a) := ⟨_, tyx_T h, by decide +kernel⟩
theorem notl_non : NotL K H .non := ⟨_, .base .non, by decide +kernel⟩
theorem notl_int {i : Int} : NotL K H (.int i) := ⟨_, .base (.int i), by decide +kernel⟩
theorem notl_bl {i : Bool} : NotL K H (.bl i) := ⟨_, .base (.bl i), by decide +kernel⟩
theorem notl_str {i : Str} : NotL K H (.str i) := ⟨_, .base (.str i), by decide +kernel⟩
theorem notl_dK {a : Addr} {xs : List (Key × V)} (h : H a = some (.dK xs)) : NotL K H (.ref a) := ⟨_, .base (.dK h), by decide +kernel⟩
theorem NotL.same {H' : Hp} {v : V} (h : NotL K H v) (e : Same H H') : NotL K H' v := by
  obtain ⟨a, h1, h2⟩ := h
  exact ⟨a, TyX_same e h1, h2⟩
end
theorem rep1 (x : Int) : ∀ n : Nat, (List.replicate n [V.int x]).flatten = (List.replicate n x).map V.int
  | 0 => rfl
  | n + 1 => by rw [List.replicate_succ, List.flatten_cons, rep1 x n]; rfl
section
variable {K : PySem.W.Frag} {H : Hp} {Q : VK}
theorem L_neB {i j : Bool} (q : Q (.bl (!decide (i = j))) H) : aNe K (.bl i) (.bl j) H Q := .inl ⟨rfl, by rw [show decide (V.bl i = V.bl j) = decide (i = j) by simp]; exact q⟩
end
/-! ### for x in xs: check(x) -/
section
variable {K : PySem.W.Frag} {σ : L2.St} {H : Hp} {N : L2.St → Hp → Prop} {R : VK} {a : Addr} {xs : List V} {sp : Sp} {ES : L2.St → XK} {i : Nat} {c : Value}
theorem set_self (σ : L2.St) (i : Nat) (hi : i < σ.length) : ∃ v, σ = σ.set i v := ⟨σ[i], by simp⟩
theorem L_forChk (hL : SqL K H a xs) (hi : i < σ.length) (hok : ∀ x ∈ xs, ∀ Q E, Q .non H → sp [x] H Q E) (q : ∀ v, N (σ.set i v) H) : ForT (Itl K a) σ H (gName i) (tDrop (tCallS sp ES (tCons (tVar i) tNil))) N R := by
  refine f_it walk_list (fun _ σ' H' => H' = H ∧ ∃ v, σ' = σ.set i v) ⟨rfl, set_self σ i hi⟩ (fun _ _ _ _ p => p.1 ▸ hL) ?_ ?_
  · rintro j x σ' H' H'' hj ⟨rfl, v, rfl⟩ ⟨rfl, e⟩
    refine L_gname (L_drop (L_callS (L_cons (L_var (v := x) ?_ (L_nil (hok x (List.mem_of_getElem? e) _ _ ?_))))))
    · simp [hi]
    · exact ⟨rfl, some x, by rw [List.set_set]⟩
  · rintro σ' H' ⟨rfl, v, rfl⟩
    exact q v
theorem L_forChkX (hL : SqL K H a xs) (hi : i < σ.length) (hx : ∀ x ∈ xs, (∀ Q E, Q .non H → sp [x] H Q E) ∨ ∀ Q E, E c none H → sp [x] H Q E) (hb : ∃ x ∈ xs, ∀ Q E, E c none H → sp [x] H Q E) (q : ∀ v, ES (σ.set i v) c none H) :
    ForT (Itl K a) σ H (gName i) (tDrop (tCallS sp ES (tCons (tVar i) tNil))) N R := by
  obtain ⟨x0, hx0, hb0⟩ := hb
  obtain ⟨j0, hj0⟩ := List.mem_iff_getElem?.mp hx0
  refine f_it walk_list (fun j σ' H' => H' = H ∧ (∃ v, σ' = σ.set i v) ∧ ∃ k x, j ≤ k ∧ xs[k]? = some x ∧ ∀ Q E, E c none H → sp [x] H Q E) ⟨rfl, set_self σ i hi, j0, x0, Nat.zero_le _, hj0, hb0⟩ (fun _ _ _ _ p => p.1 ▸ hL) ?_ ?_
  · rintro j x σ' H' H'' hj ⟨rfl, ⟨v, rfl⟩, k, y, hk, hy, hby⟩ ⟨rfl, e⟩
    refine L_gname (L_drop (L_callS (L_cons (L_var (v := x) ?_ (L_nil ?_)))))
    · simp [hi]
    · by_cases hc : ∀ Q E, E c none H'' → sp [x] H'' Q E
      · exact hc _ _ (by rw [List.set_set]; exact q _)
      · refine (hx x (List.mem_of_getElem? e)).resolve_right hc _ _ ⟨rfl, ⟨some x, by rw [List.set_set]⟩, k, y, ?_, hy, hby⟩
        rcases Nat.lt_or_eq_of_le hk with hlt | rfl
        · exact hlt
        · rw [e] at hy
          cases hy
          exact absurd hby hc
  · rintro σ' H' ⟨rfl, ⟨v, rfl⟩, k, y, hk, hy, hby⟩
    have := (List.getElem?_eq_some_iff.mp hy).1
    omega
end
theorem L_bm0 {K : PySem.W.Frag} {σ : L2.St} {H : Hp} {Q : VK} {te : TE} {T : String} {r : V → List V → Hp → VK → Prop} (h : te σ H fun x H1 => tyV K T x H1 ∧ r x [] H1 Q) : tBM0 K T r te σ H Q := h
/-- what an expression's ways have in common -/
theorem L_via {P : VK → Prop} {Q : VK} (R : V → Hp → Prop) (key : ∀ Q : VK, (∀ v H', R v H' → Q v H') → P Q) (q : ∀ v H', R v H' → Q v H') : P Q := key Q q
section
variable {K : PySem.W.Frag} {H : Hp} {σ : L2.St} {Q : VK} {ta tb : TE}
theorem L_disp1 (h : ∀ p, H p = none → ta σ (upd H p (.dK [])) fun k H1 => tb σ H1 fun v H2 => H2 p = some (.dK []) ∧ ∃ kvs : List (Key × V), [(k, v)] = kvs.map (fun kv => (kV kv.1, kv.2)) ∧ kvs.length ≤ 15 ∧ Q (.ref p) (upd H2 p (.dK (mergeK [] kvs)))) : tDisp [(ta, tb)] σ H Q := h
theorem L_dispE1 {p : Addr} {k v : V} (kk : Key) (e : k = kV kk) (h : H p = some (.dK [])) (q : Q (.ref p) (upd H p (.dK [(kk, v)]))) : H p = some (.dK []) ∧ ∃ kvs : List (Key × V), [(k, v)] = kvs.map (fun kv => (kV kv.1, kv.2)) ∧ kvs.length ≤ 15 ∧ Q (.ref p) (upd H p (.dK (mergeK [] kvs))) :=
  ⟨h, [(kk, v)], by rw [e]; rfl, by simp, q⟩
/-- a sign of a text -/
theorem L_ixSany {z : Str} {i : Int} (hz : z.length ≤ 1000000) (h0 : 0 ≤ i) (h1 : i < z.length) (q : ∀ a ∈ z.cps.toList, Q (.str ⟨#[a]⟩) H) : rIx K (.str z) (.int i) H Q := by
  have hl : i.toNat < z.cps.toList.length := by
    have e : z.cps.toList.length = z.length := by rw [Array.length_toList]; rfl
    omega
  have h3 : z.cps.toList[i.toNat]? = some z.cps.toList[i.toNat] := List.getElem?_eq_getElem hl
  refine L_ixS (sz_dec hz) (a := z.cps.toList[i.toNat]) ?_ (q _ (List.getElem_mem hl))
  obtain ⟨j, rfl⟩ : ∃ j : Nat, i = (j : Int) := ⟨i.toNat, by omega⟩
  exact atI_nat h3
theorem L_inR {i lo hi : Int} {a : Addr} (h : H a = some (.rng lo hi)) (q : Q (.bl (decide (lo ≤ i ∧ i < hi))) H) : (∃ i' a' lo hi, V.int i = V.int i' ∧ V.ref a = V.ref a' ∧ H a' = some (.rng lo hi) ∧ Q (.bl (decide (lo ≤ i' ∧ i' < hi))) H) := ⟨i, a, lo, hi, rfl, rfl, h, q⟩
theorem L_rng2 {i j : Int} (q : ∀ p, H p = none → Q (.ref p) (upd H p (.rng i j))) : (∃ i' j', [V.int i, V.int j] = [V.int i', V.int j'] ∧ ∀ p, H p = none → Q (.ref p) (upd H p (.rng i' j'))) := ⟨i, j, rfl, q⟩
/-- no text -/
def NotS (K : PySem.W.Frag) (H : Hp) (v : V) : Prop := ∃ a, TyX K H v (.type a) ∧ kitB a "str" = some false
theorem nots_tup {a : Addr} {xs : List V} (h : SqT K H a xs) : NotS K H (.ref a) := ⟨_, tyx_T h, by decide +kernel⟩
theorem nots_lst {a : Addr} {xs : List V} (h : SqL K H a xs) : NotS K H (.ref a) := ⟨_, tyx_L h, by decide +kernel⟩
theorem nots_non : NotS K H .non := ⟨_, .base .non, by decide +kernel⟩
theorem nots_int {i : Int} : NotS K H (.int i) := ⟨_, .base (.int i), by decide +kernel⟩
theorem nots_bl {i : Bool} : NotS K H (.bl i) := ⟨_, .base (.bl i), by decide +kernel⟩
theorem nots_dK {a : Addr} {xs : List (Key × V)} (h : H a = some (.dK xs)) : NotS K H (.ref a) := ⟨_, .base (.dK h), by decide +kernel⟩
theorem NotS.same {H' : Hp} {v : V} (h : NotS K H v) (e : Same H H') : NotS K H' v := by
  obtain ⟨a, h1, h2⟩ := h
  exact ⟨a, TyX_same e h1, h2⟩
end
theorem len1 (a : Nat) : (⟨#[a]⟩ : Str).length = 1 := rfl
theorem str_len_append (a b : Str) : (a ++ b).length = a.length + b.length := Array.size_append
theorem str_len {z : Str} : z.cps.toList.length = z.length := by rw [Array.length_toList]; rfl
theorem one_lt {c d : Nat} : ([c] : List Nat) < [d] ↔ c < d := by
  rw [List.cons_lt_cons_iff]
  constructor
  · rintro (h | ⟨_, h⟩)
    · exact h
    · exact absurd h (List.not_lt_nil _)
  · exact .inl
theorem str_app_list (a b : Str) : (a ++ b).cps.toList = a.cps.toList ++ b.cps.toList := Array.toList_append
theorem eqv_nil {ds : List PyData} : PyData.eqv (.list ds) (.list []) = ds.isEmpty := by
  cases ds <;> simp [PyData.eqv, PyData.eqvAll]
theorem strOk_of {z : Str} (h : ∀ c ∈ z.cps.toList, c < 1114112) : PyData.strOk z = true := by
  show (z.cps.all (· < 0x110000)) = true
  rw [← Array.all_toList, List.all_eq_true]
  intro c hc
  exact decide_eq_true (h c hc)
theorem L_nnT {A B : Prop} (a : A) : if (!!true) = true then A else B := L_T a
theorem L_nnF {A B : Prop} (b : B) : if (!!false) = true then A else B := L_F b
theorem bd_128 {i : Int} (h : -340282366920938463463374607431768211456 < i ∧ i < 340282366920938463463374607431768211456) : Bd 128 i := by
  unfold Bd
  have : (2 : Nat) ^ 128 = 340282366920938463463374607431768211456 := by decide
  omega
/-! ### an exception that was caught, held by a name beyond the clause -/
/-- an exception of the class cls at a, its own dict d -/
def ExI (cls : Value) (d : Option Addr) (a : Addr) : HO := .ext fun h => ∃ (oe : Obj) (vs : Array Value), h.get? a = some oe ∧ Zc cls d oe ∧ oe.data = .fields vs
section
variable {X : Cx} {pins : List (Addr × Obj)} {σ : L2.St} {H : Hp} {s : Shared}
theorem track {a : Addr} {d : Option Addr} {cls : Value} {oe : Obj} {vs : Array Value} (I : Inv X pins σ H s) (na : H a = none) (he : s.heap.get? a = some oe) (z : Zc cls d oe) (hd : oe.data = .fields vs) (n0 : X.s_0.heap.get? a = none)
    (nL : a ≠ X.env.locals) (np : ∀ p ∈ X.pn ++ pins, p.1 ≠ a) : Inv X pins σ (upd H a (ExI cls d a)) s where
  ok := I.ok
  os := I.os
  bare := I.bare
  base := {
    keep := I.base.keep
    slot := I.base.slot
    free := fun b o e n hx => by
      rw [upd_ne (fun z => by rw [z, n0] at e; cases e)]
      exact I.base.free b o e n hx
    there := I.base.there
    tups := fun b xs q => by
      have t := I.base.tups b xs q
      rw [upd_ne (ne_of_none t na)]; exact t
    frzs := fun b o u q => by
      have t := I.base.frzs b o u q
      rw [upd_ne (ne_of_none t na)]; exact t
    tbls := fun b ps q => by
      obtain ⟨more, t⟩ := I.base.tbls b ps q
      exact ⟨more, by rw [upd_ne (ne_of_none t na)]; exact t⟩ }
  loc := I.loc
  cell := I.cell
  free := by rw [upd_ne nL.symm]; exact I.free
  freeC := fun x c e => by
    obtain ⟨v, o, ho, hc⟩ := I.cell x c e
    rw [upd_ne (fun z => by rw [z, he] at ho; cases ho; rw [hd] at hc; cases hc)]
    exact I.freeC x c e
  pin := fun p hp => by
    obtain ⟨h1, h2, h3⟩ := I.pin p hp
    exact ⟨h1, by rw [upd_ne (np p hp)]; exact h2, h3⟩
  hok := fun b o e => by
    by_cases hb : b = a
    · cases hb
      rw [upd_same] at e
      cases e
      exact ⟨⟨oe, vs, he, z, hd⟩, ⟨oe, he⟩, fun _ _ ⟨o1, v1, q, r⟩ k => ⟨o1, v1, k o1 q, r⟩⟩
    · rw [upd_ne hb] at e
      exact (I.hok b o e).stay (fun _ _ _ q => q) (fun c q => by rw [upd_ne (ne_of_none q na)]; exact q) fun c xs q => by rw [upd_ne (ne_of_none q na)]; exact q
  len := I.len
end
/-- what 'except x as n' wishes of an exception, which is tracked behind the suite -/
def wAsT (K : PySem.W.Frag) (c : Value) (i : Nat) (ts : Addr → Value → Option Addr → TS) (Wout : WX) (D : Ends) : WX := fun cls d σ H =>
  ∃ b, PySem.W.exmOne K cls c = some b ∧
    (b = true → ∀ a, H a = none → ts a cls d ⟨fun σ' H' => H' a = none → D.nx (σ'.set i none) (upd H' a (ExI cls d a)), D.rt, fun σ' H' => D.bk (σ'.set i none) H', fun σ' H' => D.ct (σ'.set i none) H'⟩ (σ.set i (some (.ref a))) H) ∧
    (b = false → Wout cls d σ H)
section
variable {X : Cx} {x n : Str} {c : Value} {i : Nat} {body suite : List Stmt} {b₀ : Stmt} {np pos pos' : Pos} {tb : WX → TS} {ts : Addr → Value → Option Addr → TS} {Wout : WX}
theorem ps_try_asT (hs : X.stack = X.env :: X.outer) (hf : X.env.frame = some X.env.locals) (hN : X.N.Nodup) (hi : X.N[i]? = some n) (hln : X.env.kindOf n = some .local) (hex : X.ex = []) (hc : Names X x c) (tk : Takes X Wout)
    (hb : ∀ (W : WX) (pn : List (Addr × Obj)) (xe : Value → Shared → Prop), Takes (X.tr pn xe) W → PassesOwn (model X.prog X.w) X.A X.env xe → PSs (X.tr pn xe) body (tb W))
    (hsu : ∀ (a : Addr) (oe : Obj) (cls : Value) (d : Option Addr) (pn : List (Addr × Obj)), Zc cls d oe → (∃ vs, oe.data = .fields vs) → PSs (X.suite a ((a, oe) :: pn)) (b₀ :: suite) (ts a cls d)) :
    PS X (.Try body [.ExceptHandler (some (.Name x np)) (some n) (b₀ :: suite) pos'] [] [] pos) (fun D σ H => tb (wAsT X.K c i ts Wout D) D σ H) := by
  constructor
  intro pins s0 σ0 H0 D I0 start
  have okX := I0.ok
  have frames : X.A.frames = some (X.env :: X.outer) := by
    rw [okX.frames, hs]
  apply wpAny_Try_except
  -- what is raised in the body is looked at by the clause
  let look : Value → Shared → Prop := fun e t1 => wpAny (model X.prog X.w) X.A (noteFrame e X.env) (fun _ t2 => wpAny (model X.prog X.w) X.A (setFlight e none)
    (fun _ t3 => wpAny (model X.prog X.w) X.A (handleBy e X.env [.ExceptHandler (some (.Name x np)) (some n) (b₀ :: suite) pos']) (SP X pins D) X.xe t3) X.xe t2) X.xe t1
  have caught : Takes (X.tr (X.pn ++ pins) look) (wAsT X.K c i ts Wout D) := by
    intro u s' air
    obtain ⟨a, B, sI, pins', σ', H', cls, d, rfl, K', nb, up, sky, na, os, ag, b, exm, yes, no⟩ := air
    have K0 : Inv X pins σ' H' sI := K'.ofTry okX
    have sky1 : Sky B (X.env :: X.outer) a (Zc cls d) X.env.locals s'.heap := hs ▸ sky
    show wpAny (model X.prog X.w) X.A (noteFrame (.ref a) X.env) _ _ _
    apply Sky.land Zc.steady frames hf sky1
    intro h3 fl3 up3
    have J3 : Inv X pins σ' H' { s' with heap := h3 } := K0.landed nb fl3.1 (up.trans up3) os ag
    obtain ⟨oe3, vs3, at3, z3, data3⟩ := fl3.there
    have offFrames : a ∉ frs (X.env :: X.outer) := fun hm => by
      obtain ⟨_, o', there', hnf⟩ := fl3.2.2.1.mem hm
      rw [at3] at there'
      cases there'
      exact hnf _ data3
    have nL : a ≠ X.env.locals := fun e => offFrames (List.mem_filterMap.mpr ⟨X.env, List.mem_cons_self, by rw [hf, e]⟩)
    have nF : a ∉ X.fs := fun hm => by
      obtain ⟨e, he, q⟩ := List.mem_filterMap.mp hm
      exact offFrames (List.mem_filterMap.mpr ⟨e, List.mem_cons_of_mem _ he, q⟩)
    -- a is new: it stood neither at the try's entry nor at the def's
    have newB : B.get? a = none := fl3.2.1
    have newI : sI.heap.get? a = none := by
      cases q : sI.heap.get? a with
      | none => rfl
      | some o =>
        have := nb a o q (by rw [hs]; exact offFrames)
        rw [newB] at this
        cases this
    have new0 : X.s_0.heap.get? a = none := by
      cases q : X.s_0.heap.get? a with
      | none => rfl
      | some o =>
        obtain ⟨o', q'⟩ := K0.base.there a o q (by rw [hex]; exact List.not_mem_nil)
        rw [newI] at q'
        cases q'
    have apart : ∀ p ∈ X.pn ++ pins, p.1 ≠ a := fun p hp e => by
      have := (K0.pin p hp).1
      rw [e, newI] at this
      cases this
    have S3 := J3.suite at3 data3 na nL nF
    apply wpAny_handleBy_cons _ (by intro q; cases q)
    apply codeAny_handlers_test
    have tyA : PySem.W.Looks (model X.prog X.w) h3 (typeOf (.ref a)) cls := fun A Q E t k q => wpAny_typeOf_ref (k _ _ at3) (by rw [z3.1]; exact q)
    have matched := PySem.W.exm_one (M := model X.prog X.w) (J3.kIn) tyA exm
    have named : ∀ {Q : Value → Shared → Prop} {E : Value → Shared → Prop}, Q c { s' with heap := h3 } → wpAny (model X.prog X.w) (X.A.mark (some (.ref a))) (eval (.Name x np) X.env) Q E { s' with heap := h3 } := by
      intro Q E q
      obtain ⟨hg, hdbg, hm⟩ := hc
      rcases hm with hm | ⟨hm, hv, hnn⟩
      · exact ld_glob (X := X.suite a ((a, oe3) :: (X.pn ++ pins))) S3 hg hm q hdbg
      · exact ld_blt (X := X.suite a ((a, oe3) :: (X.pn ++ pins))) S3 hg hm hv q hnn hdbg
    apply named
    apply matched.here
    cases b with
    | true =>
      apply codeAny_handlers_suite_as
      apply HandSPX.lands_againZ fl3
      intro h4 fl4 up4
      have J4 : Inv X pins σ' H' { s' with heap := h4 } := K0.landed nb fl4.1 ((up.trans up3).trans up4) os ag
      obtain ⟨oe4, vs4, at4, z4, data4⟩ := fl4.there
      have S4 := J4.suite at4 data4 na nL nF
      refine store_ok (X := X.suite a ((a, oe4) :: (X.pn ++ pins))) (v := .ref a) S4 hN hi (.inl hln) rfl (fun s5 S5 => ?_) (.inr hln)
      refine wpAny_mono ((hsu a oe4 cls d (X.pn ++ pins) z4 ⟨_, data4⟩).run [] s5 _ H' _ S5 (yes rfl a na)) (fun f s6 hsp => ?_) (fun _ _ z => z.elim)
      -- out of the suite, the exception still pinned
      have out : ∀ {σ6 : L2.St} {H6 : Hp} {Q : Shared → Prop}, Inv (X.suite a ((a, oe4) :: (X.pn ++ pins))) [] σ6 H6 s6 → (∀ s7, Inv X pins (σ6.set i none) H6 s7 → H6 a = none → s7.heap.get? a = some oe4 → Q s7) →
          wpAny (model X.prog X.w) X.A (do bindName X.env n .none; unbindBehindTheSuite X.env n pos') (fun _ s7 => Q s7) X.xe s6 := fun {σ6 H6 Q} S6 hq => by
        have P6 : Inv X ((a, oe4) :: pins) σ6 H6 s6 := { S6.unsuite okX with
          pin := fun p hp => S6.pin p (by
            rcases List.mem_append.mp hp with hp | hp
            · exact List.mem_append_left _ (List.mem_cons_of_mem _ (List.mem_append_left _ hp))
            · rcases List.mem_cons.mp hp with e | hp
              · rw [e]; exact List.mem_append_left _ List.mem_cons_self
              · exact List.mem_append_left _ (List.mem_cons_of_mem _ (List.mem_append_right _ hp))) }
        refine gone_ok P6 hN hi hln fun s7 P7 => ?_
        have pinned := P7.pin (a, oe4) (List.mem_append_right _ List.mem_cons_self)
        refine hq s7 { P7 with pin := fun p hp => P7.pin p ?_ } pinned.2.1 pinned.1
        rcases List.mem_append.mp hp with hp | hp
        · exact List.mem_append_left _ hp
        · exact List.mem_append_right _ (List.mem_cons_of_mem _ hp)
      match f, hsp with
      | .next, ⟨σ6, H6, S6, q6⟩ => exact out S6 fun s7 J7 n6 a6 => ⟨_, _, track J7 n6 a6 z4 data4 new0 nL apart, q6 n6⟩
      | .brk, ⟨σ6, H6, S6, q6⟩ => exact out S6 fun s7 J7 _ _ => ⟨_, _, J7, q6⟩
      | .cont, ⟨σ6, H6, S6, q6⟩ => exact out S6 fun s7 J7 _ _ => ⟨_, _, J7, q6⟩
      | .ret u, ⟨v6, σ6, H6, S6, r6, q6⟩ => exact out S6 fun s7 J7 _ _ => ⟨_, _, _, J7, r6, q6⟩
    | false =>
      show wpAny _ X.A (handleBy (.ref a) X.env []) _ _ _
      apply wpAny_handleBy_nil
      obtain ⟨_, _, _, oe, vs, T, oT, ts', he, hz, hd, h1, hr⟩ := id fl3
      unfold PySem.passOn
      refine wpAny_bind (wpAny_field he hd h1 ?_)
      rw [if_neg (show ¬ ((Value.ref T == Value.none) = true) from by simp)]
      have on : wpAny (model X.prog X.w) X.A (setFlight (.ref a) X.env.frame) (fun _ s4 => wpAny (model X.prog X.w) X.A (throw (.ref a) : Sem Flow) (SP X pins D) X.xe s4) X.xe { s' with heap := h3 } := by
        rw [hf]
        apply HandSPX.setFlight_upZ fl3
        intro h4 held4 up4
        apply wpAny_throw
        apply tk
        exact ⟨a, B, sI, pins, σ', H', cls, d, rfl, K0, nb, (up.trans up3).trans up4, .inr (.inr (by rw [hs]; exact held4)), na, os, ag, no rfl⟩
      first
        | exact wpAny_bind (wpAny_pure (wpAny_bind on))
        | exact wpAny_bind on
  refine wpAny_mono ((hb (wAsT X.K c i ts Wout D) (X.pn ++ pins) look caught PassesOwn.looking).run [] s0 σ0 H0 D (I0.toTry _) start) (fun f s1 hsp => ?_) (fun e s1 he => he)
  match f, hsp with
  | .next, ⟨σ1, H1, J1, q⟩ => exact wpAny_execs_nil ⟨σ1, H1, J1.ofTry okX, q⟩
  | .brk, ⟨σ1, H1, J1, q⟩ => exact ⟨σ1, H1, J1.ofTry okX, q⟩
  | .cont, ⟨σ1, H1, J1, q⟩ => exact ⟨σ1, H1, J1.ofTry okX, q⟩
  | .ret u, ⟨v, σ1, H1, J1, r, q⟩ => exact ⟨v, σ1, H1, J1.ofTry okX, r, q⟩
end
/-- isinstance of a caught exception that a name holds -/
def rIsX (K : PySem.W.Frag) : List V → Hp → VK → Prop := fun xs H Q => ∃ (a D : Addr) (c : V) (u : Value) (b : Bool), xs = [.ref a, c] ∧ H a = some (ExI (.ref D) none a) ∧ L2.ExcC K D ∧ ClsV c u ∧ PySem.W.kitOne K (.ref D) u = some b ∧ Q (.bl b) H
def rIsXT (K : PySem.W.Frag) : List V → Hp → VK → Prop := fun xs H Q => ∃ (a D tp : Addr) (cs : List V) (us : List Value) (b : Bool), xs = [.ref a, .ref tp] ∧ H a = some (ExI (.ref D) none a) ∧ L2.ExcC K D ∧ H tp = some (.tup cs) ∧ Paired ClsV cs us ∧ PySem.W.kitAny K (.ref D) us = some b ∧ Q (.bl b) H
section
variable {X : Cx} {pins : List (Addr × Obj)} {σ : L2.St} {H : Hp} {s : Shared}
theorem exI_at {a D : Addr} (I : Inv X pins σ H s) (h : H a = some (ExI (.ref D) none a)) : ∃ oe, PySem.W.InstAt s.heap a oe D none := by
  obtain ⟨⟨oe, vs, q1, ⟨q2, q3⟩, q4⟩, _⟩ := I.hok a _ h
  obtain ⟨oc, od, oda, osl⟩ := oe
  dsimp only at q2 q3 q4
  subst q2 q3 q4
  exact ⟨_, q1, rfl, rfl, trivial⟩
theorem call_isX : CallR X (.builtin "isinstance") (rIsX X.K) := by
  intro pins s σ H xs us Q I r h
  obtain ⟨a, D, c, u, b, rfl, hx, C, k, e, q⟩ := h
  obtain ⟨u1, u2, rfl, r1, r2⟩ := vals2 r
  cases r1
  cases k.eq r2
  obtain ⟨oe, J⟩ := exI_at I hx
  exact PySem.W.kia_one (PySem.W.handS_kitx_exc C.hg C.hk C.hs C.hd C.ha C.hn C.ht C.hm) I.kIn J e (fun z => nomatch z) fun tk => ⟨.bl b, H, I.tok tk, rfl, q⟩
theorem call_isXT : CallR X (.builtin "isinstance") (rIsXT X.K) := by
  intro pins s σ H xs us Q I r h
  obtain ⟨a, D, tp, cs, ws, b, rfl, hx, C, hT, k, e, q⟩ := h
  obtain ⟨u1, u2, rfl, r1, r2⟩ := vals2 r
  cases r1
  cases (show u2 = Value.ref tp from r2)
  obtain ⟨oe, J⟩ := exI_at I hx
  obtain ⟨_, its, rv, o, h1, h2, n, h3⟩ := (show ObjOk X.prog X.w H s.heap tp (.tup cs) from I.hok tp _ hT)
  have e3 := ClsV.all k rv
  subst e3
  obtain ⟨oc, od, dt, sl⟩ := o
  simp only at h2 h3
  subst h2 h3
  exact PySem.W.kia_tup (PySem.W.handS_kitx_exc C.hg C.hk C.hs C.hd C.ha C.hn C.ht C.hm) I.kIn J h1 e (fun z => nomatch z) fun tk => ⟨.bl b, H, I.tok tk, rfl, q⟩
end
section
variable {K : PySem.W.Frag} {H : Hp} {Q : VK} {C D : Addr} {b : Bool}
theorem kit_ref (hD : PySem.W.subIn K (.ref D) (.ref D) = some true) (k : ExcK K C) (h : PySem.W.subIn K (.ref D) (.ref C) = some b) : PySem.W.kitOne K (.ref D) (.ref C) = some b := by
  unfold PySem.W.kitOne
  by_cases e : D = C
  · subst e
    rw [hD] at h
    cases h
    rw [if_pos (by simp)]
  · rw [if_neg (by simpa using e)]
    have h2 : (PySem.W.clsIn K C).isSome = true := k.i
    show (if ((PySem.W.clsIn K C).isSome && PySem.W.typeIn K (.ref C) == some (.type "type")) = true then PySem.W.subIn K (.ref D) (.ref C) else none) = some b
    rw [if_pos (by rw [h2, k.t]; rfl)]
    exact h
theorem kit_typ {T : String} (hm : PySem.W.kitMeta T = true) (h : PySem.W.subIn K (.ref D) (.type T) = some b) : PySem.W.kitOne K (.ref D) (.type T) = some b := by
  unfold PySem.W.kitOne
  rw [if_neg (by simp)]
  show (if PySem.W.kitMeta T = true then PySem.W.subIn K (.ref D) (.type T) else none) = some b
  rw [if_pos hm]
  exact h
theorem L_isX {a : Addr} {c : V} {u : Value} (h : H a = some (ExI (.ref D) none a)) (C : L2.ExcC K D) (k : ClsV c u) (e : PySem.W.kitOne K (.ref D) u = some b) (q : Q (.bl b) H) : rIsX K [.ref a, c] H Q := ⟨a, D, c, u, b, rfl, h, C, k, e, q⟩
theorem L_isXT {a tp : Addr} {cs : List V} {us : List Value} (h : H a = some (ExI (.ref D) none a)) (C : L2.ExcC K D) (hT : H tp = some (.tup cs)) (k : Paired ClsV cs us) (e : PySem.W.kitAny K (.ref D) us = some b) (q : Q (.bl b) H) : rIsXT K [.ref a, .ref tp] H Q := ⟨a, D, tp, cs, us, b, rfl, h, C, hT, k, e, q⟩
theorem kit_none : ∀ {us : List Value}, (∀ u ∈ us, PySem.W.kitOne K (.ref D) u = some false) → PySem.W.kitAny K (.ref D) us = some false
  | [], _ => rfl
  | u :: us, h => by
    unfold PySem.W.kitAny
    rw [h u (List.mem_cons_self ..)]
    exact kit_none fun x hx => h x (List.mem_cons_of_mem _ hx)
theorem L_asT {c : Value} {i : Nat} {ts : Addr → Value → Option Addr → TS} {Wout : WX} {D : Ends} {σ : L2.St} {cls : Value} {d : Option Addr} (h : PySem.W.exmOne K cls c = some true)
    (q : ∀ a, H a = none → ts a cls d ⟨fun σ' H' => H' a = none → D.nx (σ'.set i none) (upd H' a (ExI cls d a)), D.rt, fun σ' H' => D.bk (σ'.set i none) H', fun σ' H' => D.ct (σ'.set i none) H'⟩ (σ.set i (some (.ref a))) H) : wAsT K c i ts Wout D cls d σ H :=
  ⟨true, h, fun _ => q, fun z => nomatch z⟩
end
/-! ### lists of numbers, and what is none -/
def BadNs (K : PySem.W.Frag) (H : Hp) (v : V) (lo hi : Int) : Prop := NotL K H v ∨ ∃ a xs, v = .ref a ∧ SqL K H a xs ∧ (24 < xs.length ∨ ((∀ x ∈ xs, (∃ t, x = .int t ∧ lo ≤ t ∧ t ≤ hi) ∨ BadW K H x lo hi) ∧ ∃ x ∈ xs, BadW K H x lo hi))
def GoodNs (K : PySem.W.Frag) (H : Hp) (v : V) (ts : List Int) (lo hi : Int) : Prop := ∃ a, v = .ref a ∧ SqL K H a (ts.map V.int) ∧ ts.length ≤ 24 ∧ ∀ t ∈ ts, lo ≤ t ∧ t ≤ hi
section
variable {K : PySem.W.Frag} {H H' : Hp} {v : V} {lo hi : Int} {ts : List Int}
theorem BadNs.same (h : BadNs K H v lo hi) (e : Same H H') : BadNs K H' v lo hi := by
  rcases h with h | ⟨a, xs, h1, h2, h3⟩
  · exact .inl (h.same e)
  · refine .inr ⟨a, xs, h1, e.seq h2, ?_⟩
    rcases h3 with h3 | ⟨h3, x, h4, h5⟩
    · exact .inl h3
    · exact .inr ⟨fun x hx => (h3 x hx).imp id fun b => b.same e, x, h4, h5.same e⟩
theorem GoodNs.same (h : GoodNs K H v ts lo hi) (e : Same H H') : GoodNs K H' v ts lo hi := by
  obtain ⟨a, h1, h2, h3, h4⟩ := h
  exact ⟨a, h1, e.seq h2, h3, h4⟩
theorem bad_one {a : Addr} {x : V} (h : H a = some (.lst [x])) (b : BadW K H x lo hi) : BadNs K H (.ref a) lo hi := .inr ⟨a, _, rfl, .of h, .inr ⟨fun y hy => by rw [List.mem_singleton.mp hy]; exact .inr b, x, List.mem_singleton.mpr rfl, b⟩⟩
theorem good_ns {a : Addr} (h : H a = some (.lst (ts.map V.int))) (hl : ts.length ≤ 24) (hb : ∀ t ∈ ts, lo ≤ t ∧ t ≤ hi) : GoodNs K H (.ref a) ts lo hi := ⟨a, rfl, .of h, hl, hb⟩
theorem int_of_mem {x : V} (h : x ∈ ts.map V.int) : ∃ t ∈ ts, x = .int t := by
  obtain ⟨t, h1, h2⟩ := List.mem_map.mp h
  exact ⟨t, h1, h2.symm⟩
theorem getD_of {i : Nat} {t : Int} (h : ts[i]? = some t) : ts.getD i 0 = t := by rw [List.getD_eq_getElem?_getD, h]; rfl
theorem fm_int {f : Nat → Option Int} {n : Nat} : (List.range n).filterMap (fun i => (f i).map V.int) = ((List.range n).filterMap f).map V.int := by
  rw [List.map_filterMap]
end
/-- pairs of ints as data -/
def d2 (r : Int × Int) : PyData := .tuple [.int r.1, .int r.2]
section
variable {K : PySem.W.Frag} {H : Hp} {v : V} {us : List V} {rows : List (Int × Int)}
theorem of_d2 {r : Int × Int} (h : Dp K H v (d2 r)) : ∃ a, v = .ref a ∧ SqT K H a [.int r.1, .int r.2] := by
  obtain ⟨a, x, y, rfl, h1, h2, h3⟩ := of_t2 h
  rw [of_int h2, of_int h3] at h1
  exact ⟨a, rfl, h1⟩
theorem hit2 (hA : DpAll K H us (rows.map d2)) {i : Nat} {x : V} (hx : us[i]? = some x) : ∃ r t, rows[i]? = some r ∧ x = V.ref t ∧ SqT K H t [.int r.1, .int r.2] := by
  obtain ⟨d, h1, h2⟩ := hA.of hx
  rw [List.getElem?_map] at h1
  obtain ⟨r, h3, rfl⟩ := Option.map_eq_some_iff.mp h1
  obtain ⟨t, rfl, h4⟩ := of_d2 h2
  exact ⟨r, t, h3, rfl, h4⟩
theorem shp_d2s : SeqAt.shaped (.list (rows.map d2)) = true := (shp_lst (n := 1) (shp_map fun r _ => shp_tup (n := 0) (shp_cons shp_int (shp_cons shp_int shp_nil)))).ok
end
theorem cutG_take {α : Type} (xs : List α) (n : Nat) : cutG xs none (some (n : Int)) = xs.take n := by
  unfold cutG
  rw [HT.sIx_none, HT.sIx_nat, List.drop_zero, Nat.sub_zero]
  rcases Nat.le_total n xs.length with h | h
  · rw [Nat.min_eq_left h]
  · rw [Nat.min_eq_right h, List.take_of_length_le (Nat.le_refl _), List.take_of_length_le h]
theorem cutG_drop {α : Type} (xs : List α) (n : Nat) : cutG xs (some (n : Int)) none = xs.drop n := by
  unfold cutG
  rw [HT.sIx_none, HT.sIx_nat]
  rcases Nat.le_total n xs.length with h | h
  · rw [Nat.min_eq_left h, List.take_of_length_le (by rw [List.length_drop]; exact Nat.le_refl _)]
  · rw [Nat.min_eq_right h, List.drop_of_length_le (Nat.le_refl _), List.drop_of_length_le h, List.take_nil]
theorem strOk_lit {z : Str} (h : PyData.strOk z = true) : PyData.strOk z = true := h
theorem dpa_app {K : PySem.W.Frag} {H : Hp} : ∀ {ds es : List PyData} {vs us : List V}, DpAll K H (vs ++ us) (ds ++ es) → vs.length = ds.length → DpAll K H vs ds ∧ DpAll K H us es
  | [], _, [], _, h, _ => ⟨.nil, h⟩
  | [], _, _ :: _, _, _, e => by simp at e
  | _ :: _, _, [], _, _, e => by simp at e
  | d :: ds, _, v :: vs, _, h, e => by
    cases h with
    | cons h1 h2 =>
      obtain ⟨a, b⟩ := dpa_app h2 (by simpa using e)
      exact ⟨.cons h1 a, b⟩
theorem nn_ints_or {K : PySem.W.Frag} {H : Hp} {x : V} {ts : List Int} {lo hi : Int} (hb : ∀ t ∈ ts, lo ≤ t ∧ t ≤ hi) (h : x ∈ ts.map V.int) : (∃ t, x = .int t ∧ lo ≤ t ∧ t ≤ hi) ∨ BadW K H x lo hi := by
  obtain ⟨t, ht, e⟩ := int_of_mem h
  exact .inl ⟨t, e, hb t ht⟩
theorem rep_len {α : Type} (xs : List α) : ∀ n : Nat, (List.replicate n xs).flatten.length = n * xs.length
  | 0 => by simp
  | n + 1 => by rw [List.replicate_succ, List.flatten_cons, List.length_append, rep_len xs n, Nat.succ_mul, Nat.add_comm]
/-! ### exceptions whose own __init__ asks their base's by its name -/
/-- S.__init__, S an own class, is ValueError's -/
structure BaseI (K : PySem.W.Frag) (S : Addr) : Prop where
  rd : PySem.W.readsIn K S (.type "type") = true
  ga : PySem.W.specialIn K (.ref S) "__getattribute__" = some (some (.builtin "type.__getattribute__"))
  vi : PySem.W.findCls K (.ref S) (.type "type") "__init__" = some (.val (.builtin "ValueError.__init__"))
structure XIniAt (K : PySem.W.Frag) (C : Addr) (qual : Str) (st : Stmt) (ps : List Str) : Prop where
  ex : ∃ (f : Addr) (fd : FuncData), Fun K "__init__" qual st f fd ∧ PySem.W.findIn K (.ref C) "__init__" = some (some (.ref f)) ∧ PySem.W.isFn K (.ref f) = true ∧ Binds K fd ps []
/-- an exception that may be made by its class's name -/
structure XMak (P : Program) (w : World) (K : PySem.W.Frag) (mg : Str → Option Value) (base : Heap) (k : Nat) (x : Str) (C : Addr) (sp : Sp) : Prop where
  ex : ∃ (f : Addr) (fd : FuncData) (ps : List Str), FnOk P w K mg base CX0 k f fd ps sp ∧ PySem.W.findIn K (.ref C) "__init__" = some (some (.ref f)) ∧ PySem.W.typeIn K (.ref f) = some (.type "function") ∧ mg x = some (.ref C) ∧ Binds K fd ps []
section
variable {P : Program} {w : World} {K : PySem.W.Frag} {mg : Str → Option Value} {base : Heap}
theorem XIniAt.xmak {x : Str} {C : Addr} {qual : Str} {st : Stmt} {N ps : List Str} {k : Nat} {sp : Sp} (hx : mg x = some (.ref C)) (d : XIniAt K C qual st ps) (S : FnScope N ps (defScope st)) (len : ∀ vs H Q E, sp vs H Q E → vs.length = ps.length)
    (hbody : ∀ (f : Addr) (cdv : Value) (A : Around) (outer : List Env) (s : Shared) (H : Hp) (vs : List V) (Q : VK) (E : XK), Room k (A.deeper (envOfC qual (defScope st) s.heap.objs.size f cdv)) → sp vs H Q E →
      ∃ t, PSs (cxOf CX0 P w K mg base N qual (defScope st) f cdv A outer s H E).nox (defBody st) t ∧ t { nx := fun _ H' => Q .non H', rt := Q } (start N vs) H) : XMak P w K mg base (k + 1) x C sp := by
  obtain ⟨f, fd, F, h1, h2, b⟩ := d.ex
  exact ⟨f, fd, ps, F.ok S len (hbody f), h1, beq_iff_eq.mp h2, hx, b⟩
end
section
variable {X : Cx} {k j : Nat} {C S : Addr} {x : Str} {sp : Sp} {p p1 p2 pos : Pos} {e : Expr} {es : List Expr} {ta : TA}
theorem pmk_x (c : XMak X.prog X.w X.K X.mg X.base k x C sp) (T : OexC X.K C) (hr : Room j X.A) (hk : k + 1 ≤ j) (hg : Gl X x) (ha : PA X (e :: es) ta)
    (hdb : (x == ("__debug__" : Str)) = false := by decide) (he : starEach (e :: es) X.env = (false, eval e X.env) :: starEach es X.env := by rfl) (hpl : (backTo pos (starEach es X.env)).any (·.1) = false := by rfl) :
    PMk X (.Call (.Name x p) (e :: es) [] pos) (tMkO C sp [] ta) := by
  obtain ⟨f, fd, ps, F, h1, h2, hm, b⟩ := c.ex
  exact pmk_oex T h1 h2 F (hr.mono hk) b .nil pass0 hg hm ha hdb he hpl
theorem pe_baseI {pl : Sem Bool} (hg : Gl X x) (hm : X.mg x = some (.ref S)) (B : BaseI X.K S) (ha : PA X (e :: es) ta)
    (hc : eval (.Call (.Attribute (.Name x p1) "__init__" p2) (e :: es) [] pos) X.env = (do
      let ov ← eval (.Name x p1) X.env
      standAt p2.atName
      let (f, first) ← holding [ov] (getMethod ov "__init__" pl)
      callWith pos f first (backTo pos (starEach (e :: es) X.env)) (backToKw pos (keywordEach [] X.env))) := by rfl)
    (hdb : (x == ("__debug__" : Str)) = false := by decide) (he : starEach (e :: es) X.env = (false, eval e X.env) :: starEach es X.env := by rfl) (hpl : (backTo pos (starEach es X.env)).any (·.1) = false := by rfl) :
    PE X (.Call (.Attribute (.Name x p1) "__init__" p2) (e :: es) [] pos) (tVeI X.K ta) := by
  constructor
  intro pins s σ H Q I h
  have asked : ∀ s1, Inv X pins σ H s1 → wpAny (model X.prog X.w) X.A (callWith pos (Value.builtin "ValueError.__init__") [] (backTo pos (starEach (e :: es) X.env)) []) (EP X pins σ Q) X.xe s1 := fun s1 I1 =>
    PyProof.Rows.callWith_method1 (thn (ha.run pos pins s1 σ H _ I1 h) fun us s2 ⟨vs, H2, I2, r, a, D, ws, evs, few, T, atA, q⟩ => by
      subst evs
      cases r with
      | @cons _ u0 _ ur r0 rr =>
        obtain rfl : u0 = Value.ref a := r0
        have few' : ur.length ≤ sizeLine := by
          have := Paired.length rr
          have := sizeLine_eq
          omega
        exact oinit_ok T I2 atA few' fun s3 I3 => ⟨.non, H2, I3, rfl, q⟩) he hpl
  refine PySem.W.methodCall_KW (ld_glob I hg hm ?_ hdb) hc
  refine PySem.W.method_cls I.kIn B.ga (PySem.W.cls_value I.kIn B.rd B.vi (by decide +kernel) ?_)
  exact asked _ (I.tok _)
end
section
variable {K : PySem.W.Frag} {σ : L2.St} {H : Hp} {D : Ends} {C a : Addr} {f : Str} {y : V} {ta : TA} {te to : TE}
theorem L_veI {R : Hp → Prop} {ws : List V} (T : OexC K C) (h : H a = some (exo a C none)) (l : ws.length ≤ 1000) (q : R H) : ∃ (a' C : Addr) (ws' : List V), V.ref a :: ws = .ref a' :: ws' ∧ ws'.length ≤ 1000 ∧ OexC K C ∧ H a' = some (exo a' C none) ∧ R H := ⟨a, C, ws, rfl, l, T, h, q⟩
theorem L_tveI {Q : VK} (h : ta σ H fun vs H1 => ∃ (a C : Addr) (ws : List V), vs = .ref a :: ws ∧ ws.length ≤ 1000 ∧ OexC K C ∧ H1 a = some (exo a C none) ∧ Q .non H1) : tVeI K ta σ H Q := h
theorem L_ost (h : te σ H fun y H1 => to σ H1 fun x H2 => ∃ a C : Addr, x = .ref a ∧ OexC K C ∧ PySem.W.findIn K (.ref C) f = some none ∧
  ((H2 a = some (exo a C none) ∧ ∀ dx, H2 dx = none → dx ≠ a → D.nx σ (upd (upd H2 dx (exd dx [(f, y)])) a (exo a C (some dx)))) ∨
    ∃ (dx : Addr) (fs : List (Str × V)), H2 a = some (exo a C (some dx)) ∧ H2 dx = some (exd dx fs) ∧ fs.length ≤ 900 ∧ D.nx σ (upd H2 dx (exd dx ((f, y) :: fs))))) : tOst K f to te D σ H := h
theorem L_ost1 {R : Hp → Prop} (T : OexC K C) (nf : PySem.W.findIn K (.ref C) f = some none) (h : H a = some (exo a C none)) (q : ∀ dx, H dx = none → dx ≠ a → R (upd (upd H dx (exd dx [(f, y)])) a (exo a C (some dx)))) :
    ∃ a' C : Addr, V.ref a = .ref a' ∧ OexC K C ∧ PySem.W.findIn K (.ref C) f = some none ∧
  ((H a' = some (exo a' C none) ∧ ∀ dx, H dx = none → dx ≠ a' → R (upd (upd H dx (exd dx [(f, y)])) a' (exo a' C (some dx)))) ∨
    ∃ (dx : Addr) (fs : List (Str × V)), H a' = some (exo a' C (some dx)) ∧ H dx = some (exd dx fs) ∧ fs.length ≤ 900 ∧ R (upd H dx (exd dx ((f, y) :: fs)))) := ⟨a, C, rfl, T, nf, .inl ⟨h, q⟩⟩
/-- what an __init__ with one field keeps -/
def XIni1 (C : Addr) (f : Str) (a : Addr) (v : V) (H : Hp) (Q : VK) : Prop := H a = some (exo a C none) ∧ ∀ d, H d = none → d ≠ a → Q .non (upd (upd H d (exd d [(f, v)])) a (exo a C (some d)))
/-- C(v) is raised -/
theorem L_mkO1 {sp : Sp} {E : XK} {v : V} (hs : ∀ a H Q E, XIni1 C f a v H Q → sp [.ref a, v] H Q E) (q : ∀ d, H d = none → E (.ref C) (some d) (upd H d (.xd [(f, v)]))) : [v].length ≤ 1000 ∧ ∀ a, H a = none → sp (.ref a :: ([v] ++ [])) (upd H a (exo a C none))
  (fun v H2 => v = .non ∧ ∃ (d : Addr) (fs : List (Str × V)), H2 a = some (exo a C (some d)) ∧ H2 d = some (exd d fs) ∧ H d = none ∧ E (.ref C) (some d) (upd (del H2 a) d (.xd fs))) (fun _ _ _ => False) := by
  refine ⟨by rw [List.length_singleton]; decide, fun a na => hs a _ _ _ ⟨upd_same, fun d nd ne => ⟨rfl, d, [(f, v)], upd_same, ?_, ?_, ?_⟩⟩⟩
  · rw [upd_ne ne, upd_same]
  · rw [upd_ne ne] at nd
    exact nd
  · rw [upd_ne ne] at nd
    have z : upd (del (upd (upd (upd H a (exo a C none)) d (exd d [(f, v)])) a (exo a C (some d))) a) d (.xd [(f, v)]) = upd H d (.xd [(f, v)]) := by
      funext b
      by_cases hb : b = d
      · rw [hb, upd_same, upd_same]
      · rw [upd_ne hb, upd_ne hb]
        by_cases ha : b = a
        · rw [ha, del_same, na]
        · rw [del_ne ha, upd_ne ha, upd_ne hb, upd_ne ha]
    rw [z]
    exact q d nd
theorem L_mkO {sp : Sp} {dvs : List V} {Q : XK} (h : ta σ H fun vs H1 => vs.length ≤ 1000 ∧ ∀ a, H1 a = none → sp (.ref a :: (vs ++ dvs)) (upd H1 a (exo a C none))
  (fun v H2 => v = .non ∧ ∃ (d : Addr) (fs : List (Str × V)), H2 a = some (exo a C (some d)) ∧ H2 d = some (exd d fs) ∧ H1 d = none ∧ Q (.ref C) (some d) (upd (del H2 a) d (.xd fs))) (fun _ _ _ => False)) : tMkO C sp dvs ta σ H Q := h
end
/-- isinstance(e, c) in e's own suite, whatever its dict -/
def rIsS (K : PySem.W.Frag) (a : Addr) (cls : Value) (d : Option Addr) : List V → Hp → VK → Prop := fun xs H Q => ∃ (D : Addr) (c : V) (u : Value) (b : Bool), xs = [.ref a, c] ∧ cls = .ref D ∧ (∀ dd, d = some dd → ∃ fs, H dd = some (.xd fs)) ∧ L2.ExcC K D ∧ ClsV c u ∧ PySem.W.kitOne K (.ref D) u = some b ∧ Q (.bl b) H
theorem call_isS {X : Cx} {a : Addr} {cls : Value} {d : Option Addr} {oe : Obj} {pn : List (Addr × Obj)} (hz : Zc cls d oe) (hf : ∃ vs, oe.data = .fields vs) : CallR (X.suite a ((a, oe) :: pn)) (.builtin "isinstance") (rIsS X.K a cls d) := by
  intro pins s σ H xs us Q I r h
  obtain ⟨D, c, u, b, rfl, rfl, hd, C, k, e, q⟩ := h
  obtain ⟨u1, u2, rfl, r1, r2⟩ := vals2 r
  cases r1
  cases k.eq r2
  obtain ⟨there, _⟩ := I.pin (a, oe) (List.mem_append_left _ List.mem_cons_self)
  obtain ⟨vs, data⟩ := hf
  have J : ∃ od, PySem.W.InstAt s.heap a oe D od := by
    have nc : PySem.W.notCls oe = true := by unfold PySem.W.notCls; rw [data] <;> rfl
    cases d with
    | none => exact ⟨none, there, hz.1, nc, by rw [hz.2]; exact True.intro⟩
    | some dd =>
      obtain ⟨fs, hdd⟩ := hd dd rfl
      obtain ⟨mA, ⟨o, es, ep, ho, _⟩, _⟩ := (show ObjOk X.prog X.w H s.heap dd (.xd fs) from I.hok dd _ hdd)
      exact ⟨some o, there, hz.1, nc, by rw [hz.2]; exact ho⟩
  obtain ⟨od, J⟩ := J
  obtain ⟨cd, hcd, _⟩ := PySem.W.any_some C.hd
  exact PySem.W.kia_one (PySem.W.kitx_exc (show (PySem.W.clsIn _ D).isSome = true by rw [hcd]; rfl) C.hg C.hk C.hs C.ha C.hn C.ht C.hm) I.kIn J e (fun z => nomatch z) fun tk => ⟨.bl b, H, I.tok tk, rfl, q⟩
theorem L_isS {K : PySem.W.Frag} {H : Hp} {Q : VK} {a D : Addr} {d : Option Addr} {c : V} {u : Value} {b : Bool} (hd : ∀ dd, d = some dd → ∃ fs, H dd = some (.xd fs)) (C : L2.ExcC K D) (k : ClsV c u) (e : PySem.W.kitOne K (.ref D) u = some b) (q : Q (.bl b) H) : rIsS K a (.ref D) d [.ref a, c] H Q := ⟨D, c, u, b, rfl, rfl, hd, C, k, e, q⟩
/-- the same, of some classes -/
def rIsST (K : PySem.W.Frag) (a : Addr) (cls : Value) (d : Option Addr) : List V → Hp → VK → Prop := fun xs H Q => ∃ (D tp : Addr) (cs : List V) (ws : List Value) (b : Bool), xs = [.ref a, .ref tp] ∧ cls = .ref D ∧ (∀ dd, d = some dd → ∃ fs, H dd = some (.xd fs)) ∧ L2.ExcC K D ∧ H tp = some (.tup cs) ∧ Paired ClsV cs ws ∧ PySem.W.kitAny K (.ref D) ws = some b ∧ Q (.bl b) H
theorem call_isST {X : Cx} {a : Addr} {cls : Value} {d : Option Addr} {oe : Obj} {pn : List (Addr × Obj)} (hz : Zc cls d oe) (hf : ∃ vs, oe.data = .fields vs) : CallR (X.suite a ((a, oe) :: pn)) (.builtin "isinstance") (rIsST X.K a cls d) := by
  intro pins s σ H xs us Q I r h
  obtain ⟨D, tp, cs, ws, b, rfl, rfl, hd, C, hT, k, e, q⟩ := h
  obtain ⟨u1, u2, rfl, r1, r2⟩ := vals2 r
  cases r1
  cases (show u2 = Value.ref tp from r2)
  obtain ⟨there, _⟩ := I.pin (a, oe) (List.mem_append_left _ List.mem_cons_self)
  obtain ⟨vs, data⟩ := hf
  have J : ∃ od, PySem.W.InstAt s.heap a oe D od := by
    have nc : PySem.W.notCls oe = true := by unfold PySem.W.notCls; rw [data] <;> rfl
    cases d with
    | none => exact ⟨none, there, hz.1, nc, by rw [hz.2]; exact True.intro⟩
    | some dd =>
      obtain ⟨fs, hdd⟩ := hd dd rfl
      obtain ⟨mA, ⟨o, es, ep, ho, _⟩, _⟩ := (show ObjOk X.prog X.w H s.heap dd (.xd fs) from I.hok dd _ hdd)
      exact ⟨some o, there, hz.1, nc, by rw [hz.2]; exact ho⟩
  obtain ⟨od, J⟩ := J
  obtain ⟨_, its, rv, o, h1, h2, n, h3⟩ := (show ObjOk X.prog X.w H s.heap tp (.tup cs) from I.hok tp _ hT)
  have e3 := ClsV.all k rv
  subst e3
  obtain ⟨oc, od2, dt, sl⟩ := o
  simp only at h2 h3
  subst h2 h3
  obtain ⟨cd, hcd, _⟩ := PySem.W.any_some C.hd
  exact PySem.W.kia_tup (PySem.W.kitx_exc (show (PySem.W.clsIn _ D).isSome = true by rw [hcd]; rfl) C.hg C.hk C.hs C.ha C.hn C.ht C.hm) I.kIn J h1 e (fun z => nomatch z) fun tk => ⟨.bl b, H, I.tok tk, rfl, q⟩
theorem L_isST {K : PySem.W.Frag} {H : Hp} {Q : VK} {a D tp : Addr} {d : Option Addr} {cs : List V} {ws : List Value} {b : Bool} (hd : ∀ dd, d = some dd → ∃ fs, H dd = some (.xd fs)) (C : L2.ExcC K D) (hT : H tp = some (.tup cs)) (k : Paired ClsV cs ws) (e : PySem.W.kitAny K (.ref D) ws = some b) (q : Q (.bl b) H) : rIsST K a (.ref D) d [.ref a, .ref tp] H Q := ⟨D, tp, cs, ws, b, rfl, rfl, hd, C, hT, k, e, q⟩
/-- one of two derivations -/
def tOrE (t1 t2 : TE) : TE := fun σ H Q => t1 σ H Q ∨ t2 σ H Q
theorem PE.or {X : Cx} {e : Expr} {t1 t2 : TE} (h1 : PE X e t1) (h2 : PE X e t2) : PE X e (tOrE t1 t2) :=
  ⟨fun pins s σ H Q I h => h.elim (fun h => h1.run pins s σ H Q I h) (fun h => h2.run pins s σ H Q I h)⟩
/-- what isinstance asks of an instance's own class; of the class it is asked of -/
structure InsC (K : PySem.W.Frag) (C : Addr) : Prop where
  ha : PySem.W.findIn K (.ref C) "__class__" = some (some (.builtin "object.__class__"))
  hn : PySem.W.specialIn K (.builtin "object.__class__") "__get__" = some (some (.builtin "getset_descriptor.__get__"))
  ht : PySem.W.takesIn K (.builtin "object.__class__") = some true
  hm : PySem.W.mroIn K C (.type "object") = some true
structure ClsT (K : PySem.W.Frag) (C : Addr) : Prop where
  i : PySem.W.isClsIn K C = true
  t : PySem.W.typeIn K (.ref C) = some (.type "type")
theorem tyx_I {K : PySem.W.Frag} {H : Hp} {a C dx : Addr} {fs : List (Str × V)} (h : H a = some (.ins C dx fs)) (cl : Cls K C) (c : InsC K C) : TyX K H (.ref a) (.ref C) := .base (.ins h cl c.ha c.hn c.ht c.hm)
theorem kit_own {K : PySem.W.Frag} {C D : Addr} {b : Bool} (hD : PySem.W.subIn K (.ref D) (.ref D) = some true) (k : ClsT K C) (h : PySem.W.subIn K (.ref D) (.ref C) = some b) : PySem.W.kitOne K (.ref D) (.ref C) = some b := by
  unfold PySem.W.kitOne
  by_cases e : D = C
  · subst e
    rw [hD] at h
    cases h
    rw [if_pos (by simp)]
  · rw [if_neg (by simpa using e)]
    have h2 : (PySem.W.clsIn K C).isSome = true := k.i
    show (if ((PySem.W.clsIn K C).isSome && PySem.W.typeIn K (.ref C) == some (.type "type")) = true then PySem.W.subIn K (.ref D) (.ref C) else none) = some b
    rw [if_pos (by rw [h2, k.t]; rfl)]
    exact h
theorem kit_not {K : PySem.W.Frag} {T : String} {C : Addr} {b : Bool} (k : ClsT K C) (h : PySem.W.subIn K (.type T) (.ref C) = some b) : PySem.W.kitOne K (.type T) (.ref C) = some b := by
  unfold PySem.W.kitOne
  rw [if_neg (by simp)]
  have h2 : (PySem.W.clsIn K C).isSome = true := k.i
  show (if ((PySem.W.clsIn K C).isSome && PySem.W.typeIn K (.ref C) == some (.type "type")) = true then PySem.W.subIn K (.type T) (.ref C) else none) = some b
  rw [if_pos (by rw [h2, k.t]; rfl)]
  exact h
theorem L_orl {t1 t2 : TE} {σ : L2.St} {H : Hp} {Q : VK} (h : t1 σ H Q) : tOrE t1 t2 σ H Q := .inl h
theorem L_orr {t1 t2 : TE} {σ : L2.St} {H : Hp} {Q : VK} (h : t2 σ H Q) : tOrE t1 t2 σ H Q := .inr h
theorem L_xf {a C : Addr} {cls : Value} {d : Option Addr} {f : Str} {te : TE} {σ : L2.St} {H : Hp} {Q : VK} (h : te σ H fun x H1 => x = .ref a ∧ cls = .ref C ∧ ∃ (dd : Addr) (fs : List (Str × V)) (v : V), d = some dd ∧ H1 dd = some (.xd fs) ∧ fs.lookup f = some v ∧ Q v H1) : tXf a cls d C f te σ H Q := h
theorem ExcC.xf {K : PySem.W.Frag} {C : Addr} (c : L2.ExcC K C) : XfC K C := ⟨c.hg, c.hk, c.hs, c.hd⟩
theorem L_isC {K : PySem.W.Frag} {H : Hp} {Q : VK} {x : V} {T : Value} {C : Addr} {b : Bool} (ty : TyX K H x T) (e : PySem.W.kitOne K T (.ref C) = some b) (q : Q (.bl b) H) : rIsi K [x, .ref C] H Q := ⟨x, .ref C, T, .ref C, b, rfl, .own C, ty, e, q⟩
theorem L_str1 {H : Hp} {Q : VK} {t : Int} (h : 0 ≤ t ∧ t ≤ 1000) (q : Q (.str (toString t)) H) : aStr1 [.int t] H Q := ⟨t, rfl, by have := Nat.log2_le_self t.natAbs; omega, q⟩
theorem str_short : ∀ t : Int, 0 ≤ t → t ≤ 100 → (↑(toString t) : Str).length ≤ 3 := by
  have h : ∀ n ∈ List.range 101, (↑(toString ((n : Nat) : Int)) : Str).length ≤ 3 := by decide +kernel
  intro t h0 h1
  have := h t.toNat (List.mem_range.mpr (by omega))
  rwa [Int.toNat_of_nonneg h0] at this

/-! ### exceptions held as values -/
/-- at a: an exception of the own class D, not raised; fs: its own fields -/
def XVal (H : Hp) (a D : Addr) (fs : List (Str × V)) : Prop := (fs = [] ∧ H a = some (ExI (.ref D) none a)) ∨ ∃ d, H a = some (exo a D (some d)) ∧ H d = some (exd d fs)
theorem XVal.same {H H' : Hp} {a D : Addr} {fs : List (Str × V)} (h : XVal H a D fs) (s : Same H H') : XVal H' a D fs := by
  rcases h with ⟨h1, h2⟩ | ⟨d, h1, h2⟩
  · exact .inl ⟨h1, s _ _ h2⟩
  · exact .inr ⟨d, s _ _ h1, s _ _ h2⟩
theorem xval_inst {X : Cx} {pins : List (Addr × Obj)} {σ : L2.St} {H : Hp} {s : Shared} {a D : Addr} {fs : List (Str × V)} (I : Inv X pins σ H s) (h : XVal H a D fs) : ∃ oe od, PySem.W.InstAt s.heap a oe D od := by
  rcases h with ⟨_, h⟩ | ⟨d, h1, h2⟩
  · obtain ⟨oe, J⟩ := exI_at I h
    exact ⟨oe, none, J⟩
  · obtain ⟨t1, ho⟩ := exo_at I.hok h1
    obtain ⟨mA, ⟨o, _, _, hd, _⟩, _⟩ := exd_at I.hok h2
    exact ⟨_, some o, ho, rfl, rfl, hd⟩
def rIsV (K : PySem.W.Frag) : List V → Hp → VK → Prop := fun xs H Q => ∃ (a D : Addr) (fs : List (Str × V)) (c : V) (u : Value) (b : Bool), xs = [.ref a, c] ∧ XVal H a D fs ∧ L2.ExcC K D ∧ ClsV c u ∧ PySem.W.kitOne K (.ref D) u = some b ∧ Q (.bl b) H
theorem call_isV {X : Cx} : CallR X (.builtin "isinstance") (rIsV X.K) := by
  intro pins s σ H xs us Q I r h
  obtain ⟨a, D, fs, c, u, b, rfl, hx, C, k, e, q⟩ := h
  obtain ⟨u1, u2, rfl, r1, r2⟩ := vals2 r
  cases r1
  cases k.eq r2
  obtain ⟨oe, od, J⟩ := xval_inst I hx
  obtain ⟨cd, hcd, _⟩ := PySem.W.any_some C.hd
  exact PySem.W.kia_one (PySem.W.kitx_exc (show (PySem.W.clsIn _ D).isSome = true by rw [hcd]; rfl) C.hg C.hk C.hs C.ha C.hn C.ht C.hm) I.kIn J e (fun z => nomatch z) fun tk => ⟨.bl b, H, I.tok tk, rfl, q⟩
theorem L_isV {K : PySem.W.Frag} {H : Hp} {Q : VK} {a D : Addr} {fs : List (Str × V)} {c : V} {u : Value} {b : Bool} (h : XVal H a D fs) (C : L2.ExcC K D) (k : ClsV c u) (e : PySem.W.kitOne K (.ref D) u = some b) (q : Q (.bl b) H) : rIsV K [.ref a, c] H Q := ⟨a, D, fs, c, u, b, rfl, h, C, k, e, q⟩
/-- e.f, e such a value -/
def tXv (K : PySem.W.Frag) (f : Str) (te : TE) : TE := fun σ H Q => te σ H fun x H1 => ∃ (a D d : Addr) (fs : List (Str × V)) (v : V), x = .ref a ∧ L2.ExcC K D ∧ PySem.W.findIn K (.ref D) f = some none ∧ H1 a = some (exo a D (some d)) ∧ H1 d = some (exd d fs) ∧ fs.lookup f = some v ∧ Q v H1
theorem L_xv {K : PySem.W.Frag} {f : Str} {te : TE} {σ : L2.St} {H : Hp} {Q : VK} (h : te σ H fun x H1 => ∃ (a D d : Addr) (fs : List (Str × V)) (v : V), x = .ref a ∧ L2.ExcC K D ∧ PySem.W.findIn K (.ref D) f = some none ∧ H1 a = some (exo a D (some d)) ∧ H1 d = some (exd d fs) ∧ fs.lookup f = some v ∧ Q v H1) : tXv K f te σ H Q := h
theorem pe_xv {X : Cx} {e : Expr} {te : TE} {f : Str} {pos : Pos} (he : PE X e te) (hb : attributeBase e f X.env (eval e X.env) = eval e X.env := by rfl) : PE X (.Attribute e f pos) (tXv X.K f te) := by
  constructor
  intro pins s σ H Q I h
  refine attr_of hb (thn (he.run pins s σ H _ I h) fun u s1 ⟨x, H1, I1, rx, a, D, d, fs, v, ex, C, nf, h1, h2, l, q⟩ => ?_)
  subst ex
  cases rx
  obtain ⟨t1, ho⟩ := exo_at I1.hok h1
  obtain ⟨mA, hns, rel⟩ := exd_at I1.hok h2
  obtain ⟨od, hod, hlk⟩ := lookIn_ns hns
  obtain ⟨w, hw, rw'⟩ := RelO.some_of (v := v) (o := mA f) (by rw [← l]; exact rel f)
  have J : PySem.W.InstAt s1.heap a _ D (some od) := ⟨ho, rfl, rfl, hod⟩
  exact HandSPX.exc_get I1.kIn J C.hg C.hk C.hs (PySem.W.findObj_own C.hd nf rfl (by rw [hlk, hw])) (handed_of rw') ⟨v, H1, I1.tok _, rw', q⟩
/-- C(), C without an own __init__ -/
def tMk0V (C : Addr) : TE := fun _ H Q => ∀ a, H a = none → Q (.ref a) (upd H a (ExI (.ref C) none a))
theorem pe_mk0V {X : Cx} {C : Addr} {x : Str} {p pos : Pos} (c : ExcAt X.K C) (gC : X.mg x = some (.ref C)) (hg : Gl X x) (hdb : (x == ("__debug__" : Str)) = false := by decide) : PE X (.Call (.Name x p) [] [] pos) (tMk0V C) := by
  constructor
  intro pins s σ H Q I h
  refine wpAny_Call_Name_kw (ld_glob I hg gC ?_ hdb)
  refine PySem.W.callWith_K0 I.kIn c.k ?_
  obtain ⟨bm, N, nm, qn, bs, hdct, sn, sub, ab, col, dd, k0, k1, k2, k3, k5, mN, hC, hN, hni, T⟩ := exc_obj I.kIn c.x
  refine wpAny_call_exc_subT PySem.F.excBase_ValueError T hC hN hni (fun h' a hm => ?_) (Nat.zero_le _)
  have na : H a = none := I.hok.gone hm.new
  obtain ⟨t, at_, _, _⟩ := hm.there
  refine ⟨.ref a, _, I.laidN (o := ExI (.ref C) none a) hm.keeps hm.new na ⟨⟨_, _, at_, ⟨rfl, rfl⟩, rfl⟩, ⟨_, at_⟩, fun _ _ ⟨o1, v1, z, r⟩ k => ⟨o1, v1, k o1 z, r⟩⟩, rfl, h a na⟩
/-- C(..), C with an own __init__ -/
def tMkV (C : Addr) (sp : Sp) (ta : TA) : TE := fun σ H Q => ta σ H fun vs H1 => vs.length ≤ 1000 ∧ ∀ a, H1 a = none → sp (.ref a :: vs) (upd H1 a (exo a C none)) (fun v H2 => v = .non ∧ Q (.ref a) H2) E0
theorem L_mkV {C : Addr} {sp : Sp} {ta : TA} {σ : L2.St} {H : Hp} {Q : VK} (h : ta σ H fun vs H1 => vs.length ≤ 1000 ∧ ∀ a, H1 a = none → sp (.ref a :: vs) (upd H1 a (exo a C none)) (fun v H2 => v = .non ∧ Q (.ref a) H2) E0) : tMkV C sp ta σ H Q := h
theorem L_mk0V {C : Addr} {σ : L2.St} {H : Hp} {Q : VK} (h : ∀ a, H a = none → Q (.ref a) (upd H a (ExI (.ref C) none a))) : tMk0V C σ H Q := h
theorem pe_mkV {X : Cx} {k j : Nat} {C : Addr} {x : Str} {sp : Sp} {p pos : Pos} {e : Expr} {es : List Expr} {ta : TA} (c : XMak X.prog X.w X.K X.mg X.base k x C sp) (T : OexC X.K C) (hr : Room j X.A) (hk : k + 1 ≤ j) (hg : Gl X x) (ha : PA X (e :: es) ta)
    (hdb : (x == ("__debug__" : Str)) = false := by decide) (he : starEach (e :: es) X.env = (false, eval e X.env) :: starEach es X.env := by rfl) (hpl : (backTo pos (starEach es X.env)).any (·.1) = false := by rfl) :
    PE X (.Call (.Name x p) (e :: es) [] pos) (tMkV C sp ta) := by
  obtain ⟨f, fd, ps, F, iC, tI, hm, hb⟩ := c.ex
  have room := hr.mono hk
  obtain ⟨nm, q, N, bs, bm, sn, sub, ab, col, dd, k0, k1, k2, k3, k5, hC, hbm⟩ := T.cls
  constructor
  intro pins s σ H Q I h
  refine wpAny_Call_Name_kw (ld_glob I hg hm ?_ hdb)
  refine PySem.W.callWith_K (h₀ := X.base) I.ok.mod.kin T.kC (thn (ha.run pos pins s σ H _ I h) fun us s1 ⟨vs, H1, I1, r1, hz, q1⟩ => ⟨I1.kIn, ?_⟩) he hpl
  show wpAny _ _ (call (.ref C) us) _ _ _
  have r1 : Vals vs us := r1
  have few : us.length ≤ sizeLine := by
    have z1 := Paired.length r1
    have z2 := sizeLine_eq
    omega
  obtain ⟨hp, g, dr, tk, os⟩ := s1
  -- the arguments' tuple and the exception's own place
  have old : ∀ b o, hp.get? b = some o → ((hp.push (PySem.W.kdv_tup us)).push (PySem.HandSPX.excO C hp.objs.size)).get? b = some o := fun b o z => Heap.get?_push_of_some _ (Heap.get?_push_of_some _ z)
  have here : ((hp.push (PySem.W.kdv_tup us)).push (PySem.HandSPX.excO C hp.objs.size)).get? (hp.objs.size + 1) = some (PySem.HandSPX.excO C hp.objs.size) := by heap_get
  have free : H1 (hp.objs.size + 1) = none := I1.hok.fresh (Nat.le_succ _)
  have J : Inv X pins σ (upd H1 (hp.objs.size + 1) (exo (hp.objs.size + 1) C none)) ⟨(hp.push (PySem.W.kdv_tup us)).push (PySem.HandSPX.excO C hp.objs.size), g, dr, tk, os⟩ :=
    I1.laid (t' := tk) old (Nat.le_succ _) (exo_ok here)
  have asked := q1 _ free
  have args : Vals (V.ref (hp.objs.size + 1) :: vs) (Value.ref (hp.objs.size + 1) :: us) := .cons rfl r1
  have many : (Value.ref (hp.objs.size + 1) :: us).length = ps.length := args.length.symm.trans (F.len _ _ _ _ asked)
  have bound := hb _ (Value.ref (hp.objs.size + 1) :: us) J.kIn (by rw [List.append_nil]; exact many)
  rw [List.append_nil] at bound
  refine wpAny_call (PySem.HandSPX.call_own PySem.F.excBase_ValueError (fun Y => PySem.HandSPX.refsVE_contains Y bm hbm) (I1.kIn _ _ hC) (PySem.W.looks_findIn I1.kIn iC) (fun self => PySem.W.bind_fn I1.kIn self tI) few ?_)
  refine codeAny_mono (F.run _ X.stack _ _ ⟨_, []⟩ _ _ _ E0 (room.make C us []) (J.env0.make C us []) bound args asked) fun out s' ho => ?_
  match out, ho with
  | .error e, ho => exact pass0 pins σ _ _ e s' J ho
  | .ok (.ret u), ho =>
    obtain ⟨v, H', J', rel, hv, rest⟩ := J.after ho
    cases hv
    exact ⟨rel, .ref (hp.objs.size + 1), H', J', rfl, rest⟩
  | .ok .next, ho => exact ho.elim
  | .ok .brk, ho => exact ho.elim
  | .ok .cont, ho => exact ho.elim
theorem L_dsetd {td ty tx : TE} {σ : L2.St} {H : Hp} {Q : VK} (h : td σ H fun x H1 => ∃ a, x = .ref a ∧ IsD H1 a ∧ ty σ H1 fun y H2 => tx σ H2 fun z H3 => ∃ (kvs : List (Key × V)) (k : Key), H3 a = some (.dK kvs) ∧ y = kV k ∧ kvs.length < sizeLine ∧
  (∀ v, valV kvs k = some v → Q v H3) ∧ (valV kvs k = none → Q z (upd H3 a (.dK (putK kvs k z))))) : tDSetd td ty tx σ H Q := h
/-! ### the tuples of a heap; fields changed by += -/
noncomputable def tp (H : Hp) : Hp := rs (fun b => ∃ xs, H b = some (.tup xs)) H
theorem tp_same {H H' : Hp} (h : ∀ b xs, H b = some (.tup xs) → H' b = some (.tup xs)) : Same (tp H) (tp H') := rs_same fun b o ⟨xs, e⟩ z => ⟨⟨xs, h b xs e⟩, by rw [e] at z; cases z; exact h b xs e⟩
theorem tp_upd {H : Hp} {a : Addr} {o : HO} (h : ∀ xs, H a ≠ some (.tup xs)) : Same (tp H) (tp (upd H a o)) := tp_same fun b xs e => by rw [upd_ne fun z => h xs (by rw [← z]; exact e)]; exact e
theorem tp_at {H : Hp} {b : Addr} {xs : List V} (h : H b = some (.tup xs)) : tp H b = some (.tup xs) := rs_at ⟨xs, h⟩ h
theorem tp_of {H H' : Hp} (e : Same H H') : Same (tp H) (tp H') := tp_same fun b xs z => e _ _ z
theorem L_fldaug {K : PySem.W.Frag} {σ : L2.St} {H : Hp} {N B C' : L2.St → Hp → Prop} {R : VK} {f : Str} {ta tv : TE} {rd : V → V → Hp → VK → Prop} (h : ta σ H fun x H1 => ∃ a C dx fs v, x = .ref a ∧ H1 a = some (.ins C dx fs) ∧ Cls K C ∧ NoAttr K C f ∧ fs.lookup f = some v ∧
  tv σ H1 fun y H2 => rd v y H2 fun z H3 => ∃ dx' fs', H3 a = some (.ins C dx' fs') ∧ fs'.length < 1000 ∧ N σ (upd H3 a (.ins C dx' (putF f z fs')))) : sFldAug K ta tv rd f ⟨N, R, B, C'⟩ σ H := h
theorem L_rAdd {H : Hp} {Q : VK} {i j : Int} (h : Q (.int (i + j)) H) : rAdd (.int i) (.int j) H Q := ⟨i, j, rfl, rfl, h⟩
theorem fm_flt {α β : Type} (c : α → Bool) (g : α → β) : ∀ l : List α, (List.range l.length).filterMap (fun i => (l[i]?).bind fun x => if c x = true then some (g x) else none) = (l.filter c).map g
  | [] => rfl
  | a :: l => by
    have ih := fm_flt c g l
    rw [List.length_cons, List.range_succ_eq_map]
    simp only [List.filterMap_cons, List.getElem?_cons_zero, Option.bind_some, List.filterMap_map, Function.comp_def, List.getElem?_cons_succ]
    rw [ih]
    cases h : c a
    · rw [List.filter_cons_of_neg (by simp [h])]; simp
    · rw [List.filter_cons_of_pos h]; simp
/-- t * n, t a text -/
def rRepS : R2 := fun x y H Q => ∃ (z : Str) (k : Int), x = .str z ∧ y = .int k ∧ MulOk z k ∧ Q (.str (Txt.mul z k)) H
theorem op_repS {X : Cx} : OpR X (binaryOp .Mult) rRepS := by
  intro pins s σ H x y v u Q I rx ry h
  obtain ⟨z, k, rfl, rfl, hz, q⟩ := h
  obtain ⟨t, rfl⟩ := rx
  obtain ⟨t', rfl⟩ := ry
  exact SB.mul hz fun t' tk => ⟨.str (Txt.mul z k), H, I.tok _, ⟨_, rfl⟩, q⟩
theorem L_repS0 {H : Hp} {Q : VK} {z : Str} {k : Int} (h : k = 0) (q : Q (.str Str.empty) H) : rRepS (.str z) (.int k) H Q := by
  subst h
  exact ⟨z, 0, rfl, rfl, ⟨by decide, fun h => absurd (by decide) h, fun h => absurd (by decide) h⟩, q⟩
theorem sqT_upd {K : PySem.W.Frag} {H : Hp} {p a : Addr} {us xs : List V} {o : HO} (hp : H p = some (.lst us)) (h : SqT K H a xs) : SqT K (upd H p o) a xs := by
  rcases h with (h | ⟨o', h⟩) | h
  · exact .inl (.inl (by rw [upd_ne fun z => by rw [z, hp] at h; cases h]; exact h))
  · exact .inl (.inr ⟨o', by rw [upd_ne fun z => by rw [z, hp] at h; cases h]; exact h⟩)
  · exact .inr h
theorem rep_map {α : Type} (f : α → V) (xs : List α) (n : Nat) : (List.replicate n (xs.map f)).flatten = ((List.replicate n xs).flatten).map f := by
  induction n with
  | zero => rfl
  | succ n ih => rw [List.replicate_succ, List.flatten_cons, List.replicate_succ, List.flatten_cons, List.map_append, ih]
theorem cutG_both {α : Type} (xs : List α) {a b : Nat} (h1 : a ≤ b) (h2 : b ≤ xs.length) : cutG xs (some (a : Int)) (some (b : Int)) = (xs.drop a).take (b - a) := by
  unfold cutG
  rw [HT.sIx_nat, HT.sIx_nat, Nat.min_eq_left h2, Nat.min_eq_left (Nat.le_trans h1 h2)]
/-! ### looks at a question's form, ahead of steps that show something -/
section
variable {K : PySem.W.Frag} {σ : L2.St} {H : Hp} {Q : VK} {x y v : V}
theorem G_mul (h : aMul x y H Q) : aMul x y H Q := h
theorem G_mod {g : Int → Int → V} (h : rI (fun _ j => 0 < j) g x y H Q) : rI (fun _ j => 0 < j) g x y H Q := h
theorem G_div {g : Int → Int → V} (h : rI CDivW g x y H Q) : rI CDivW g x y H Q := h
theorem G_pow {g : Int → Int → V} (h : rI CPow g x y H Q) : rI CPow g x y H Q := h
theorem G_ix {p : Addr} {i : Int} (h : rIx K (.ref p) (.int i) H Q) : rIx K (.ref p) (.int i) H Q := h
theorem G_len {p : Addr} (h : aLen K [.ref p] H Q) : aLen K [.ref p] H Q := h
theorem G_meth {a : Addr} {C : Addr} {m : Str} {R : Addr → Addr → List (Str × V) → Prop} (h : ∃ a' dx fs, V.ref a = V.ref a' ∧ H a' = some (.ins C dx fs) ∧ fs.lookup m = none ∧ R a' dx fs) : ∃ a' dx fs, V.ref a = V.ref a' ∧ H a' = some (.ins C dx fs) ∧ fs.lookup m = none ∧ R a' dx fs := h
theorem G_isi {i : Int} {n : String} (h : rIsi K [.int i, .ty n] H Q) : rIsi K [.int i, .ty n] H Q := h
theorem G_d {p : Prop} [Decidable p] {A B : Prop} (h : if decide p = true then A else B) : if decide p = true then A else B := h
theorem G_nd {p : Prop} [Decidable p] {A B : Prop} (h : if (!decide p) = true then A else B) : if (!decide p) = true then A else B := h
theorem G_gn {i : Nat} {N : L2.St → Hp → Prop} (h : gName i v σ H N) : gName i v σ H N := h
end
theorem inV_strs (n : Str) : ∀ ns : List Str, inV (.str n) (ns.map V.str) = decide (n ∈ ns)
  | [] => by simp [inV]
  | k :: ns => by
    have ih := inV_strs n ns
    unfold inV at ih ⊢
    rw [List.map_cons, List.any_cons, ih]
    by_cases e : n = k
    · subst e
      simp [eqV]
    · have e' : ¬ k = n := fun z => e z.symm
      simp [eqV, e, e']
theorem flat_strs : ∀ ns : List Str, (ns.map V.str).all flatV = true
  | [] => rfl
  | _ :: ns => by rw [List.map_cons, List.all_cons, flat_strs ns]; rfl
section
variable {K : PySem.W.Frag} {H : Hp} {Q : VK} {p : Addr} {z : Str} {ns : List Str}
theorem L_notInSs (h : SqL K H p (ns.map V.str)) (q : Q (.bl (!decide (z ∈ ns))) H) : aNotIn K (.str z) (.ref p) H Q := .inr ⟨p, _, rfl, .inl h, rfl, flat_strs _, by rw [if_pos rfl, inV_strs]; exact q⟩
theorem L_inSs (h : SqL K H p (ns.map V.str)) (q : Q (.bl (decide (z ∈ ns))) H) : aIn K (.str z) (.ref p) H Q := .inr ⟨p, _, rfl, .inl h, rfl, flat_strs _, by rw [if_neg (by decide), inV_strs]; exact q⟩
end
/-! ### dicts: in, not in, d[k] = v -/
section
variable {K : PySem.W.Frag} {σ : L2.St} {H : Hp} {Q : VK} {ty td tv : TE} {y v : V} {a : Addr} {k : Key} {kvs : List (Key × V)}
theorem L_din (h : ty σ H fun y H1 => td σ H1 fun x H2 => ∃ a o, x = .ref a ∧ DGet H2 a y o ∧ Q (.bl o.isSome) H2) : tDIn ty td σ H Q := h
theorem L_dnin (h : ty σ H fun y H1 => td σ H1 fun x H2 => ∃ a o, x = .ref a ∧ DGet H2 a y o ∧ Q (.bl (!o.isSome)) H2) : tDNotIn ty td σ H Q := h
theorem L_dget (h : td σ H fun x H1 => ty σ H1 fun y H2 => ∃ a v, x = .ref a ∧ DGet H2 a y (some v) ∧ Q v H2) : tDGet td ty σ H Q := h
theorem L_dinv {R : Option V → Prop} (e : y = kV k) (h : H a = some (.dK kvs)) (q : R (valV kvs k)) : ∃ a' o, V.ref a = .ref a' ∧ DGet H a' y o ∧ R o := ⟨a, _, rfl, by rw [e]; exact DGet.k h, q⟩
theorem L_dgetv {R : V → Prop} (e : y = kV k) (h : H a = some (.dK kvs)) (hv : valV kvs k = some v) (q : R v) : ∃ a' v, V.ref a = .ref a' ∧ DGet H a' y (some v) ∧ R v := ⟨a, v, rfl, by rw [e, ← hv]; exact DGet.k h, q⟩
theorem L_dput {N B C : L2.St → Hp → Prop} {R : VK} (h : tv σ H fun v H1 => td σ H1 fun x H2 => ty σ H2 fun y H3 => ∃ a H4, x = .ref a ∧ DPut H3 a y v H4 ∧ N σ H4) : sDPut td ty tv ⟨N, R, B, C⟩ σ H := h
theorem L_dputv {R : Hp → Prop} (e : y = kV k) (h : H a = some (.dK kvs)) (hl : kvs.length < 1000000) (q : R (upd H a (.dK (putK kvs k v)))) : ∃ a' H4, V.ref a = .ref a' ∧ DPut H a' y v H4 ∧ R H4 := ⟨a, _, rfl, by rw [e]; exact DPut.k h (sz_lt hl), q⟩
end
theorem putK_len {kvs : List (Key × V)} {k : Key} {v : V} : (putK kvs k v).length ≤ kvs.length + 1 := by
  unfold putK
  split
  · rw [List.length_map]; omega
  · rw [List.length_append, List.length_singleton]; omega
/-! ### a comprehension of new pairs of ints -/
def T2 (H : Hp) (v : V) (p : Int × Int) : Prop := ∃ t, v = .ref t ∧ H t = some (.tup [.int p.1, .int p.2])
theorem paired_imp2 {α β : Type} {F G : α → β → Prop} (h : ∀ a b, F a b → G a b) : ∀ {xs : List α} {ys : List β}, Paired F xs ys → Paired G xs ys
  | [], _, p => by cases p; exact .nil
  | x :: xs, _, p => by cases p with | cons h1 h2 => exact .cons (h _ _ h1) (paired_imp2 h h2)
theorem paired_app {α β : Type} {F : α → β → Prop} : ∀ {xs us : List α} {ys ws : List β}, Paired F xs ys → Paired F us ws → Paired F (xs ++ us) (ys ++ ws)
  | [], _, _, _, p, q => by cases p; exact q
  | x :: xs, _, _, _, p, q => by cases p with | cons h1 h2 => exact .cons h1 (paired_app h2 q)
section
variable {σ : L2.St} {H : Hp} {g : TG} {tt : TT} {te : TE}
theorem lc_pr {J : It} {n : Nat} {G : Hp → Prop} {Y : Nat → Hp → V → Hp → Prop} (w : L2.Walk J n G Y) {vs : List Nat} {Qd : Addr → Hp → Prop} (f : Nat → Option (Int × Int)) (hn : n ≤ 1000000) (hG : ∀ H', Same H H' → G H')
    (hs : ∀ i x H2 H' (R : V → Hp → Prop) (R' : Hp → Prop), i < n → Same H H2 → Y i H2 x H' → (∀ t p H4, f i = some p → Same H2 H4 → H4 t = some (.tup [.int p.1, .int p.2]) → R (.ref t) H4) → (∀ H3, f i = none → Same H2 H3 → R' H3) →
      g x (wipe σ vs) H' fun σ2 H2 => wipe σ2 vs = wipe σ vs ∧ tt σ2 H2 fun b H3 => if b = true then te σ2 H3 R else R' H3)
    (q : ∀ p H' vs, H p = none → Same H H' → H' p = some (.lst vs) → Paired (T2 H') vs ((List.range n).filterMap f) → Qd p H') :
    ∀ D, H D = none → ∃ W : Nat → Nat → Hp → Prop, (∃ m, W 0 m (upd H D (.lst []))) ∧ ∀ i m H, W i m H →
      (J.stop i H ∧ Qd D H) ∨ (J.go i H ∧ ∃ Nx : Hp → Prop, (∀ H', Nx H' → ∃ m', m' < m ∧ W (i + 1) m' H') ∧ ∀ x H', J.yld i H x H' → g x (wipe σ vs) H' fun σ2 H2 => wipe σ2 vs = wipe σ vs ∧ tt σ2 H2 fun b H3 =>
        if b = true then te σ2 H3 fun y H4 => ∃ acc, H4 D = some (.lst acc) ∧ acc.length < sizeLine ∧ Nx (upd H4 D (.lst (acc ++ [y]))) else Nx H3) := by
  intro D hD
  refine lc_it w (fun i H2 => Same H H2 ∧ ∃ us, H2 D = some (.lst us) ∧ Paired (T2 H2) us ((List.range i).filterMap f)) ⟨same_new hD, [], upd_same, .nil⟩ (fun i H2 _ p => hG H2 p.1) ?_ (fun H2 ⟨p1, us, p2, p3⟩ => q D H2 us hD p1 p2 p3)
  rintro i x H2 H' hi ⟨p1, us, p2, p3⟩ y
  refine hs i x H2 H' _ _ hi p1 y (fun t d H4 e s et => ?_) (fun H3 e s => ?_)
  · have e4 := s _ _ p2
    have ne : ∀ t o, H4 t = some o → (∀ l, o ≠ .lst l) → t ≠ D := fun t o h h' z => by rw [z, e4] at h; injection h with h; exact h' _ h.symm
    refine ⟨us, e4, sz_lt (by have := Paired.length p3; have := fm_len' f i; omega), same_mut (p1.trans s) hD, _, upd_same, ?_⟩
    rw [fm_succ', e]
    have up : ∀ v p, T2 H4 v p → T2 (upd H4 D (.lst (us ++ [.ref t]))) v p := fun v p h => by
      obtain ⟨t', h1, h2⟩ := h
      exact ⟨t', h1, by rw [upd_ne (ne t' _ h2 (fun _ z => by cases z))]; exact h2⟩
    exact paired_app (paired_imp2 (fun v p h => up v p (by obtain ⟨t', h1, h2⟩ := h; exact ⟨t', h1, s _ _ h2⟩)) p3) (.cons (up _ _ ⟨t, rfl, et⟩) .nil)
  · refine ⟨p1.trans s, us, s _ _ p2, ?_⟩
    rw [fm_succ', e, List.append_nil]
    exact paired_imp2 (fun v p ⟨t, h1, h2⟩ => ⟨t, h1, s _ _ h2⟩) p3
end
/-! ### methods with defaults -/
structure MethD (K : PySem.W.Frag) (C : Addr) (m qual : Str) (st : Stmt) (ps : List Str) (dvs : List V) : Prop where
  ex : ∃ (f : Addr) (fd : FuncData), FunD K m qual (defArgs st) (defBody st) (defScope st) dvs [] f fd ∧ Meth K C m f ∧ Binds K fd ps [] ∧ ∃ ds, Vals dvs ds ∧ Binds K fd ps ds
theorem binds_full {K : PySem.W.Frag} {fd : FuncData} {ps : List Str} {dvs : List V} {j : Nat} (h : ∃ ds, Vals (dvs.drop j) ds ∧ Binds K fd ps ds) (hj : dvs.length ≤ j := by decide) : Binds K fd ps [] := by
  obtain ⟨ds, r, b⟩ := h
  rw [List.drop_eq_nil_of_le hj] at r
  cases r
  exact b
structure MetXD (P : Program) (w : World) (K : PySem.W.Frag) (mg : Str → Option Value) (base : Heap) (k : Nat) (C : Addr) (m : Str) (sp : Sp) (dvs : List V) : Prop where
  ex : ∃ (f : Addr) (fd : FuncData) (ps : List Str) (ds : List Value), Cls K C ∧ Meth K C m f ∧ FnOk P w K mg base (L2.CX P w) k f fd ps sp ∧ Binds K fd ps [] ∧ Vals dvs ds ∧ Binds K fd ps ds
section
variable {P : Program} {w : World} {K : PySem.W.Frag} {mg : Str → Option Value} {base : Heap}
theorem MethD.metXD {C : Addr} {m qual : Str} {st : Stmt} {N ps : List Str} {k : Nat} {sp : Sp} {dvs : List V} (c : Cls K C) (d : MethD K C m qual st ps dvs) (S : FnScope N ps (defScope st)) (len : ∀ vs H Q E, sp vs H Q E → vs.length = ps.length)
    (hbody : ∀ (f : Addr) (cdv : Value) (A : Around) (outer : List Env) (s : Shared) (H : Hp) (vs : List V) (Q : VK) (E : XK), Room k (A.deeper (envOfC qual (defScope st) s.heap.objs.size f cdv)) → sp vs H Q E →
      ∃ t, PSs (cxOf (L2.CX P w) P w K mg base N qual (defScope st) f cdv A outer s H E) (defBody st) t ∧ t { nx := fun _ H' => Q .non H', rt := Q } (start N vs) H) : MetXD P w K mg base (k + 1) C m sp dvs := by
  obtain ⟨f, fd, F, hm, b, ds, r, b2⟩ := d.ex
  exact ⟨f, fd, ps, ds, c, hm, F.ok S len (hbody f), b, r, b2⟩
theorem MetXD.m {k : Nat} {C : Addr} {m : Str} {sp : Sp} {dvs : List V} (c : MetXD P w K mg base k C m sp dvs) : MetX P w K mg base k C m sp := by
  obtain ⟨f, fd, ps, ds, hc, hm, F, b, r, b2⟩ := c.ex
  exact ⟨f, fd, ps, hc, hm, F, b⟩
end
def tMethDE (C : Addr) (m : Str) (sp : Sp) (dvs : List V) (E : L2.St → XK) (ta : TE) (t : TA) : TE := fun σ H Q => ta σ H fun x H1 => ∃ a dx fs, x = .ref a ∧ H1 a = some (.ins C dx fs) ∧ fs.lookup m = none ∧ t σ H1 fun vs H2 => sp (x :: vs ++ dvs) H2 Q (E σ)
section
variable {X : Cx} {CX : CXT} {k j : Nat} {f C : Addr} {fd : FuncData} {ps : List Str} {x m : Str} {sp : Sp} {p pos apos : Pos} {e o : Expr} {es : List Expr} {ta : TE} {t : TA} {E : L2.St → XK} {dvs : List V}
theorem L_methD {σ : L2.St} {H : Hp} {Q : VK} (h : ta σ H fun x H1 => ∃ a dx fs, x = .ref a ∧ H1 a = some (.ins C dx fs) ∧ fs.lookup m = none ∧ t σ H1 fun vs H2 => sp (x :: vs ++ dvs) H2 Q (E σ)) : tMethDE C m sp dvs E ta t σ H Q := h
theorem pe_xMtD {pl : Sem Bool} (c : MetXD X.prog X.w X.K X.mg X.base k C m sp dvs) (hr : Room j X.A) (hk : k ≤ j) (hx : ∀ σ, PassesAt (L2.CX X.prog X.w) X σ (E σ)) (he : PE X o ta) (ha : PA X (e :: es) t)
    (hst : starEach (e :: es) X.env = (false, eval e X.env) :: starEach es X.env := by rfl) (hpl : (backTo pos (starEach es X.env)).any (·.1) = false := by rfl)
    (ht : eval (.Call (.Attribute o m apos) (e :: es) [] pos) X.env = (do
      let ov ← eval o X.env
      standAt apos.atName
      let (f, first) ← holding [ov] (getMethod ov m pl)
      callWith pos f first (backTo pos (starEach (e :: es) X.env)) (backToKw pos (keywordEach [] X.env))) := by rfl) :
    PE X (.Call (.Attribute o m apos) (e :: es) [] pos) (tMethDE C m sp dvs E ta t) := by
  obtain ⟨f, fd, ps, ds, hc, hm, F, _, hd, hb⟩ := c.ex
  refine ⟨fun pins s σ H Q I h => ?_⟩
  refine PySem.W.methodCall_KW (pl := pl) (thn (he.run pins s σ H _ I h) fun u s1 ⟨x, H1, I1, rx, a, dx, fs, ex, ea, l, q⟩ => ?_) ht
  subst ex
  obtain rfl : u = Value.ref a := rx
  refine getmeth_ok I1 ea hc hm l ?_
  refine PySem.W.callWith_K (first := [.ref a]) (h₀ := X.base) I.ok.mod.kin hm.kp (thn (ha.run pos pins s1 σ H1 _ I1 q) fun us s2 ⟨vs, H2, I2, r, q2⟩ => ⟨I2.kIn, ?_⟩) hst hpl
  exact run_fnSD (us := .ref a :: us) (vs := .ref a :: vs) F (hr.mono hk) hb hd (hx σ) I2 (.cons rfl r) q2
end
/-! ### dicts with ints as keys -/
def rSortDI : List V → Hp → VK → Prop := fun xs H Q => ∃ (a : Addr) (kvs : List (Key × V)) (ks : List Int), xs = [.ref a] ∧ Rd H a (.dK kvs) ∧ kvs.map (·.1) = ks.map Sum.inl ∧ ks.length < 64 ∧
    ∀ (ys : List Int) (p : Addr), ys.Perm ks → ys.Pairwise (· ≤ ·) → H p = none → Q (.ref p) (upd H p (.lst (ys.map V.int)))
theorem cr_sortDI {X : Cx} (hc : X.calm = true) : CallR X (.builtin "sorted") rSortDI := call_sortedDI hc
/-- the dict kvs is the function g: a key stands where g is not nought -/
def DGr (kvs : List (Key × V)) (g : Int → Int) : Prop := ∃ ks : List Int, kvs.map (·.1) = ks.map Sum.inl ∧ ks.Nodup ∧ (∀ f, f ∈ ks ↔ g f ≠ 0) ∧ ∀ f, g f ≠ 0 → valV kvs (Sum.inl f : Key) = some (.int (g f))
theorem DGr.none {kvs : List (Key × V)} {g : Int → Int} (h : DGr kvs g) {f : Int} (hf : g f = 0) : valV kvs (Sum.inl f : Key) = none := by
  obtain ⟨ks, h1, h2, h3, h4⟩ := h
  cases e : valV kvs (Sum.inl f : Key) with
  | none => rfl
  | some v =>
    obtain ⟨kv, hk, _⟩ := Option.map_eq_some_iff.mp e
    have hm := List.mem_of_find?_eq_some hk
    have he : kv.1 = (Sum.inl f : Key) := of_decide_eq_true (List.find?_some (p := fun kv : Key × V => decide (kv.1 = (Sum.inl f : Key))) hk)
    have : (Sum.inl f : Key) ∈ ks.map Sum.inl := by rw [← h1, ← he]; exact List.mem_map_of_mem hm
    obtain ⟨f', hf', e'⟩ := List.mem_map.mp this
    cases e'
    exact absurd hf ((h3 f).mp hf')
theorem DGr.getD {kvs : List (Key × V)} {g : Int → Int} (h : DGr kvs g) (f : Int) : (valV kvs (Sum.inl f : Key)).getD (.int 0) = .int (g f) := by
  by_cases hf : g f = 0
  · rw [h.none hf, hf]; rfl
  · obtain ⟨ks, h1, h2, h3, h4⟩ := h
    rw [h4 f hf]; rfl
theorem DGr.nil : DGr [] (fun _ => 0) := ⟨[], rfl, .nil, fun f => by simp, fun f h => absurd rfl h⟩
theorem DGr.one {k v : Int} (hv : v ≠ 0) : DGr [(Sum.inl k, .int v)] (fun f => if f = k then v else 0) := ⟨[k], rfl, by simp, fun f => by
  rw [List.mem_singleton]
  by_cases h : f = k
  · simp [h, hv]
  · simp [h], fun f h => by
  by_cases e : f = k
  · subst e; simp [valV]
  · simp [e] at h⟩
theorem DGr.put {kvs : List (Key × V)} {g : Int → Int} (h : DGr kvs g) (k v : Int) (hv : v ≠ 0) : DGr (putK kvs (Sum.inl k) (.int v)) (fun f => if f = k then v else g f) := by
  have hval : ∀ f, (if f = k then v else g f) ≠ 0 → valV (putK kvs (Sum.inl k : Key) (.int v)) (Sum.inl f) = some (.int (if f = k then v else g f)) := fun f hf => by
    rw [L2.valV_put]
    by_cases e : f = k
    · rw [if_pos e, if_pos (by rw [e])]
    · rw [if_neg e] at hf ⊢
      rw [if_neg (fun z => e (Sum.inl.inj z))]
      obtain ⟨ks, h1, h2, h3, h4⟩ := h
      exact h4 f hf
  by_cases hk : g k = 0
  · have hn := h.none hk
    obtain ⟨ks, h1, h2, h3, h4⟩ := h
    have e : putK kvs (Sum.inl k : Key) (.int v) = kvs ++ [(Sum.inl k, .int v)] := L2.putK_new (.int v) hn
    refine ⟨ks ++ [k], by rw [e, List.map_append, List.map_append, h1]; rfl, ?_, fun f => ?_, hval⟩
    · rw [List.nodup_append]
      refine ⟨h2, by simp, fun a ha b hb => ?_⟩
      rw [List.mem_singleton] at hb
      rintro rfl
      subst hb
      exact (h3 _).mp ha hk
    · rw [List.mem_append, List.mem_singleton, h3]
      by_cases e : f = k
      · simp [e, hv]
      · simp [e]
  · obtain ⟨ks, h1, h2, h3, h4⟩ := h
    have hany : (kvs.any fun kv => decide (kv.1 = (Sum.inl k : Key))) = true := by
      rw [List.any_eq_true]
      have : (Sum.inl k : Key) ∈ kvs.map (·.1) := by rw [h1]; exact List.mem_map_of_mem ((h3 k).mpr hk)
      obtain ⟨kv, hm, e⟩ := List.mem_map.mp this
      exact ⟨kv, hm, decide_eq_true e⟩
    refine ⟨ks, ?_, h2, fun f => ?_, hval⟩
    · unfold putK
      rw [if_pos hany, List.map_map, ← h1]
      refine List.map_congr_left fun kv _ => ?_
      show (if kv.1 = Sum.inl k then (kv.1, V.int v) else kv).1 = kv.1
      split <;> rfl
    · rw [h3]
      by_cases e : f = k
      · simp [e, hv, hk]
      · simp [e]
theorem DGr.congr {kvs : List (Key × V)} {g g' : Int → Int} (h : DGr kvs g) (e : ∀ f, g f = g' f) : DGr kvs g' := by
  rw [show g' = g from funext fun f => (e f).symm]; exact h
/-- a rising list of whole numbers from 0 to n - 1 is known by its members -/
def upN (n : Nat) : List Int := (List.range n).map fun i : Nat => (i : Int)
def keysOf (n : Nat) (h : Int → Int) : List Int := (upN n).filter fun f => decide (h f ≠ 0)
theorem upN_mem {n : Nat} {f : Int} : f ∈ upN n ↔ 0 ≤ f ∧ f < n := by
  unfold upN
  rw [List.mem_map]
  constructor
  · rintro ⟨i, hi, rfl⟩
    have := List.mem_range.mp hi
    omega
  · rintro ⟨h0, h1⟩
    exact ⟨f.toNat, List.mem_range.mpr (by omega), by omega⟩
theorem upN_lt (n : Nat) : (upN n).Pairwise (· < ·) := by
  unfold upN
  rw [List.pairwise_map]
  exact List.pairwise_lt_range.imp fun h => by omega
theorem lt_perm : ∀ {l l' : List Int}, l.Pairwise (· < ·) → l'.Pairwise (· < ·) → (∀ x, x ∈ l ↔ x ∈ l') → l = l'
  | [], [], _, _, _ => rfl
  | [], b :: l', _, _, h => absurd ((h b).mpr (List.mem_cons_self ..)) (by simp)
  | a :: l, [], _, _, h => absurd ((h a).mp (List.mem_cons_self ..)) (by simp)
  | a :: l, b :: l', h1, h2, h => by
    rw [List.pairwise_cons] at h1 h2
    have hab : a = b := by
      have ha := (h a).mp (List.mem_cons_self ..)
      have hb := (h b).mpr (List.mem_cons_self ..)
      rcases List.mem_cons.mp ha with e | e
      · exact e
      · rcases List.mem_cons.mp hb with e' | e'
        · exact e'.symm
        · have := h1.1 b e'
          have := h2.1 a e
          omega
    subst hab
    rw [lt_perm h1.2 h2.2 fun x => ?_]
    constructor
    · intro hx
      have := h1.1 x hx
      rcases List.mem_cons.mp ((h x).mp (List.mem_cons_of_mem _ hx)) with e | e
      · omega
      · exact e
    · intro hx
      have := h2.1 x hx
      rcases List.mem_cons.mp ((h x).mpr (List.mem_cons_of_mem _ hx)) with e | e
      · omega
      · exact e
theorem L_sortDI {H : Hp} {Q : VK} {a : Addr} {kvs : List (Key × V)} {g : Int → Int} {n : Nat} (hn : n < 64) (h : H a = some (.dK kvs)) (hg : DGr kvs g) (hb : ∀ f, g f ≠ 0 → 0 ≤ f ∧ f < n) (q : ∀ p, H p = none → Q (.ref p) (upd H p (.lst ((keysOf n g).map V.int)))) : rSortDI [.ref a] H Q := by
  obtain ⟨ks, h1, h2, h3, h4⟩ := hg
  have key : ∀ ys : List Int, ys.Perm ks → ys.Pairwise (· ≤ ·) → ys = keysOf n g := fun ys hp hs => by
    refine lt_perm ?_ ((upN_lt n).filter _) fun x => ?_
    · have nd := hp.nodup_iff.mpr h2
      exact (hs.and nd).imp fun ⟨h1, h2⟩ => by omega
    · rw [hp.mem_iff, h3]
      unfold keysOf
      rw [List.mem_filter, upN_mem, decide_eq_true_eq]
      exact ⟨fun z => ⟨hb x z, z⟩, fun z => z.2⟩
  refine ⟨a, kvs, ks, rfl, .inl h, h1, ?_, fun ys p hp hs hf => ?_⟩
  · have : ks.Perm (keysOf n g) := (List.perm_ext_iff_of_nodup h2 ((upN_lt n).imp (fun h => by omega) |>.filter _)).mpr fun x => by
      rw [h3]
      rw [List.mem_filter, upN_mem, decide_eq_true_eq]
      exact ⟨fun z => ⟨hb x z, z⟩, fun z => z.2⟩
    rw [this.length_eq]
    refine Nat.lt_of_le_of_lt (List.length_filter_le ..) ?_
    unfold upN
    rw [List.length_map, List.length_range]
    exact hn
  · rw [key ys hp hs]
    exact q p hf
theorem L_dget2 {σ : L2.St} {H : Hp} {Q : VK} {td ty tx : TE} (h : td σ H fun x H1 => ∃ a, x = .ref a ∧ IsD H1 a ∧ ty σ H1 fun y H2 => tx σ H2 fun z H3 => ∃ o, DGet H3 a y o ∧ Q (o.getD z) H3) : tDGet2 td ty tx σ H Q := h
theorem isD_at' {H : Hp} {a : Addr} {kvs : List (Key × V)} (h : H a = some (.dK kvs)) : IsD H a := .inl ⟨kvs, .inl h⟩
/-! ### a chain of three comparisons -/
def tChain3 (r r' r'' : R2) (ta tb tc td : TE) : TE := fun σ H Q => ta σ H fun x H1 => tb σ H1 fun y H2 => r x y H2 fun z H3 => ∃ k, z = .bl k ∧
  (if k = true then tc σ H3 fun w' H4 => r' y w' H4 fun z2 H5 => ∃ k2, z2 = .bl k2 ∧ (if k2 = true then td σ H5 fun u' H6 => r'' w' u' H6 Q else Q (.bl false) H5) else Q (.bl false) H3)
section
variable {X : Cx} {a b c d : Expr} {ta tb tc td : TE} {pos : Pos}
theorem pe_chain3 {op op' op'' : CmpOp} {r r' r'' : R2} (ho : OpR X (compareOp op) r) (ho' : OpR X (compareOp op') r') (ho'' : OpR X (compareOp op'') r'') (ha : PE X a ta) (hb : PE X b tb) (hc : PE X c tc) (hd : PE X d td)
    (hm : lastMarks [op, op', op''] [b, c, d] = false := by with_unfolding_all rfl) : PE X (.Compare a [op, op', op''] [b, c, d] pos) (tChain3 r r' r'' ta tb tc td) := by
  refine ⟨fun pins s σ H Q I h => ?_⟩
  refine Compare_chain (thn (ha.run pins s σ H _ I h) fun v s1 ⟨x, H1, I1, r1, q1⟩ => chain_link (thn (hb.run pins s1 σ H1 _ I1 q1) fun u s2 ⟨y, H2, I2, r2, q2⟩ =>
    thn (ho pins s2 σ H2 x y v u _ I2 r1 r2 q2) fun d s3 ⟨z, H3, I3, r3, k, e, q3⟩ => ?_)) hm
  subst e
  cases r3
  refine wpAny_truthy_bool ?_
  cases k with
  | false => exact ite_ff ⟨.bl false, H3, I3, rfl, q3⟩
  | true =>
    refine ite_tt (chain_link (thn (hc.run pins s3 σ H3 _ I3 q3) fun w' s4 ⟨z', H4, I4, r4, q4⟩ => thn (ho' pins s4 σ H4 y z' u w' _ I4 r2 r4 q4) fun d2 s5 ⟨z2, H5, I5, r5, k2, e2, q5⟩ => ?_))
    subst e2
    cases r5
    refine wpAny_truthy_bool ?_
    cases k2 with
    | false => exact ite_ff ⟨.bl false, H5, I5, rfl, q5⟩
    | true => exact ite_tt (chain_last (thn (hd.run pins s5 σ H5 _ I5 q5) fun u' s6 ⟨z3, H6, I6, r6, q6⟩ => ho'' pins s6 σ H6 z' z3 w' u' Q I6 r4 r6 q6))
theorem L_chain3 {r r' r'' : R2} {σ : L2.St} {H : Hp} {Q : VK} (h : ta σ H fun x H1 => tb σ H1 fun y H2 => r x y H2 fun z H3 => ∃ k, z = .bl k ∧
  (if k = true then tc σ H3 fun w' H4 => r' y w' H4 fun z2 H5 => ∃ k2, z2 = .bl k2 ∧ (if k2 = true then td σ H5 fun u' H6 => r'' w' u' H6 Q else Q (.bl false) H5) else Q (.bl false) H3)) : tChain3 r r' r'' ta tb tc td σ H Q := h
end
/-- the chain's test, as a value's -/
theorem L_catA {K : PySem.W.Frag} {H : Hp} {a b : Addr} {xs ys : List V} {Q : VK} (h1 : SqT K H a xs) (h2 : SqT K H b ys) (n1 : xs ≠ []) (n2 : ys ≠ []) (hl : xs.length + ys.length ≤ sizeLine) (q : ∀ p, H p = none → Q (.ref p) (upd H p (.tup (xs ++ ys)))) : aAdd K (.ref a) (.ref b) H Q :=
  .inr (.inr (.inr ⟨a, b, xs, ys, rfl, rfl, h1, h2, hl, fun e => absurd e n1, fun _ e => absurd e n2, fun _ _ => q⟩))
/-! ### several except clauses, some of them with a name -/
abbrev HdA := Value × Option Nat × (Addr → Value → Option Addr → TS)
def wManyA (K : PySem.W.Frag) (Wout : WX) (D : Ends) : List HdA → WX
  | [] => Wout
  | (c, none, ts) :: r => fun cls d σ H => ∃ b, PySem.W.exmOne K cls c = some b ∧ (b = true → ∀ a, H a = none → ts a cls d D σ H) ∧ (b = false → wManyA K Wout D r cls d σ H)
  | (c, some i, ts) :: r => fun cls d σ H => ∃ b, PySem.W.exmOne K cls c = some b ∧
    (b = true → ∀ a, H a = none → ts a cls d ⟨fun σ' H' => H' a = none → D.nx (σ'.set i none) (upd H' a (ExI cls d a)), D.rt, fun σ' H' => D.bk (σ'.set i none) H', fun σ' H' => D.ct (σ'.set i none) H'⟩ (σ.set i (some (.ref a))) H) ∧
    (b = false → wManyA K Wout D r cls d σ H)
inductive HdsA (X : Cx) : List ExceptHandler → List HdA → Prop
  | nil : HdsA X [] []
  | cons {x : Str} {c : Value} {ts : Addr → Value → Option Addr → TS} {b₀ : Stmt} {suite : List Stmt} {np pos' : Pos} {hds : List ExceptHandler} {l : List HdA} (hc : Names X x c)
      (hsu : ∀ (a : Addr) (oe : Obj) (cls : Value) (d : Option Addr) (pn : List (Addr × Obj)), Zc cls d oe → (∃ vs, oe.data = .fields vs) → PSs (X.suite a ((a, oe) :: pn)) (b₀ :: suite) (ts a cls d)) (r : HdsA X hds l) :
      HdsA X (.ExceptHandler (some (.Name x np)) none (b₀ :: suite) pos' :: hds) ((c, none, ts) :: l)
  | consA {x n : Str} {c : Value} {i : Nat} {ts : Addr → Value → Option Addr → TS} {b₀ : Stmt} {suite : List Stmt} {np pos' : Pos} {hds : List ExceptHandler} {l : List HdA} (hi : X.N[i]? = some n) (hln : X.env.kindOf n = some .local) (hc : Names X x c)
      (hsu : ∀ (a : Addr) (oe : Obj) (cls : Value) (d : Option Addr) (pn : List (Addr × Obj)), Zc cls d oe → (∃ vs, oe.data = .fields vs) → PSs (X.suite a ((a, oe) :: pn)) (b₀ :: suite) (ts a cls d)) (r : HdsA X hds l) :
      HdsA X (.ExceptHandler (some (.Name x np)) (some n) (b₀ :: suite) pos' :: hds) ((c, some i, ts) :: l)
section
variable {X : Cx} {body : List Stmt} {h₀ : ExceptHandler} {hds : List ExceptHandler} {l : List HdA} {pos : Pos} {tb : WX → TS} {Wout : WX}
theorem ps_try_manyA (hs : X.stack = X.env :: X.outer) (hf : X.env.frame = some X.env.locals) (hN : X.N.Nodup) (hex : X.ex = []) (tk : Takes X Wout)
    (hb : ∀ (W : WX) (pn : List (Addr × Obj)) (xe : Value → Shared → Prop), Takes (X.tr pn xe) W → PassesOwn (model X.prog X.w) X.A X.env xe → PSs (X.tr pn xe) body (tb W))
    (hh : HdsA X (h₀ :: hds) l) : PS X (.Try body (h₀ :: hds) [] [] pos) (fun D σ H => tb (wManyA X.K Wout D l) D σ H) := by
  constructor
  intro pins s0 σ0 H0 D I0 start
  have okX := I0.ok
  have frames : X.A.frames = some (X.env :: X.outer) := by
    rw [okX.frames, hs]
  apply wpAny_Try_except
  let look : Value → Shared → Prop := fun e t1 => wpAny (model X.prog X.w) X.A (noteFrame e X.env) (fun _ t2 => wpAny (model X.prog X.w) X.A (setFlight e none)
    (fun _ t3 => wpAny (model X.prog X.w) X.A (handleBy e X.env (h₀ :: hds)) (SP X pins D) X.xe t3) X.xe t2) X.xe t1
  have caught : Takes (X.tr (X.pn ++ pins) look) (wManyA X.K Wout D l) := by
    intro u s' air
    obtain ⟨a, B, sI, pins', σ', H', cls, d, rfl, K', nb, up, sky, na, os, ag, w⟩ := air
    have K0 : Inv X pins σ' H' sI := K'.ofTry okX
    have sky1 : Sky B (X.env :: X.outer) a (Zc cls d) X.env.locals s'.heap := hs ▸ sky
    show wpAny (model X.prog X.w) X.A (noteFrame (.ref a) X.env) _ _ _
    apply Sky.land Zc.steady frames hf sky1
    intro h3 fl3 up3
    have J3 : Inv X pins σ' H' { s' with heap := h3 } := K0.landed nb fl3.1 (up.trans up3) os ag
    obtain ⟨oe3, vs3, at3, z3, data3⟩ := fl3.there
    have offFrames : a ∉ frs (X.env :: X.outer) := fun hm => by
      obtain ⟨_, o', there', hnf⟩ := fl3.2.2.1.mem hm
      rw [at3] at there'
      cases there'
      exact hnf _ data3
    have nL : a ≠ X.env.locals := fun e => offFrames (List.mem_filterMap.mpr ⟨X.env, List.mem_cons_self, by rw [hf, e]⟩)
    have nF : a ∉ X.fs := fun hm => by
      obtain ⟨e, he, q⟩ := List.mem_filterMap.mp hm
      exact offFrames (List.mem_filterMap.mpr ⟨e, List.mem_cons_of_mem _ he, q⟩)
    -- a is new: it stood neither at the try's entry nor at the def's
    have newB : B.get? a = none := fl3.2.1
    have newI : sI.heap.get? a = none := by
      cases q : sI.heap.get? a with
      | none => rfl
      | some o =>
        have := nb a o q (by rw [hs]; exact offFrames)
        rw [newB] at this
        cases this
    have new0 : X.s_0.heap.get? a = none := by
      cases q : X.s_0.heap.get? a with
      | none => rfl
      | some o =>
        obtain ⟨o', q'⟩ := K0.base.there a o q (by rw [hex]; exact List.not_mem_nil)
        rw [newI] at q'
        cases q'
    have apart : ∀ p ∈ X.pn ++ pins, p.1 ≠ a := fun p hp e => by
      have := (K0.pin p hp).1
      rw [e, newI] at this
      cases this
    have S3 := J3.suite at3 data3 na nL nF
    have go : ∀ {hds' : List ExceptHandler} {l' : List HdA}, HdsA X hds' l' → wManyA X.K Wout D l' cls d σ' H' →
        wpAny (model X.prog X.w) X.A (handleBy (.ref a) X.env hds') (SP X pins D) X.xe { s' with heap := h3 } := by
      intro hds' l' hk
      induction hk with
      | nil =>
        intro no
        apply wpAny_handleBy_nil
        obtain ⟨_, _, _, oe, vs, T, oT, ts', he, hz, hd, h1, hr⟩ := id fl3
        unfold PySem.passOn
        refine wpAny_bind (wpAny_field he hd h1 ?_)
        rw [if_neg (show ¬ ((Value.ref T == Value.none) = true) from by simp)]
        have on : wpAny (model X.prog X.w) X.A (setFlight (.ref a) X.env.frame) (fun _ s4 => wpAny (model X.prog X.w) X.A (throw (.ref a) : Sem Flow) (SP X pins D) X.xe s4) X.xe { s' with heap := h3 } := by
          rw [hf]
          apply HandSPX.setFlight_upZ fl3
          intro h4 held4 up4
          apply wpAny_throw
          apply tk
          exact ⟨a, B, sI, pins, σ', H', cls, d, rfl, K0, nb, (up.trans up3).trans up4, .inr (.inr (by rw [hs]; exact held4)), na, os, ag, no⟩
        first
          | exact wpAny_bind (wpAny_pure (wpAny_bind on))
          | exact wpAny_bind on

      | @cons x c ts b₀ suite np pos' hds2 l2 hc hsu r ih =>
        intro w
        obtain ⟨b, exm, yes, no⟩ := w
        refine wpAny_handleBy_cons (codeAny_handlers_test ?_) (by intro q; cases q)
        have tyA : PySem.W.Looks (model X.prog X.w) h3 (typeOf (.ref a)) cls := fun A Q E t k q => wpAny_typeOf_ref (k _ _ at3) (by rw [z3.1]; exact q)
        have matched := PySem.W.exm_one (M := model X.prog X.w) (J3.kIn) tyA exm
        have named : ∀ {Q : Value → Shared → Prop} {E : Value → Shared → Prop}, Q c { s' with heap := h3 } → wpAny (model X.prog X.w) (X.A.mark (some (.ref a))) (eval (.Name x np) X.env) Q E { s' with heap := h3 } := by
          intro Q E q
          obtain ⟨hg, hdbg, hm⟩ := hc
          rcases hm with hm | ⟨hm, hv, hnn⟩
          · exact ld_glob (X := X.suite a ((a, oe3) :: (X.pn ++ pins))) S3 hg hm q hdbg
          · exact ld_blt (X := X.suite a ((a, oe3) :: (X.pn ++ pins))) S3 hg hm hv q hnn hdbg
        apply named
        apply matched.here
        cases b with
        | true =>
          refine codeAny_handlers_suite ?_
          refine HandSPX.lands_againZ fl3 fun h4 fl4 up4 => ?_
          have J4 : Inv X pins σ' H' { s' with heap := h4 } := K0.landed nb fl4.1 ((up.trans up3).trans up4) os ag
          obtain ⟨oe4, vs4, he4, hz4, hd4⟩ := fl4.there
          have S4 := J4.suite he4 hd4 na nL nF
          refine wpAny_mono ((hsu a oe4 cls d (X.pn ++ pins) hz4 ⟨_, hd4⟩).run [] _ _ H' _ S4 (yes rfl a na)) (fun f s6 hsp => ?_) (fun _ _ z => False.elim z)
          cases f with
          | next =>
            obtain ⟨σ6, H6, S6, q6⟩ := hsp
            exact ⟨_, _, S6.unsuite okX, q6⟩
          | brk =>
            obtain ⟨σ6, H6, S6, q6⟩ := hsp
            exact ⟨_, _, S6.unsuite okX, q6⟩
          | cont =>
            obtain ⟨σ6, H6, S6, q6⟩ := hsp
            exact ⟨_, _, S6.unsuite okX, q6⟩
          | ret u =>
            obtain ⟨v6, σ6, H6, S6, r6, q6⟩ := hsp
            exact ⟨_, _, _, S6.unsuite okX, r6, q6⟩
        | false =>
          show wpAny _ X.A (handleBy (.ref a) X.env hds2) _ _ _
          exact ih (no rfl)
      | @consA x n c i ts b₀ suite np pos' hds2 l2 hi hln hc hsu r ih =>
        intro w
        obtain ⟨b, exm, yes, no⟩ := w
        refine wpAny_handleBy_cons (codeAny_handlers_test ?_) (by intro q; cases q)
        have tyA : PySem.W.Looks (model X.prog X.w) h3 (typeOf (.ref a)) cls := fun A Q E t k q => wpAny_typeOf_ref (k _ _ at3) (by rw [z3.1]; exact q)
        have matched := PySem.W.exm_one (M := model X.prog X.w) (J3.kIn) tyA exm
        have named : ∀ {Q : Value → Shared → Prop} {E : Value → Shared → Prop}, Q c { s' with heap := h3 } → wpAny (model X.prog X.w) (X.A.mark (some (.ref a))) (eval (.Name x np) X.env) Q E { s' with heap := h3 } := by
          intro Q E q
          obtain ⟨hg, hdbg, hm⟩ := hc
          rcases hm with hm | ⟨hm, hv, hnn⟩
          · exact ld_glob (X := X.suite a ((a, oe3) :: (X.pn ++ pins))) S3 hg hm q hdbg
          · exact ld_blt (X := X.suite a ((a, oe3) :: (X.pn ++ pins))) S3 hg hm hv q hnn hdbg
        apply named
        apply matched.here
        cases b with
        | true =>
          apply codeAny_handlers_suite_as
          apply HandSPX.lands_againZ fl3
          intro h4 fl4 up4
          have J4 : Inv X pins σ' H' { s' with heap := h4 } := K0.landed nb fl4.1 ((up.trans up3).trans up4) os ag
          obtain ⟨oe4, vs4, at4, z4, data4⟩ := fl4.there
          have S4 := J4.suite at4 data4 na nL nF
          refine store_ok (X := X.suite a ((a, oe4) :: (X.pn ++ pins))) (v := .ref a) S4 hN hi (.inl hln) rfl (fun s5 S5 => ?_) (.inr hln)
          refine wpAny_mono ((hsu a oe4 cls d (X.pn ++ pins) z4 ⟨_, data4⟩).run [] s5 _ H' _ S5 (yes rfl a na)) (fun f s6 hsp => ?_) (fun _ _ z => z.elim)
          -- out of the suite, the exception still pinned
          have out : ∀ {σ6 : L2.St} {H6 : Hp} {Q : Shared → Prop}, Inv (X.suite a ((a, oe4) :: (X.pn ++ pins))) [] σ6 H6 s6 → (∀ s7, Inv X pins (σ6.set i none) H6 s7 → H6 a = none → s7.heap.get? a = some oe4 → Q s7) →
              wpAny (model X.prog X.w) X.A (do bindName X.env n .none; unbindBehindTheSuite X.env n pos') (fun _ s7 => Q s7) X.xe s6 := fun {σ6 H6 Q} S6 hq => by
            have P6 : Inv X ((a, oe4) :: pins) σ6 H6 s6 := { S6.unsuite okX with
              pin := fun p hp => S6.pin p (by
                rcases List.mem_append.mp hp with hp | hp
                · exact List.mem_append_left _ (List.mem_cons_of_mem _ (List.mem_append_left _ hp))
                · rcases List.mem_cons.mp hp with e | hp
                  · rw [e]; exact List.mem_append_left _ List.mem_cons_self
                  · exact List.mem_append_left _ (List.mem_cons_of_mem _ (List.mem_append_right _ hp))) }
            refine gone_ok P6 hN hi hln fun s7 P7 => ?_
            have pinned := P7.pin (a, oe4) (List.mem_append_right _ List.mem_cons_self)
            refine hq s7 { P7 with pin := fun p hp => P7.pin p ?_ } pinned.2.1 pinned.1
            rcases List.mem_append.mp hp with hp | hp
            · exact List.mem_append_left _ hp
            · exact List.mem_append_right _ (List.mem_cons_of_mem _ hp)
          match f, hsp with
          | .next, ⟨σ6, H6, S6, q6⟩ => exact out S6 fun s7 J7 n6 a6 => ⟨_, _, track J7 n6 a6 z4 data4 new0 nL apart, q6 n6⟩
          | .brk, ⟨σ6, H6, S6, q6⟩ => exact out S6 fun s7 J7 _ _ => ⟨_, _, J7, q6⟩
          | .cont, ⟨σ6, H6, S6, q6⟩ => exact out S6 fun s7 J7 _ _ => ⟨_, _, J7, q6⟩
          | .ret u, ⟨v6, σ6, H6, S6, r6, q6⟩ => exact out S6 fun s7 J7 _ _ => ⟨_, _, _, J7, r6, q6⟩
        | false =>
          show wpAny _ X.A (handleBy (.ref a) X.env hds2) _ _ _
          exact ih (no rfl)
    exact go hh w
  refine wpAny_mono ((hb (wManyA X.K Wout D l) (X.pn ++ pins) look caught PassesOwn.looking).run [] s0 σ0 H0 D (I0.toTry _) start) (fun f s1 hsp => ?_) (fun e s1 he => he)
  match f, hsp with
  | .next, ⟨σ1, H1, J1, q⟩ => exact wpAny_execs_nil ⟨σ1, H1, J1.ofTry okX, q⟩
  | .brk, ⟨σ1, H1, J1, q⟩ => exact ⟨σ1, H1, J1.ofTry okX, q⟩
  | .cont, ⟨σ1, H1, J1, q⟩ => exact ⟨σ1, H1, J1.ofTry okX, q⟩
  | .ret u, ⟨v, σ1, H1, J1, r, q⟩ => exact ⟨v, σ1, H1, J1.ofTry okX, r, q⟩
end
theorem L_many {K : PySem.W.Frag} {H : Hp} {c : Value} {ts : Addr → Value → Option Addr → TS} {r : List HdA} {Wout : WX} {D : Ends} {σ : L2.St} {cls : Value} {d : Option Addr} (h : PySem.W.exmOne K cls c = some true)
    (q : ∀ a, H a = none → ts a cls d D σ H) : wManyA K Wout D ((c, none, ts) :: r) cls d σ H := ⟨true, h, fun _ => q, fun z => nomatch z⟩
theorem L_manyA {K : PySem.W.Frag} {H : Hp} {c : Value} {i : Nat} {ts : Addr → Value → Option Addr → TS} {r : List HdA} {Wout : WX} {D : Ends} {σ : L2.St} {cls : Value} {d : Option Addr} (h : PySem.W.exmOne K cls c = some true)
    (q : ∀ a, H a = none → ts a cls d ⟨fun σ' H' => H' a = none → D.nx (σ'.set i none) (upd H' a (ExI cls d a)), D.rt, fun σ' H' => D.bk (σ'.set i none) H', fun σ' H' => D.ct (σ'.set i none) H'⟩ (σ.set i (some (.ref a))) H) : wManyA K Wout D ((c, some i, ts) :: r) cls d σ H := ⟨true, h, fun _ => q, fun z => nomatch z⟩
theorem L_manyN {K : PySem.W.Frag} {H : Hp} {c : Value} {ts : Addr → Value → Option Addr → TS} {r : List HdA} {Wout : WX} {D : Ends} {σ : L2.St} {cls : Value} {d : Option Addr} (h : PySem.W.exmOne K cls c = some false)
    (q : wManyA K Wout D r cls d σ H) : wManyA K Wout D ((c, none, ts) :: r) cls d σ H := ⟨false, h, (fun z => nomatch z), fun _ => q⟩
end Kt
set_option Elab.async false
set_option linter.all false
set_option maxRecDepth 100000
set_option maxHeartbeats 4000000
namespace My
open PySem PySem.Spec PyProof.Rows L2 Kt
/-! one step of a reading; a look at the heap -/
local macro_rules | `(tactic| walk_at "hp") => `(tactic| first
  | assumption
  | exact upd_same
  | (with_reducible apply hp_from; assumption; walk_at "sm"))
local macro_rules | `(tactic| walk_at "hpL") => `(tactic| first | assumption | (with_reducible apply hpL; walk_at "hp"))
local macro_rules | `(tactic| walk_at "hpT") => `(tactic| first | assumption | (with_reducible apply hpT; walk_at "hp"))
local macro_rules | `(tactic| walk_at "st1") => `(tactic| with_reducible first
  | refine L_var rfl ?_
  | refine L_cons ?_
  | refine L_nil ?_
  | refine L_c ?_
  | refine L_op ?_
  | refine L_seq ?_
  | refine L_asg ?_
  | (refine G_gn ?_; refine L_gnameE (by dsimp only [L2.wipe, List.foldl, List.set] <;> rfl) ?_)
  | refine L_k ?_
  | refine L_I0 ?_
  | refine L_addI ?_
  | refine L_tTest ?_
  | refine L_ifS ?_
  | refine L_next ?_
  | refine L_call ?_
  | refine L_callS ?_
  | refine L_T ?_
  | refine L_F ?_
  | refine L_nT ?_
  | refine L_nF ?_
  | refine L_cb ?_
  | refine L_ret ?_
  | refine L_eqI ?_
  | refine L_neI ?_
  | refine L_leI ?_
  | refine L_ltI ?_
  | refine L_or ?_
  | refine L_and ?_
  | refine L_not ?_
  | refine L_tB ?_
  | refine L_drop ?_
  | refine L_bm ?_
  | refine L_tup ?_
  | refine L_lst ?_
  | refine L_fld ?_
  | refine L_chain ?_
  | refine L_chain3 ?_
  | refine L_gname ?_
  | refine L_eqS ?_
  | refine L_neS ?_
  | refine L_eqB ?_
  | refine L_leS ?_
  | refine L_isN ?_
  | refine L_notN ?_
  | refine L_inC ?_
  | refine L_notInC ?_
  | refine L_un ?_
  | refine L_rU ?_
  | refine L_andV ?_
  | refine L_orV ?_
  | refine L_notV ?_
  | refine L_par ?_
  | refine L_par3 ?_
  | refine L_vs2 ?_
  | refine L_vs3 ?_
  | refine L_aug rfl ?_
  | refine L_ipI ?_
  | refine L_retN ?_
  | refine L_brk ?_
  | refine L_cont ?_
  | refine L_tru ?_
  | refine L_truB ?_
  | refine L_truI ?_
  | refine L_abs ?_
  | refine L_max2 ?_
  | refine L_min2 ?_
  | refine L_int1 ?_
  | refine L_int1B ?_
  | refine L_for ?_
  | refine L_iRng1 ?_
  | refine L_iRng2 ?_
  | refine L_iList ?_
  | refine L_iTup ?_
  | refine L_yes ?_
  | refine L_iZip ?_
  | refine L_iEnum ?_
  | refine L_iStr ?_
  | refine L_iRng3 ?_
  | refine L_lc ?_
  | refine L_make ?_
  | refine L_nnT ?_
  | refine L_nnF ?_
  | refine L_disp1 ?_
  | refine L_rng2 ?_
  | refine L_bm0 ?_
  | refine L_neB ?_
  | refine L_dnew ?_
  | refine L_sl ?_
  | refine L_noPart ?_
  | refine L_part ?_
  | refine L_ki ?_
  | refine L_methE ?_
  | refine L_meth ?_
  | refine L_makeE ?_
  | refine L_gCons ?_
  | refine L_gNil ?_
  | refine L_sub ?_
  | refine L_sFld ?_
  | refine L_din ?_
  | refine L_dnin ?_
  | refine L_dget ?_
  | refine L_dput ?_
  | refine L_dget2 ?_
  | refine L_methD ?_)
local macro_rules | `(tactic| walk_at "st") => `(tactic| first | walk_at "st1" | walk_at "op" | with_reducible refine L_ifE ?_)
local macro_rules | `(tactic| walk_at "stn") => `(tactic| repeat first | walk_at "st1" | walk_at "op")
local macro_rules | `(tactic| walk_at "sts") => `(tactic| repeat walk_at "st")
/-! the same, and what is shown by itself: sizes, bounds, what stands in the heap -/
local macro_rules | `(tactic| walk_at "bd") => `(tactic| first | exact bd_mod (by decide) | exact bd_64 (by decide) | exact bd_64 (by omega))
local macro_rules | `(tactic| walk_at "sa1") => `(tactic| first
  | walk_at "st"
  | (with_reducible refine G_mod ?_; with_reducible refine L_I (show _ < _ by first | decide | omega) ?_)
  | (with_reducible refine G_mul ?_; with_reducible refine L_mulI (Bd.cmul (n := 64) (m := 64) (by walk_at "bd") (by walk_at "bd")) ?_)
  | (with_reducible refine G_div ?_; with_reducible refine L_I (cdiv_lit (by first | decide | omega)) ?_)
  | (with_reducible refine G_pow ?_; with_reducible first
    | refine L_powE (i := 10) (j := 9) (n := 1000000000) (cpow_lit (by decide)) (by decide) ?_
    | refine L_powE (i := 10) (j := 6) (n := 1000000) (cpow_lit (by decide)) (by decide) ?_
    | refine L_powE (i := 10) (j := 10) (n := 10000000000) (cpow_lit (by decide)) (by decide) ?_
    | refine L_powE (i := 10) (j := 12) (n := 1000000000000) (cpow_lit (by decide)) (by decide) ?_
    | refine L_powE (i := 10) (j := 13) (n := 10000000000000) (cpow_lit (by decide)) (by decide) ?_
    | refine L_powE (i := 10) (j := 20) (n := 100000000000000000000) (cpow_lit (by decide)) (by decide) ?_
    | refine L_powE (i := 10) (j := 29) (n := 100000000000000000000000000000) (cpow_lit (by decide)) (by decide) ?_
    | refine L_powE (i := 10) (j := 30) (n := 1000000000000000000000000000000) (cpow_lit (by decide)) (by decide) ?_
    | refine L_powE (i := 10) (j := 39) (n := 1000000000000000000000000000000000000000) (cpow_lit (by decide)) (by decide) ?_
    | refine L_powE (i := 10) (j := 40) (n := 10000000000000000000000000000000000000000) (cpow_lit (by decide)) (by decide) ?_
    | refine L_powE (i := 10) (j := 60) (n := 1000000000000000000000000000000000000000000000000000000000000) (cpow_lit (by decide)) (by decide) ?_
    | refine L_powE (i := 2) (j := 3) (n := 8) (cpow_lit (by decide)) (by decide) ?_
    | refine L_powE (i := 2) (j := 40) (n := 1099511627776) (cpow_lit (by decide)) (by decide) ?_)
  | (with_reducible refine G_ix ?_; with_reducible first | refine L_ixT (by walk_at "hpT") (by with_unfolding_all rfl) ?_ | refine L_ixL (by walk_at "hpL") (by with_unfolding_all rfl) ?_)
  | (with_reducible refine G_len ?_; with_reducible first | refine L_lenL (by walk_at "hpL") ?_ | refine L_lenT (by walk_at "hpT") ?_)
  | walk_at "fd"
  | (with_reducible refine G_meth ?_; with_reducible refine L_methv (by walk_at "hp") (by with_unfolding_all rfl) ?_)
  | (with_reducible refine G_isi ?_; with_reducible first | refine L_isi (.base (.int _)) (b := true) (by decide +kernel) ?_ | refine L_isi (.base (.int _)) (b := false) (by decide +kernel) ?_)
  | (with_reducible refine G_d ?_; with_reducible first | refine L_dT (by first | assumption | omega) ?_ | refine L_dF (by first | assumption | omega) ?_)
  | (with_reducible refine G_nd ?_; with_reducible first | refine L_ndT (by first | assumption | omega) ?_ | refine L_ndF (by first | assumption | omega) ?_))
local macro_rules | `(tactic| walk_at "sa") => `(tactic| repeat walk_at "sa1")
/-! what stood stands -/
local macro_rules | `(tactic| walk_at "sm") => `(tactic| first
  | assumption
  | exact Same.refl _
  | (with_reducible apply same_upd'; assumption; walk_at "sm")
  | (with_reducible apply same_mut'; assumption; walk_at "sm")
  | (with_reducible apply same_via; assumption; walk_at "sm"))
/-! a new list or tuple: its place p, hp : H p = none, the heap behind it Hn, that all stands, what stands at p -/
local macro_rules | `(tactic| walk_at "nw") => `(tactic| (
  (refine L_new (by first | decide | exact sz_dec (by simp)) ?_)
  (intro p hp)
  (generalize hg : upd _ p _ = Hn)
  (have sn := same_newE hg hp)
  (have en := upd_at hg)
  (clear hg)))
/-! plain things as data -/
local macro_rules | `(tactic| walk_at "dpa") => `(tactic| first
  | exact .nil
  | (refine .cons (by first | exact .int _ | exact .str _ | exact .bl _ | exact .non | assumption) ?_; walk_at "dpa"))
local macro_rules | `(tactic| walk_at "nwp") => `(tactic| (
  (intro p hp)
  (generalize hg : upd _ p _ = Hn)
  (have sn := same_newE hg hp)
  (have en := upd_at hg)
  (clear hg)))

def top (i : Nat) : Stmt := PySem.Challenge.pw_fewspeak_k66_pots_by_throws.main.body.getD i (.Pass ⟨0, 0, 0, 0⟩)
abbrev s_is_whole : Stmt := top 7
abbrev s_is_name : Stmt := top 8
abbrev s_need_most : Stmt := top 12
abbrev s_Pot___init__ : Stmt := inClass (top 13) 0
abbrev s_Pot_next_sides : Stmt := inClass (top 13) 1
abbrev s_NoThrow___init__ : Stmt := inClass (top 2) 0
abbrev s_Pot_come : Stmt := inClass (top 13) 2
abbrev s_Pot_came : Stmt := inClass (top 13) 3
abbrev s_Pot_things : Stmt := inClass (top 13) 4
abbrev s__law_cell_at : Stmt := top 15
abbrev s__law_mix : Stmt := top 16
abbrev s__law_numbers : Stmt := top 17
abbrev s__law_sides : Stmt := top 22
abbrev s__law_bad : Stmt := top 19
abbrev s__law_name : Stmt := top 18
abbrev s__law_come : Stmt := top 20
abbrev s__law_due : Stmt := top 21
abbrev s__law_kept : Stmt := top 23
abbrev s__law_stands : Stmt := top 24
abbrev s__law_deed : Stmt := top 25
abbrev s__law_no_pot : Stmt := top 26
abbrev s_law : Stmt := top 27
theorem sc_is_whole : FnScope ["thing", "low", "high"] ["thing", "low", "high"] (defScope s_is_whole) := ⟨rfl, rfl, rfl, by decide +kernel, rfl, by decide +kernel, by decide +kernel⟩
theorem sc_is_name : FnScope ["thing", "sign"] ["thing"] (defScope s_is_name) := ⟨rfl, rfl, rfl, by decide +kernel, rfl, by decide +kernel, by decide +kernel⟩
theorem sc_need_most : FnScope ["thing"] ["thing"] (defScope s_need_most) := ⟨rfl, rfl, rfl, by decide +kernel, rfl, by decide +kernel, by decide +kernel⟩
theorem sc_Pot___init__ : FnScope ["self", "most"] ["self", "most"] (defScope s_Pot___init__) := ⟨rfl, rfl, rfl, by decide +kernel, rfl, by decide +kernel, by decide +kernel⟩
theorem sc_Pot_next_sides : FnScope ["self"] ["self"] (defScope s_Pot_next_sides) := ⟨rfl, rfl, rfl, by decide +kernel, rfl, by decide +kernel, by decide +kernel⟩
theorem sc_NoThrow___init__ : FnScope ["self", "place"] ["self", "place"] (defScope s_NoThrow___init__) := ⟨rfl, rfl, rfl, by decide +kernel, rfl, by decide +kernel, by decide +kernel⟩
theorem sc_Pot_come : FnScope ["self", "thing", "throw"] ["self", "thing", "throw"] (defScope s_Pot_come) := ⟨rfl, rfl, rfl, by decide +kernel, rfl, by decide +kernel, by decide +kernel⟩
theorem sc_Pot_came : FnScope ["self"] ["self"] (defScope s_Pot_came) := ⟨rfl, rfl, rfl, by decide +kernel, rfl, by decide +kernel, by decide +kernel⟩
theorem sc_Pot_things : FnScope ["self"] ["self"] (defScope s_Pot_things) := ⟨rfl, rfl, rfl, by decide +kernel, rfl, by decide +kernel, by decide +kernel⟩
theorem sc__law_cell_at : FnScope ["_law_script", "_law_k"] ["_law_script", "_law_k"] (defScope s__law_cell_at) := ⟨rfl, rfl, rfl, by decide +kernel, rfl, by decide +kernel, by decide +kernel⟩
theorem sc__law_mix : FnScope ["_law_cell", "_law_k", "_law_number"] ["_law_cell", "_law_k"] (defScope s__law_mix) := ⟨rfl, rfl, rfl, by decide +kernel, rfl, by decide +kernel, by decide +kernel⟩
theorem sc__law_numbers : FnScope ["_law_cell", "_law_digits", "_law_bases", "_law_numbers_here", "_law_k", "_law_base"] ["_law_cell", "_law_digits", "_law_bases"] (defScope s__law_numbers) := ⟨rfl, rfl, rfl, by decide +kernel, rfl, by decide +kernel, by decide +kernel⟩
theorem sc__law_sides : FnScope ["_law_state"] ["_law_state"] (defScope s__law_sides) := ⟨rfl, rfl, rfl, by decide +kernel, rfl, by decide +kernel, by decide +kernel⟩
theorem sc__law_bad : FnScope ["_law_number"] ["_law_number"] (defScope s__law_bad) := ⟨rfl, rfl, rfl, by decide +kernel, rfl, by decide +kernel, by decide +kernel⟩
theorem sc__law_name : FnScope ["_law_number", "_law_letters", "_law_name_here", "_law_k"] ["_law_number"] (defScope s__law_name) := ⟨rfl, rfl, rfl, by decide +kernel, rfl, by decide +kernel, by decide +kernel⟩
theorem sc__law_come : FnScope ["_law_pot", "_law_thing", "_law_throw", "_law_bare", "_law_word", "e"] ["_law_pot", "_law_thing", "_law_throw", "_law_bare"] (defScope s__law_come) := ⟨rfl, rfl, rfl, by decide +kernel, rfl, by decide +kernel, by decide +kernel⟩
theorem sc__law_due : FnScope ["_law_state", "_law_thing", "_law_throw", "_law_good", "_law_sign"] ["_law_state", "_law_thing", "_law_throw"] (defScope s__law_due) := ⟨rfl, rfl, rfl, by decide +kernel, rfl, by decide +kernel, by decide +kernel⟩
theorem sc__law_kept : FnScope ["_law_state", "_law_thing", "_law_throw"] ["_law_state", "_law_thing", "_law_throw"] (defScope s__law_kept) := ⟨rfl, rfl, rfl, by decide +kernel, rfl, by decide +kernel, by decide +kernel⟩
theorem sc__law_stands : FnScope ["_law_pot", "_law_state", "_law_found"] ["_law_pot", "_law_state"] (defScope s__law_stands) := ⟨rfl, rfl, rfl, by decide +kernel, rfl, by decide +kernel, by decide +kernel⟩
theorem sc__law_deed : FnScope ["_law_pot", "_law_state", "_law_cell", "_law_digits", "_law_name_here", "_law_throw", "_law_way", "_law_part", "_law_thing", "_law_bare", "_law_due_here"] ["_law_pot", "_law_state", "_law_cell", "_law_digits"] (defScope s__law_deed) := ⟨rfl, rfl, rfl, by decide +kernel, rfl, by decide +kernel, by decide +kernel⟩
theorem sc__law_no_pot : FnScope ["_law_thing", "_law_refused"] ["_law_thing"] (defScope s__law_no_pot) := ⟨rfl, rfl, rfl, by decide +kernel, rfl, by decide +kernel, by decide +kernel⟩
theorem sc_law : FnScope ["_law_script", "_law_digits", "_law_most", "_law_full", "_law_early", "_law_bad_here", "_law_state", "_law_pot", "_law_other", "_law_k", "_law_cell"] ["_law_script"] (defScope s_law) := ⟨rfl, rfl, rfl, by decide +kernel, rfl, by decide +kernel, by decide +kernel⟩
/-- what the top has written -/
structure Txt (K : PySem.W.Frag) (mg : Str → Option Value) : Prop where
  n_bool : mg "bool" = none
  n_int : mg "int" = none
  n_isinstance : mg "isinstance" = none
  n_len : mg "len" = none
  n_str : mg "str" = none
  g_LETTERS : ∃ u, mg "LETTERS" = some u ∧ RelV (.str "abcdefghijklmnopqrstuvwxyz") u
  g_MOST_KEPT : ∃ u, mg "MOST_KEPT" = some u ∧ RelV (.int 24) u
  m_NoThing : mg "NoThing" = some (.ref (cA mg "NoThing"))
  x_NoThing : ExcAt K (cA mg "NoThing")
  m_Pot : mg "Pot" = some (.ref (cA mg "Pot"))
  k_Pot : Cls K (cA mg "Pot")
  na_Pot_most : NoAttr K (cA mg "Pot") "most"
  na_Pot_passed : NoAttr K (cA mg "Pot") "passed"
  na_Pot_inner : NoAttr K (cA mg "Pot") "inner"
  m_SpeakError : mg "SpeakError" = some (.ref (cA mg "SpeakError"))
  b_SpeakError : BaseI K (cA mg "SpeakError")
  m_NoThrow : mg "NoThrow" = some (.ref (cA mg "NoThrow"))
  o_NoThrow : OexC K (cA mg "NoThrow")
  na_NoThrow_place : PySem.W.findIn K (.ref (cA mg "NoThrow")) "place" = some none
  g_MOST_COMING : ∃ u, mg "MOST_COMING" = some u ∧ RelV (.int 300) u
  m_TooMany : mg "TooMany" = some (.ref (cA mg "TooMany"))
  x_TooMany : ExcAt K (cA mg "TooMany")
  n_list : mg "list" = none
  n_enumerate : mg "enumerate" = none
  n_range : mg "range" = none
  y_NoThing : ExcK K (cA mg "NoThing")
  y_NoThrow : ExcK K (cA mg "NoThrow")
  y_TooMany : ExcK K (cA mg "TooMany")
  z_NoThrow : L2.ExcC K (cA mg "NoThrow")
  n_min : mg "min" = none
  e_NoThing_NoThing : PySem.W.subIn K (.ref (cA mg "NoThing")) (.ref (cA mg "NoThing")) = some true
  e_TooMany_NoThing : PySem.W.subIn K (.ref (cA mg "TooMany")) (.ref (cA mg "NoThing")) = some false
  e_TooMany_TooMany : PySem.W.subIn K (.ref (cA mg "TooMany")) (.ref (cA mg "TooMany")) = some true
  e_NoThrow_NoThing : PySem.W.subIn K (.ref (cA mg "NoThrow")) (.ref (cA mg "NoThing")) = some false
  e_NoThrow_TooMany : PySem.W.subIn K (.ref (cA mg "NoThrow")) (.ref (cA mg "TooMany")) = some false
  e_NoThrow_NoThrow : PySem.W.subIn K (.ref (cA mg "NoThrow")) (.ref (cA mg "NoThrow")) = some true
  d_is_whole : DefAt K mg "is_whole" s_is_whole ["thing", "low", "high"]
  d_is_name : DefAt K mg "is_name" s_is_name ["thing"]
  d_need_most : DefAt K mg "need_most" s_need_most ["thing"]
  i_Pot : InitAt K (cA mg "Pot") "Pot.__init__" s_Pot___init__ ["self", "most"]
  d_Pot_next_sides : MethAt K (cA mg "Pot") "next_sides" "Pot.next_sides" s_Pot_next_sides ["self"]
  xi_NoThrow : XIniAt K (cA mg "NoThrow") "NoThrow.__init__" s_NoThrow___init__ ["self", "place"]
  d_Pot_come : MethD K (cA mg "Pot") "come" "Pot.come" s_Pot_come ["self", "thing", "throw"] [(.int 0)]
  d_Pot_came : MethAt K (cA mg "Pot") "came" "Pot.came" s_Pot_came ["self"]
  d_Pot_things : MethAt K (cA mg "Pot") "things" "Pot.things" s_Pot_things ["self"]
  d__law_cell_at : DefAt K mg "_law_cell_at" s__law_cell_at ["_law_script", "_law_k"]
  d__law_mix : DefAt K mg "_law_mix" s__law_mix ["_law_cell", "_law_k"]
  d__law_numbers : DefAt K mg "_law_numbers" s__law_numbers ["_law_cell", "_law_digits", "_law_bases"]
  d__law_sides : DefAt K mg "_law_sides" s__law_sides ["_law_state"]
  d__law_bad : DefAt K mg "_law_bad" s__law_bad ["_law_number"]
  d__law_name : DefAt K mg "_law_name" s__law_name ["_law_number"]
  d__law_come : DefAt K mg "_law_come" s__law_come ["_law_pot", "_law_thing", "_law_throw", "_law_bare"]
  d__law_due : DefAt K mg "_law_due" s__law_due ["_law_state", "_law_thing", "_law_throw"]
  d__law_kept : DefAt K mg "_law_kept" s__law_kept ["_law_state", "_law_thing", "_law_throw"]
  d__law_stands : DefAt K mg "_law_stands" s__law_stands ["_law_pot", "_law_state"]
  d__law_deed : DefAt K mg "_law_deed" s__law_deed ["_law_pot", "_law_state", "_law_cell", "_law_digits"]
  d__law_no_pot : DefAt K mg "_law_no_pot" s__law_no_pot ["_law_thing"]
  d_law : DefAt K mg "law" s_law ["_law_script"]
section
variable {P : Program} {w : World} {K : PySem.W.Frag} {mg : Str → Option Value} {base : Heap}
theorem fd_Pot_most (T : Txt K mg) {H : Hp} {a dx : Addr} {fs : List (Str × V)} {v : V} {Q : V → Prop} (h : H a = some (.ins (cA mg "Pot") dx fs)) (l : fs.lookup ("most" : Str) = some v) (q : Q v) : ∃ a1 C dx fs v, V.ref a = V.ref a1 ∧ H a1 = some (.ins C dx fs) ∧ Cls K C ∧ NoAttr K C "most" ∧ fs.lookup ("most" : Str) = some v ∧ Q v := L_fldv h T.k_Pot T.na_Pot_most l q
theorem fg_Pot_most {H : Hp} {a : Addr} {Q : V → Prop} (h : ∃ a1 C dx fs v, V.ref a = V.ref a1 ∧ H a1 = some (.ins C dx fs) ∧ Cls K C ∧ NoAttr K C "most" ∧ fs.lookup ("most" : Str) = some v ∧ Q v) : ∃ a1 C dx fs v, V.ref a = V.ref a1 ∧ H a1 = some (.ins C dx fs) ∧ Cls K C ∧ NoAttr K C "most" ∧ fs.lookup ("most" : Str) = some v ∧ Q v := h
local macro_rules | `(tactic| walk_at "fd") => `(tactic| (with_reducible refine fg_Pot_most ?_; with_reducible refine fd_Pot_most (by assumption) (by walk_at "hp") (by with_unfolding_all rfl) ?_))
theorem fd_Pot_passed (T : Txt K mg) {H : Hp} {a dx : Addr} {fs : List (Str × V)} {v : V} {Q : V → Prop} (h : H a = some (.ins (cA mg "Pot") dx fs)) (l : fs.lookup ("passed" : Str) = some v) (q : Q v) : ∃ a1 C dx fs v, V.ref a = V.ref a1 ∧ H a1 = some (.ins C dx fs) ∧ Cls K C ∧ NoAttr K C "passed" ∧ fs.lookup ("passed" : Str) = some v ∧ Q v := L_fldv h T.k_Pot T.na_Pot_passed l q
theorem fg_Pot_passed {H : Hp} {a : Addr} {Q : V → Prop} (h : ∃ a1 C dx fs v, V.ref a = V.ref a1 ∧ H a1 = some (.ins C dx fs) ∧ Cls K C ∧ NoAttr K C "passed" ∧ fs.lookup ("passed" : Str) = some v ∧ Q v) : ∃ a1 C dx fs v, V.ref a = V.ref a1 ∧ H a1 = some (.ins C dx fs) ∧ Cls K C ∧ NoAttr K C "passed" ∧ fs.lookup ("passed" : Str) = some v ∧ Q v := h
local macro_rules | `(tactic| walk_at "fd") => `(tactic| (with_reducible refine fg_Pot_passed ?_; with_reducible refine fd_Pot_passed (by assumption) (by walk_at "hp") (by with_unfolding_all rfl) ?_))
theorem fd_Pot_inner (T : Txt K mg) {H : Hp} {a dx : Addr} {fs : List (Str × V)} {v : V} {Q : V → Prop} (h : H a = some (.ins (cA mg "Pot") dx fs)) (l : fs.lookup ("inner" : Str) = some v) (q : Q v) : ∃ a1 C dx fs v, V.ref a = V.ref a1 ∧ H a1 = some (.ins C dx fs) ∧ Cls K C ∧ NoAttr K C "inner" ∧ fs.lookup ("inner" : Str) = some v ∧ Q v := L_fldv h T.k_Pot T.na_Pot_inner l q
theorem fg_Pot_inner {H : Hp} {a : Addr} {Q : V → Prop} (h : ∃ a1 C dx fs v, V.ref a = V.ref a1 ∧ H a1 = some (.ins C dx fs) ∧ Cls K C ∧ NoAttr K C "inner" ∧ fs.lookup ("inner" : Str) = some v ∧ Q v) : ∃ a1 C dx fs v, V.ref a = V.ref a1 ∧ H a1 = some (.ins C dx fs) ∧ Cls K C ∧ NoAttr K C "inner" ∧ fs.lookup ("inner" : Str) = some v ∧ Q v := h
local macro_rules | `(tactic| walk_at "fd") => `(tactic| (with_reducible refine fg_Pot_inner ?_; with_reducible refine fd_Pot_inner (by assumption) (by walk_at "hp") (by with_unfolding_all rfl) ?_))
def sp_is_whole (K : PySem.W.Frag) (mg : Str → Option Value) : Sp := fun vs H Q _ => match vs with | [v, .int lo, .int hi] => (∃ t, v = .int t ∧ Q (.bl (decide (lo ≤ t) && decide (t ≤ hi))) H) ∨ (NotW K H v ∧ Q (.bl false) H) | _ => False
theorem c_is_whole (T : Txt K mg) : Cal P w K mg base 1 "is_whole" (sp_is_whole K mg) := by
  refine T.d_is_whole.cal (k := 0) sc_is_whole (by intro vs H Q E h; unfold sp_is_whole at h; split at h <;> first | rfl | exact h.elim) fun f cdv A outer s H vs Q E hr h => ?_
  refine ⟨_, (pss_cons (ps_if (PW.pt (pw_or (pt_not (pt_val (pe_callB call_isi (by rfl) T.n_isinstance (by decide +kernel) (pa_cons (pv 0) (pa_cons (pe_ty "int" (by rfl) T.n_int (by decide +kernel)) pa_nil))))) (pw_or1 (pt_val (pe_callB call_isi (by rfl) T.n_isinstance (by decide +kernel) (pa_cons (pv 0) (pa_cons (pe_ty "bool" (by rfl) T.n_bool (by decide +kernel)) pa_nil)))))))
    (pss_one (ps_ret pe_bl))
    pss_nil)
    (pss_one (ps_ret (pe_chain op_leA op_leA (pv 1) (pv 0) (pv 2))))), ?_⟩
  try simp only [cxOf_K, cxOf_K', cxOf_mg, cxOf_mg']
  unfold sp_is_whole at h
  split at h
  case h_2 => exact h.elim
  rename_i v lo hi
  rw [show L2.start ["thing", "low", "high"] [v, V.int lo, V.int hi] = [some (v), some (V.int lo), some (V.int hi)] from rfl]
  rcases h with ⟨t, rfl, q⟩ | ⟨⟨b, rfl⟩ | ⟨ty, h1, h2⟩, q⟩
  · walk_at "sa"
    refine L_d (fun c1 => ?_) (fun c1 => ?_)
    · rw [decide_eq_true c1, Bool.true_and] at q
      walk_at "sts"
      exact q
    · rw [decide_eq_false c1, Bool.false_and] at q
      exact q
  · walk_at "sts"
    refine L_isi (.base (.bl b)) (b := true) (by decide +kernel) ?_
    walk_at "sts"
    refine L_isi (.base (.bl b)) (b := true) (by decide +kernel) ?_
    walk_at "sts"
    exact q
  · walk_at "sts"
    refine L_isi h1 h2 ?_
    walk_at "sts"
    exact q
theorem q_whole {H : Hp} {Q : VK} {E : XK} {t lo hi : Int} (q : Q (.bl (decide (lo ≤ t) && decide (t ≤ hi))) H) : sp_is_whole K mg [.int t, .int lo, .int hi] H Q E := .inl ⟨t, rfl, q⟩
theorem q_wholeT {H : Hp} {Q : VK} {E : XK} {t lo hi : Int} (h : lo ≤ t ∧ t ≤ hi) (q : Q (.bl true) H) : sp_is_whole K mg [.int t, .int lo, .int hi] H Q E := q_whole (by rw [decide_eq_true h.1, decide_eq_true h.2]; exact q)
theorem q_wholeF {H : Hp} {Q : VK} {E : XK} {t lo hi : Int} (h : ¬ (lo ≤ t ∧ t ≤ hi)) (q : Q (.bl false) H) : sp_is_whole K mg [.int t, .int lo, .int hi] H Q E := q_whole (by
  rw [show (decide (lo ≤ t) && decide (t ≤ hi)) = false by simp only [Bool.and_eq_false_iff, decide_eq_false_iff_not]; omega]; exact q)
theorem q_wholeN {H : Hp} {Q : VK} {E : XK} {v : V} {lo hi : Int} (h : NotW K H v) (q : Q (.bl false) H) : sp_is_whole K mg [v, .int lo, .int hi] H Q E := .inr ⟨h, q⟩
theorem q_wholeB {H : Hp} {Q : VK} {E : XK} {v : V} {lo hi : Int} (h : BadW K H v lo hi) (q : Q (.bl false) H) : sp_is_whole K mg [v, .int lo, .int hi] H Q E := by
  rcases h with h | ⟨t, rfl, h⟩
  · exact q_wholeN h q
  · exact q_wholeF h q
theorem q_wholeG {H : Hp} {Q : VK} {E : XK} {t lo hi : Int} (h : sp_is_whole K mg [.int t, .int lo, .int hi] H Q E) : sp_is_whole K mg [.int t, .int lo, .int hi] H Q E := h
local macro_rules | `(tactic| walk_at "op") => `(tactic| with_reducible (refine q_wholeG ?_; first | refine q_wholeT (by omega) ?_ | refine q_wholeF (by omega) ?_ | refine q_whole ?_))
/-- a name: one to eight small letters -/
def isName (z : Str) : Bool := decide (1 ≤ z.length ∧ z.length ≤ 8) && z.cps.toList.all fun c => decide (97 ≤ c ∧ c ≤ 122)
theorem letters_is : (Str.ofString "abcdefghijklmnopqrstuvwxyz").cps.toList = List.range' 97 26 := by decide +kernel
theorem mem_letters {c : Nat} : c ∈ (Str.ofString "abcdefghijklmnopqrstuvwxyz").cps.toList ↔ 97 ≤ c ∧ c ≤ 122 := by
  rw [letters_is, List.mem_range'_1]
  omega
def sp_is_name (K : PySem.W.Frag) (mg : Str → Option Value) : Sp := fun vs H Q _ => match vs with | [v] => (∃ z : Str, v = .str z ∧ z.length ≤ 1000000 ∧ Q (.bl (isName z)) H) ∨ (NotS K H v ∧ Q (.bl false) H) | _ => False
theorem c_is_name (T : Txt K mg) : Cal P w K mg base 1 "is_name" (sp_is_name K mg) := by
  refine T.d_is_name.cal (k := 0) sc_is_name (by intro vs H Q E h; unfold sp_is_name at h; split at h <;> first | rfl | exact h.elim) fun f cdv A outer s H vs Q E hr h => ?_
  refine ⟨_, (pss_cons (ps_if (PW.pt (pw_or (pt_not (pt_val (pe_callB call_isi (by rfl) T.n_isinstance (by decide +kernel) (pa_cons (pv 0) (pa_cons (pe_ty "str" (by rfl) T.n_str (by decide +kernel)) pa_nil))))) (pw_or1 (pt_not (pt_chain op_leA op_leA pe_int (pe_callB call_lenA (by rfl) T.n_len (by decide +kernel) (pa_cons (pv 0) pa_nil)) pe_int)))))
    (pss_one (ps_ret pe_bl))
    pss_nil)
    (pss_cons (ps_for PassesOwn.never rfl (pi_str (pv 0)) (pg_name (i := 1) sc_is_name.nd rfl (.inl rfl))
    (pss_one (ps_if (pt_cmpR op_notInA (pv 1) (pe_gc (by rfl) T.g_LETTERS) (by rfl))
    (pss_one (ps_ret pe_bl))
    pss_nil)))
    (pss_one (ps_ret pe_bl)))), ?_⟩
  try simp only [cxOf_K, cxOf_K', cxOf_mg, cxOf_mg']
  unfold sp_is_name at h
  split at h
  case h_2 => exact h.elim
  rename_i v
  rw [show L2.start ["thing", "sign"] [v] = [some (v), none] from rfl]
  rcases h with ⟨z, rfl, hz, q⟩ | ⟨⟨ty, h1, h2⟩, q⟩
  · unfold isName at q
    walk_at "sts"
    refine L_isi (.base (.str z)) (b := true) (by decide +kernel) ?_
    walk_at "sts"
    refine L_lenS (sz_dec hz) ?_
    walk_at "sts"
    refine L_d (fun c1 => ?_) (fun c1 => ?_)
    · walk_at "sts"
      refine L_nd (fun c2 => ?_) (fun c2 => ?_)
      · rw [decide_eq_false (show ¬ (1 ≤ z.length ∧ z.length ≤ 8) by omega), Bool.false_and] at q
        walk_at "sts"
        exact q
      · rw [decide_eq_true (show (1 ≤ z.length ∧ z.length ≤ 8) by omega), Bool.true_and] at q
        walk_at "sts"
        refine L_rs ?_
        refine f_it walk_str (fun i σ' H' => (∃ v, σ' = [some (.str z), v]) ∧ H' = H ∧ (z.cps.toList.take i).all (fun c => decide (97 ≤ c ∧ c ≤ 122)) = true) ⟨⟨_, rfl⟩, rfl, rfl⟩ (fun _ _ _ _ _ => True.intro) ?_ ?_
        · rintro i x σ' H' H'' hi ⟨⟨v, rfl⟩, rfl, hall⟩ ⟨rfl, c, hc, rfl⟩
          have hc' : z.cps.toList[i]? = some c := by rw [Array.getElem?_toList]; exact hc
          walk_at "sts"
          refine L_nd (fun c3 => ?_) (fun c3 => ?_)
          · walk_at "sts"
            rw [show (z.cps.toList.all fun c => decide (97 ≤ c ∧ c ≤ 122)) = false from ?_] at q
            · exact q
            · rw [List.all_eq_false]
              exact ⟨c, List.mem_of_getElem? hc', by simpa using fun h => Nat.lt_of_not_le fun h' => c3 (mem_letters.mpr ⟨h, h'⟩)⟩
          · walk_at "sts"
            refine ⟨⟨_, rfl⟩, rfl, ?_⟩
            rw [List.take_succ, hc', List.all_append, hall]
            simpa using mem_letters.mp c3
        · rintro σ' H' ⟨⟨v, rfl⟩, rfl, hall⟩
          rw [List.take_of_length_le (by rw [Array.length_toList]; exact Nat.le_refl _)] at hall
          rw [hall] at q
          walk_at "sts"
          exact q
    · rw [decide_eq_false (show ¬ (1 ≤ z.length ∧ z.length ≤ 8) by omega), Bool.false_and] at q
      walk_at "sts"
      exact q
  · walk_at "sts"
    refine L_isi h1 h2 ?_
    walk_at "sts"
    exact q
theorem q_nameS {H : Hp} {Q : VK} {E : XK} {z : Str} (h : z.length ≤ 1000000) (q : Q (.bl (isName z)) H) : sp_is_name K mg [.str z] H Q E := .inl ⟨z, rfl, h, q⟩
theorem q_nameN {H : Hp} {Q : VK} {E : XK} {v : V} (h : NotS K H v) (q : Q (.bl false) H) : sp_is_name K mg [v] H Q E := .inr ⟨h, q⟩
/-- a Pot's fields -/
def poF (most passed : Int) (pl : Addr) : List (Str × V) := [("most", .int most), ("passed", .int passed), ("inner", .ref pl)]
/-- a pot at x, its things at pl -/
structure PotAt (mg : Str → Option Value) (H : Hp) (x dx pl : Addr) (most passed : Int) (us : List V) : Prop where
  hx : H x = some (.ins (cA mg "Pot") dx (poF most passed pl))
  hl : H pl = some (.lst us)
  m : 1 ≤ most ∧ most ≤ 24
  p : 0 ≤ passed ∧ passed ≤ 300
  len : (us.length : Int) = min passed most
theorem PotAt.same {mg : Str → Option Value} {H H' : Hp} {x dx pl : Addr} {most passed : Int} {us : List V} (h : PotAt mg H x dx pl most passed us) (s : Same H H') : PotAt mg H' x dx pl most passed us := ⟨s _ _ h.hx, s _ _ h.hl, h.m, h.p, h.len⟩
theorem PotAt.ne {mg : Str → Option Value} {H : Hp} {x dx pl : Addr} {most passed : Int} {us : List V} (h : PotAt mg H x dx pl most passed us) : pl ≠ x := fun z => by
  have := h.hl
  rw [z, h.hx] at this
  cases this
def sidesOf (most passed : Int) : Int := if passed < most then 1 else passed + 1
theorem sides_b {most passed : Int} (h : 0 ≤ passed ∧ passed ≤ 300) : 1 ≤ sidesOf most passed ∧ sidesOf most passed ≤ 301 := by
  unfold sidesOf
  split <;> omega
/-- what a pot keeps behind a thing with its throw -/
def keptV (most passed : Int) (us : List V) (v : V) (t : Int) : List V := if passed < most then us ++ [v] else if t < most then us.set t.toNat v else us
theorem kept_len {most passed t : Int} {us : List V} {v : V} (hm : 1 ≤ most) (h : (us.length : Int) = min passed most) : ((keptV most passed us v t).length : Int) = min (passed + 1) most := by
  unfold keptV
  split
  · rw [List.length_append, List.length_singleton]; omega
  · split
    · rw [List.length_set]; omega
    · omega
def sp_need_most (K : PySem.W.Frag) (mg : Str → Option Value) : Sp := fun vs H Q E => match vs with | [v] => (∃ t, v = .int t ∧ 1 ≤ t ∧ t ≤ 24 ∧ Q .non H) ∨ (BadW K H v 1 24 ∧ E (.ref (cA mg "NoThing")) none H) | _ => False
theorem c_need_most (T : Txt K mg) : CalX P w K mg base 2 "need_most" (sp_need_most K mg) := by
  refine T.d_need_most.calX (k := 1) sc_need_most (by intro vs H Q E h; unfold sp_need_most at h; split at h <;> first | rfl | exact h.elim) fun f cdv A outer s H vs Q E hr h => ?_
  refine ⟨_, (pss_one (ps_if (pt_not (pt_val (pe_c (c_is_whole T) hr (by decide) (by rfl) (pa_cons (pv 0) (pa_cons pe_int (pa_cons (pe_gc (by rfl) T.g_MOST_KEPT) pa_nil))))))
    (pss_one (ps_raise rfl (takes_of rfl rfl rfl rfl) (pmk_own0 T.x_NoThing T.m_NoThing (by rfl))))
    pss_nil)), ?_⟩
  try simp only [cxOf_K, cxOf_K', cxOf_mg, cxOf_mg']
  unfold sp_need_most at h
  split at h
  case h_2 => exact h.elim
  rename_i v
  rw [show L2.start ["thing"] [v] = [some (v)] from rfl]
  rcases h with ⟨t, rfl, h1, h2, q⟩ | ⟨hb, q⟩
  · walk_at "sts"
    exact q
  · walk_at "sts"
    refine q_wholeB hb ?_
    walk_at "sts"
    exact q
def sp_Pot___init__ (K : PySem.W.Frag) (mg : Str → Option Value) : Sp := fun vs H Q E => match vs with | [.ref x, v] => ∃ dx, H x = some (.ins (cA mg "Pot") dx []) ∧ ((BadW K H v 1 24 ∧ E (.ref (cA mg "NoThing")) none H) ∨ ∃ t, v = .int t ∧ 1 ≤ t ∧ t ≤ 24 ∧ ∀ pl H', H pl = none → (∀ b o, H b = some o → b ≠ x → H' b = some o) → PotAt mg H' x dx pl t 0 [] → Q .non H') | _ => False
theorem m_Pot (T : Txt K mg) : MakX P w K mg base 3 "Pot" (cA mg "Pot") (sp_Pot___init__ K mg) := by
  refine InitAt.makX T.m_Pot T.i_Pot (k := 2) sc_Pot___init__ (by intro vs H Q E h; unfold sp_Pot___init__ at h; split at h <;> first | rfl | exact h.elim) fun f cdv A outer s H vs Q E hr h => ?_
  refine ⟨_, (pss_cons (ps_expr (pe_xS (c_need_most T) hr (by decide) (by rfl) (fun σ => passAt (takes_of rfl rfl rfl rfl) σ) (pa_cons (pv 1) pa_nil)))
    (pss_cons (ps_fld (pv 0) (pv 1) rfl)
    (pss_cons (ps_fld (pv 0) pe_int rfl)
    (pss_one (ps_fld (pv 0) (pe_lst pa_nil) rfl))))), ?_⟩
  try simp only [cxOf_K, cxOf_K', cxOf_mg, cxOf_mg']
  unfold sp_Pot___init__ at h
  split at h
  case h_2 => exact h.elim
  rename_i x v
  rw [show L2.start ["self", "most"] [V.ref x, v] = [some (V.ref x), some (v)] from rfl]
  obtain ⟨dx, hx, ⟨hb, q⟩ | ⟨t, rfl, h1, h2, q⟩⟩ := h
  · walk_at "sts"
    exact .inr ⟨hb, q⟩
  · walk_at "sts"
    refine .inl ⟨t, rfl, h1, h2, ?_⟩
    walk_at "sts"
    refine L_sFldv hx T.k_Pot T.na_Pot_most (by decide) ?_
    walk_at "sts"
    refine L_sFldv upd_same T.k_Pot T.na_Pot_passed (by show 1 < 1000; decide) ?_
    rw [L2.upd_upd]
    walk_at "sts"
    walk_at "nw"
    rename_i pl hpl H1 s1 e1
    walk_at "sts"
    have npl : pl ≠ x := ne_new hpl ⟨_, upd_same⟩
    have hx1 := s1 _ _ (upd_same (H := H) (a := x))
    refine L_sFldv hx1 T.k_Pot T.na_Pot_inner (by show 2 < 1000; decide) ?_
    refine q pl _ (by rw [upd_ne npl] at hpl; exact hpl) (fun b o hb ne => by rw [upd_ne ne]; exact s1 _ _ (by rw [upd_ne ne]; exact hb)) ⟨by rw [upd_same]; rfl, by rw [upd_ne npl]; exact e1, ⟨h1, h2⟩, ⟨by decide, by decide⟩, ?_⟩
    show ((0 : Nat) : Int) = min 0 t
    omega
def sp_Pot_next_sides (K : PySem.W.Frag) (mg : Str → Option Value) : Sp := fun vs H Q _ => match vs with | [.ref x] => ∃ dx pl most passed us, PotAt mg H x dx pl most passed us ∧ Q (.int (sidesOf most passed)) H | _ => False
theorem q_Pot_next_sides {H : Hp} {Q : VK} {E : XK} {x : Addr} (q : ∃ dx pl most passed us, PotAt mg H x dx pl most passed us ∧ Q (.int (sidesOf most passed)) H) : sp_Pot_next_sides K mg [.ref x] H Q E := q
local macro_rules | `(tactic| walk_at "op") => `(tactic| with_reducible refine q_Pot_next_sides ?_)
theorem c_Pot_next_sides (T : Txt K mg) : Met P w K mg base 1 (cA mg "Pot") "next_sides" (sp_Pot_next_sides K mg) := by
  refine MethAt.met T.k_Pot T.d_Pot_next_sides (k := 0) sc_Pot_next_sides (by intro vs H Q E h; unfold sp_Pot_next_sides at h; split at h <;> first | rfl | exact h.elim) fun f cdv A outer s H vs Q E hr h => ?_
  refine ⟨_, (pss_cons (ps_if (pt_cmpR op_ltA (pe_fld (pv 0) rfl) (pe_fld (pv 0) rfl) (nomark _))
    (pss_one (ps_ret pe_int))
    pss_nil)
    (pss_one (ps_ret (pe_op op_addA (pe_fld (pv 0) rfl) pe_int)))), ?_⟩
  try simp only [cxOf_K, cxOf_K', cxOf_mg, cxOf_mg']
  unfold sp_Pot_next_sides at h
  split at h
  case h_2 => exact h.elim
  rename_i x
  rw [show L2.start ["self"] [V.ref x] = [some (V.ref x)] from rfl]
  obtain ⟨dx, pl, most, passed, us, hp, q⟩ := h
  have hx := hp.hx
  unfold sidesOf at q
  walk_at "sa"
  refine L_d (fun c => ?_) (fun c => ?_)
  · rw [if_pos c] at q
    walk_at "sts"
    exact q
  · rw [if_neg c] at q
    walk_at "sa"
    exact q
def sp_NoThrow___init__ (K : PySem.W.Frag) (mg : Str → Option Value) : Sp := fun vs H Q _ => match vs with | [.ref a, v] => XIni1 (cA mg "NoThrow") "place" a v H Q | _ => False
theorem q_NoThrow___init__ {H : Hp} {Q : VK} {E : XK} {a : Addr} {v : V} (q : XIni1 (cA mg "NoThrow") "place" a v H Q) : sp_NoThrow___init__ K mg [.ref a, v] H Q E := q
local macro_rules | `(tactic| walk_at "op") => `(tactic| with_reducible refine q_NoThrow___init__ ?_)
theorem x_NoThrow (T : Txt K mg) : XMak P w K mg base 1 "NoThrow" (cA mg "NoThrow") (sp_NoThrow___init__ K mg) := by
  refine XIniAt.xmak T.m_NoThrow T.xi_NoThrow (k := 0) sc_NoThrow___init__ (by intro vs H Q E h; unfold sp_NoThrow___init__ at h; split at h <;> first | rfl | exact h.elim) fun f cdv A outer s H vs Q E hr h => ?_
  refine ⟨_, (pss_cons (ps_expr (pe_baseI (by rfl) T.m_SpeakError T.b_SpeakError (pa_cons (pv 0) (pa_cons pe_str pa_nil))))
    (pss_one (ps_ost (pv 0) (pv 1) rfl))), ?_⟩
  try simp only [cxOf_K, cxOf_K', cxOf_mg, cxOf_mg']
  unfold sp_NoThrow___init__ at h
  split at h
  case h_2 => exact h.elim
  rename_i a v
  rw [show L2.start ["self", "place"] [V.ref a, v] = [some (V.ref a), some (v)] from rfl]
  obtain ⟨ha, q⟩ := h
  walk_at "sts"
  refine L_tveI ?_
  walk_at "sts"
  refine L_veI T.o_NoThrow ha (by rw [List.length_singleton]; decide) ?_
  walk_at "sts"
  refine L_ost ?_
  walk_at "sts"
  refine L_ost1 T.o_NoThrow T.na_NoThrow_place ha fun dx nx ne => ?_
  exact q dx nx ne
theorem q_noThrow {H : Hp} {E : XK} {i : Int} (q : ∀ d H', Same H H' → H' d = some (.xd [("place", .int i)]) → E (.ref (cA mg "NoThrow")) (some d) H') : [V.int i].length ≤ 1000 ∧ ∀ a, H a = none → sp_NoThrow___init__ K mg (.ref a :: ([V.int i] ++ [])) (upd H a (exo a (cA mg "NoThrow") none))
  (fun v H2 => v = .non ∧ ∃ (d : Addr) (fs : List (Str × V)), H2 a = some (exo a (cA mg "NoThrow") (some d)) ∧ H2 d = some (exd d fs) ∧ H d = none ∧ E (.ref (cA mg "NoThrow")) (some d) (upd (del H2 a) d (.xd fs))) (fun _ _ _ => False) :=
  L_mkO1 (fun _ _ _ _ h => h) fun d nd => q d _ (same_new nd) upd_same
/-- a thing: a name, or none; a throw: one of hi + 1, or none -/
def ThJ (K : PySem.W.Frag) (H : Hp) (v : V) (o : Option Str) : Prop := match o with
  | some z => v = .str z ∧ z.length ≤ 1000 ∧ isName z = true
  | none => NotS K H v ∨ ∃ z, v = .str z ∧ z.length ≤ 1000 ∧ isName z = false ∧ PyData.strOk z = true
theorem ThJ.same {K : PySem.W.Frag} {H H' : Hp} {v : V} {o : Option Str} (h : ThJ K H v o) (s : Same H H') : ThJ K H' v o := by
  cases o with
  | some z => exact h
  | none => exact h.imp (fun h => h.same s) id
/-- no whole number, known by bool and int -/
def NotW2 (K : PySem.W.Frag) (H : Hp) (v : V) : Prop := (∃ b, v = .bl b) ∨ ∃ a, TyX K H v (.type a) ∧ kitB a "int" = some false ∧ kitB a "bool" = some false
theorem NotW2.bad1 {K : PySem.W.Frag} {H : Hp} {v : V} (h : NotW2 K H v) : NotW K H v := h.imp id fun ⟨a, h1, h2, _⟩ => ⟨a, h1, h2⟩
theorem NotW2.same {K : PySem.W.Frag} {H H' : Hp} {v : V} (h : NotW2 K H v) (s : Same H H') : NotW2 K H' v := h.imp id fun ⟨a, h1, h2⟩ => ⟨a, TyX_same s h1, h2⟩
theorem n2_non {K : PySem.W.Frag} {H : Hp} : NotW2 K H .non := .inr ⟨_, .base .non, by decide +kernel, by decide +kernel⟩
theorem n2_bl {K : PySem.W.Frag} {H : Hp} {b : Bool} : NotW2 K H (.bl b) := .inl ⟨b, rfl⟩
theorem n2_str {K : PySem.W.Frag} {H : Hp} {z : Str} : NotW2 K H (.str z) := .inr ⟨_, .base (.str z), by decide +kernel, by decide +kernel⟩
theorem n2_lst {K : PySem.W.Frag} {H : Hp} {a : Addr} {xs : List V} (h : H a = some (.lst xs)) : NotW2 K H (.ref a) := .inr ⟨_, .base (.lst h), by decide +kernel, by decide +kernel⟩
theorem n2_tup {K : PySem.W.Frag} {H : Hp} {a : Addr} {xs : List V} (h : H a = some (.tup xs)) : NotW2 K H (.ref a) := .inr ⟨_, .base (.tup h), by decide +kernel, by decide +kernel⟩
theorem n2_dK {K : PySem.W.Frag} {H : Hp} {a : Addr} {xs : List (Key × V)} (h : H a = some (.dK xs)) : NotW2 K H (.ref a) := .inr ⟨_, .base (.dK h), by decide +kernel, by decide +kernel⟩
def TwJ (K : PySem.W.Frag) (H : Hp) (w : V) (hi : Int) (o : Option Int) : Prop := match o with
  | some t => w = .int t ∧ 0 ≤ t ∧ t ≤ hi
  | none => NotW2 K H w ∨ ∃ t, w = .int t ∧ ¬ (0 ≤ t ∧ t ≤ hi)
theorem TwJ.bad {K : PySem.W.Frag} {H : Hp} {w : V} {hi : Int} (h : TwJ K H w hi none) : BadW K H w 0 hi := (show NotW2 K H w ∨ ∃ t, w = .int t ∧ ¬ (0 ≤ t ∧ t ≤ hi) from h).imp NotW2.bad1 id
theorem TwJ.same {K : PySem.W.Frag} {H H' : Hp} {w : V} {hi : Int} {o : Option Int} (h : TwJ K H w hi o) (s : Same H H') : TwJ K H' w hi o := by
  cases o with
  | some t => exact h
  | none => exact (show NotW2 K H w ∨ ∃ t, w = .int t ∧ ¬ (0 ≤ t ∧ t ≤ hi) from h).imp (fun h => h.same s) id
/-- what becomes of a thing that comes -/
inductive Come | thing | many | throw | good (z : Str) (t : Int)
def comeOf (o : Option Str) (passed : Int) (w : Option Int) : Come := match o with
  | none => .thing
  | some z => if 300 ≤ passed then .many else match w with
    | none => .throw
    | some t => .good z t
def sp_Pot_come (K : PySem.W.Frag) (mg : Str → Option Value) : Sp := fun vs H Q E => match vs with | [.ref x, v, w] => ∃ dx pl most passed us o t, PotAt mg H x dx pl most passed us ∧ ThJ K H v o ∧ TwJ K H w (sidesOf most passed - 1) t ∧ (match comeOf o passed t with | .thing => E (.ref (cA mg "NoThing")) none H | .many => E (.ref (cA mg "TooMany")) none H | .throw => ∀ d H', Same H H' → H' d = some (.xd [("place", .int 0)]) → E (.ref (cA mg "NoThrow")) (some d) H' | .good z t => ∀ H', (∀ b o, H b = some o → b ≠ x → b ≠ pl → H' b = some o) → PotAt mg H' x dx pl most (passed + 1) (keptV most passed us (.str z) t) → Q .non H') | _ => False
theorem c_Pot_come (T : Txt K mg) : MetXD P w K mg base 3 (cA mg "Pot") "come" (sp_Pot_come K mg) [(.int 0)] := by
  refine MethD.metXD T.k_Pot T.d_Pot_come (k := 2) sc_Pot_come (by intro vs H Q E h; unfold sp_Pot_come at h; split at h <;> first | rfl | exact h.elim) fun f cdv A outer s H vs Q E hr h => ?_
  refine ⟨_, (pss_cons (ps_if (pt_not (pt_val (pe_c (c_is_name T) hr (by decide) (by rfl) (pa_cons (pv 1) pa_nil))))
    (pss_one (ps_raise rfl (takes_of rfl rfl rfl rfl) (pmk_own0 T.x_NoThing T.m_NoThing (by rfl))))
    pss_nil)
    (pss_cons (ps_if (pt_cmpR op_ge (pe_fld (pv 0) rfl) (pe_gc (by rfl) T.g_MOST_COMING) (nomark _))
    (pss_one (ps_raise rfl (takes_of rfl rfl rfl rfl) (pmk_own0 T.x_TooMany T.m_TooMany (by rfl))))
    pss_nil)
    (pss_cons (ps_if (pt_not (pt_val (pe_c (c_is_whole T) hr (by decide) (by rfl) (pa_cons (pv 2) (pa_cons pe_int (pa_cons (pe_op op_sub (pe_mt0 (c_Pot_next_sides T) hr (by decide) (pv 0)) pe_int) pa_nil))))))
    (pss_one (ps_raise rfl (takes_of rfl rfl rfl rfl) (pmk_x (x_NoThrow T) T.o_NoThrow hr (by decide) (by rfl) (pa_cons pe_int pa_nil))))
    pss_nil)
    (pss_cons (ps_if (pt_cmpR op_ltA (pe_fld (pv 0) rfl) (pe_fld (pv 0) rfl) (nomark _))
    (pss_one (ps_expr (pe_bm PySem.F.plainAttrs_list PySem.F.slot_list_append PySem.F.type_list_append mt_append (pe_fld (pv 0) rfl) (pa_cons (pv 1) pa_nil))))
    (pss_one (ps_if (pt_cmpR op_ltA (pv 2) (pe_fld (pv 0) rfl) (nomark _))
    (pss_one (ps_asg (pv 1) (pg_sub (pe_fld (pv 0) rfl) (pv 2) set_list)))
    pss_nil)))
    (pss_one (ps_fldaug (pv 0) pe_int in_add)))))), ?_⟩
  try simp only [cxOf_K, cxOf_K', cxOf_mg, cxOf_mg']
  unfold sp_Pot_come at h
  split at h
  case h_2 => exact h.elim
  rename_i x v w
  rw [show L2.start ["self", "thing", "throw"] [V.ref x, v, w] = [some (V.ref x), some (v), some (w)] from rfl]
  obtain ⟨dx, pl, most, passed, us, o, t, hp, ho, ht, q⟩ := h
  have hx := hp.hx
  cases o with
  | none =>
    have q : E (.ref (cA mg "NoThing")) none H := q
    walk_at "sts"
    rcases ho with ho | ⟨z, rfl, hz1, hz2, _⟩
    · refine q_nameN ho ?_
      walk_at "sts"
      exact q
    · refine q_nameS (by omega) ?_
      rw [hz2]
      walk_at "sts"
      exact q
  | some z =>
    obtain ⟨rfl, hz1, hz2⟩ := ho
    walk_at "sts"
    refine q_nameS (by omega) ?_
    rw [hz2]
    walk_at "sts"
    walk_at "fd"
    walk_at "sts"
    by_cases c : 300 ≤ passed
    · rw [show comeOf (some z) passed t = .many from if_pos c] at q
      refine L_dT c ?_
      walk_at "sts"
      exact q
    · refine L_dF c ?_
      have hs := sides_b (most := most) hp.p
      walk_at "sts"
      refine L_methv hx rfl ?_
      walk_at "sts"
      refine ⟨dx, pl, most, passed, us, hp, ?_⟩
      cases t with
      | none =>
        walk_at "sts"
        refine q_wholeB ht.bad ?_
        walk_at "sts"
        refine L_mkO ?_
        walk_at "sts"
        rw [show comeOf (some z) passed none = .throw from if_neg c] at q
        exact q_noThrow q
      | some t =>
        obtain ⟨rfl, t0, t1⟩ := ht
        rw [show comeOf (some z) passed (some t) = .good z t from if_neg c] at q
        have hl := hp.hl
        have npl := hp.ne
        have hlen := hp.len
        have hm := hp.m
        walk_at "sts"
        walk_at "fd"
        walk_at "sts"
        walk_at "fd"
        walk_at "sts"
        -- passed goes up by one
        have fin : ∀ us' : List V, us' = keptV most passed us (.str z) t → ∀ H2 : Hp, H2 = upd H pl (.lst us') → sFldAug K (tVar 0) (tC (V.int 1)) rAdd "passed" ⟨fun _ H' => Q .non H', Q, fun _ _ => False, fun _ _ => False⟩ [some (V.ref x), some (V.str z), some (V.int t)] H2 := fun us' e H2 eH => by
          have hx2 : H2 x = some (.ins (cA mg "Pot") dx (poF most passed pl)) := by rw [eH, upd_ne npl.symm]; exact hx
          have hl2 : H2 pl = some (.lst us') := by rw [eH, upd_same]
          refine L_fldaug ?_
          walk_at "sts"
          refine ⟨x, _, dx, _, _, rfl, hx2, T.k_Pot, T.na_Pot_passed, rfl, ?_⟩
          walk_at "sts"
          refine L_rAdd ⟨dx, _, hx2, by show 3 < 1000; decide, ?_⟩
          rw [show putF "passed" (V.int (passed + 1)) (poF most passed pl) = poF most (passed + 1) pl from rfl]
          refine q _ (fun b o hb n1 n2 => by rw [upd_ne n1, eH, upd_ne n2]; exact hb) ⟨upd_same, by rw [upd_ne npl, hl2, e], hm, ⟨by omega, by omega⟩, ?_⟩
          exact kept_len hm.1 hlen
        refine L_d (fun c1 => ?_) (fun c1 => ?_)
        · walk_at "sts"
          walk_at "fd"
          refine L_tyL (.of hl) ?_
          walk_at "sts"
          refine L_app hl (sz_lt (by omega)) ?_
          exact fin _ (by unfold keptV; rw [if_pos c1]) _ rfl
        · walk_at "sts"
          walk_at "fd"
          walk_at "sts"
          refine L_d (fun c2 => ?_) (fun c2 => ?_)
          · walk_at "sts"
            walk_at "fd"
            walk_at "sts"
            refine L_setL hl (ixN_of t0 (by omega)) ?_
            exact fin _ (by unfold keptV; rw [if_neg c1, if_pos c2]) _ rfl
          · walk_at "sts"
            refine fin us (by unfold keptV; rw [if_neg c1, if_neg c2]) _ ?_
            funext b
            by_cases hb : b = pl
            · rw [hb, upd_same, hl]
            · rw [upd_ne hb]
def sp_Pot_came (K : PySem.W.Frag) (mg : Str → Option Value) : Sp := fun vs H Q _ => match vs with | [.ref x] => ∃ dx pl most passed us, PotAt mg H x dx pl most passed us ∧ Q (.int passed) H | _ => False
theorem q_Pot_came {H : Hp} {Q : VK} {E : XK} {x : Addr} (q : ∃ dx pl most passed us, PotAt mg H x dx pl most passed us ∧ Q (.int passed) H) : sp_Pot_came K mg [.ref x] H Q E := q
local macro_rules | `(tactic| walk_at "op") => `(tactic| with_reducible refine q_Pot_came ?_)
theorem c_Pot_came (T : Txt K mg) : Met P w K mg base 1 (cA mg "Pot") "came" (sp_Pot_came K mg) := by
  refine MethAt.met T.k_Pot T.d_Pot_came (k := 0) sc_Pot_came (by intro vs H Q E h; unfold sp_Pot_came at h; split at h <;> first | rfl | exact h.elim) fun f cdv A outer s H vs Q E hr h => ?_
  refine ⟨_, (pss_one (ps_ret (pe_fld (pv 0) rfl))), ?_⟩
  try simp only [cxOf_K, cxOf_K', cxOf_mg, cxOf_mg']
  unfold sp_Pot_came at h
  split at h
  case h_2 => exact h.elim
  rename_i x
  rw [show L2.start ["self"] [V.ref x] = [some (V.ref x)] from rfl]
  obtain ⟨dx, pl, most, passed, us, hp, q⟩ := h
  have hx := hp.hx
  walk_at "sa"
  exact q
def sp_Pot_things (K : PySem.W.Frag) (mg : Str → Option Value) : Sp := fun vs H Q _ => match vs with | [.ref x] => ∃ dx pl most passed us, PotAt mg H x dx pl most passed us ∧ NewL H us Q | _ => False
theorem q_Pot_things {H : Hp} {Q : VK} {E : XK} {x : Addr} (q : ∃ dx pl most passed us, PotAt mg H x dx pl most passed us ∧ NewL H us Q) : sp_Pot_things K mg [.ref x] H Q E := q
local macro_rules | `(tactic| walk_at "op") => `(tactic| with_reducible refine q_Pot_things ?_)
theorem c_Pot_things (T : Txt K mg) : Met P w K mg base 1 (cA mg "Pot") "things" (sp_Pot_things K mg) := by
  refine MethAt.met T.k_Pot T.d_Pot_things (k := 0) sc_Pot_things (by intro vs H Q E h; unfold sp_Pot_things at h; split at h <;> first | rfl | exact h.elim) fun f cdv A outer s H vs Q E hr h => ?_
  refine ⟨_, (pss_one (ps_ret (pe_callTy call_list1A (by rfl) T.n_list (by decide +kernel) (pa_cons (pe_fld (pv 0) rfl) pa_nil)))), ?_⟩
  try simp only [cxOf_K, cxOf_K', cxOf_mg, cxOf_mg']
  unfold sp_Pot_things at h
  split at h
  case h_2 => exact h.elim
  rename_i x
  rw [show L2.start ["self"] [V.ref x] = [some (V.ref x)] from rfl]
  obtain ⟨dx, pl, most, passed, us, hp, q⟩ := h
  have hx := hp.hx
  walk_at "sa"
  refine L_list1 (.of hp.hl) fun l hl => ?_
  exact q.at l hl
/-! the law's mixing of a cell -/
def mix (c k : Int) : Int :=
  let a := (c % 2147483629 + 7919 * k + 101) * 48271 % 2147483647
  let b := a * a % 2147483629
  b * (b + 7) % 2147483587
theorem mix_b (c k : Int) : 0 ≤ mix c k ∧ mix c k < 2147483587 := by
  unfold mix
  exact ⟨Int.emod_nonneg _ (by decide), Int.emod_lt_of_pos _ (by decide)⟩
def sp__law_cell_at (K : PySem.W.Frag) (mg : Str → Option Value) : Sp := fun vs H Q _ => match vs with | [.ref a, .int k] => ∃ ns : List Int, SqL K H a (ns.map V.int) ∧ 0 ≤ k ∧ Q (.int (cellAt ns k 0)) H | _ => False
theorem q__law_cell_at {H : Hp} {Q : VK} {E : XK} {a : Addr} {k : Int} (q : ∃ ns : List Int, SqL K H a (ns.map V.int) ∧ 0 ≤ k ∧ Q (.int (cellAt ns k 0)) H) : sp__law_cell_at K mg [.ref a, .int k] H Q E := q
local macro_rules | `(tactic| walk_at "op") => `(tactic| with_reducible refine q__law_cell_at ?_)
theorem c__law_cell_at (T : Txt K mg) : Cal P w K mg base 1 "_law_cell_at" (sp__law_cell_at K mg) := by
  refine T.d__law_cell_at.cal (k := 0) sc__law_cell_at (by intro vs H Q E h; unfold sp__law_cell_at at h; split at h <;> first | rfl | exact h.elim) fun f cdv A outer s H vs Q E hr h => ?_
  refine ⟨_, (pss_cons (ps_if (pt_cmpR op_ltA (pv 1) (pe_callB call_lenA (by rfl) T.n_len (by decide +kernel) (pa_cons (pv 0) pa_nil)) (nomark _))
    (pss_one (ps_ret (pe_ix ix_seq (pv 0) (pv 1) (fun _ _ => rfl))))
    pss_nil)
    (pss_one (ps_ret pe_int))), ?_⟩
  try simp only [cxOf_K, cxOf_K', cxOf_mg, cxOf_mg']
  unfold sp__law_cell_at at h
  split at h
  case h_2 => exact h.elim
  rename_i a k
  rw [show L2.start ["_law_script", "_law_k"] [V.ref a, V.int k] = [some (V.ref a), some (V.int k)] from rfl]
  obtain ⟨ns, hS, hk, q⟩ := h
  walk_at "sa"
  rw [List.length_map]
  refine L_d (fun c => ?_) (fun c => ?_)
  · walk_at "sts"
    exact L_ixL hS (cellAt_in hk c) q
  · walk_at "sts"
    rw [cellAt_out c] at q
    exact q
def sp__law_mix (K : PySem.W.Frag) (mg : Str → Option Value) : Sp := fun vs H Q _ => match vs with | [.int c, .int k] => 0 ≤ k ∧ k < 1000000 ∧ Q (.int (mix c k)) H | _ => False
theorem q__law_mix {H : Hp} {Q : VK} {E : XK} {c : Int} {k : Int} (q : 0 ≤ k ∧ k < 1000000 ∧ Q (.int (mix c k)) H) : sp__law_mix K mg [.int c, .int k] H Q E := q
local macro_rules | `(tactic| walk_at "op") => `(tactic| with_reducible refine q__law_mix ?_)
theorem c__law_mix (T : Txt K mg) : Cal P w K mg base 1 "_law_mix" (sp__law_mix K mg) := by
  refine T.d__law_mix.cal (k := 0) sc__law_mix (by intro vs H Q E h; unfold sp__law_mix at h; split at h <;> first | rfl | exact h.elim) fun f cdv A outer s H vs Q E hr h => ?_
  refine ⟨_, (pss_cons (ps_set (i := 2) sc__law_mix.nd rfl (.inl rfl) (pe_op op_mod (pe_op op_mulA (pe_op op_addA (pe_op op_addA (pe_op op_mod (pv 0) pe_int) (pe_op op_mulA pe_int (pv 1))) pe_int) pe_int) pe_int))
    (pss_cons (ps_set (i := 2) sc__law_mix.nd rfl (.inl rfl) (pe_op op_mod (pe_op op_mulA (pv 2) (pv 2)) pe_int))
    (pss_one (ps_ret (pe_op op_mod (pe_op op_mulA (pv 2) (pe_op op_addA (pv 2) pe_int)) pe_int))))), ?_⟩
  try simp only [cxOf_K, cxOf_K', cxOf_mg, cxOf_mg']
  unfold sp__law_mix at h
  split at h
  case h_2 => exact h.elim
  rename_i c k
  rw [show L2.start ["_law_cell", "_law_k", "_law_number"] [V.int c, V.int k] = [some (V.int c), some (V.int k), none] from rfl]
  obtain ⟨hk, hk2, q⟩ := h
  walk_at "sa"
  exact q
/-- what the law takes of a cell, base by base -/
def nums (d : Bool) : Int → Nat → List Int → List Int
  | _, _, [] => []
  | c, k, b :: r => if d = true then (c % b) :: nums d (c / b) (k + 1) r else (mix c (3 + (k : Int)) % b) :: nums d c (k + 1) r
theorem nums_len (d : Bool) : ∀ (bs : List Int) (c : Int) (k : Nat), (nums d c k bs).length = bs.length
  | [], _, _ => rfl
  | b :: r, c, k => by
    unfold nums
    split
    · rw [List.length_cons, List.length_cons, nums_len d r]
    · rw [List.length_cons, List.length_cons, nums_len d r]
theorem nums_b (d : Bool) : ∀ (bs : List Int) (c : Int) (k : Nat), (∀ b ∈ bs, 0 < b) → ∀ (i : Nat) (z b : Int), (nums d c k bs)[i]? = some z → bs[i]? = some b → 0 ≤ z ∧ z < b
  | [], _, _, _, i, z, b, h, _ => by simp [nums] at h
  | b :: r, c, k, hb, i, z, b', h, h' => by
    have h0 := hb b (List.mem_cons_self ..)
    have hr : ∀ x ∈ r, 0 < x := fun x hx => hb x (List.mem_cons_of_mem _ hx)
    unfold nums at h
    split at h
    · cases i with
      | zero =>
        simp at h h'
        subst h; subst h'
        exact ⟨Int.emod_nonneg _ (by omega), Int.emod_lt_of_pos _ h0⟩
      | succ i => exact nums_b d r _ _ hr i z b' (by simpa using h) (by simpa using h')
    · cases i with
      | zero =>
        simp at h h'
        subst h; subst h'
        exact ⟨Int.emod_nonneg _ (by omega), Int.emod_lt_of_pos _ h0⟩
      | succ i => exact nums_b d r _ _ hr i z b' (by simpa using h) (by simpa using h')
def sp__law_numbers (K : PySem.W.Frag) (mg : Str → Option Value) : Sp := fun vs H Q _ => match vs with | [.int c, .bl d, .ref l] => ∃ bs : List Int, H l = some (.lst (bs.map V.int)) ∧ bs.length ≤ 1000 ∧ (∀ b ∈ bs, 0 < b ∧ b < 18446744073709551616) ∧ NewL H ((nums d c 0 bs).map V.int) Q | _ => False
theorem q__law_numbers {H : Hp} {Q : VK} {E : XK} {c : Int} {d : Bool} {l : Addr} (q : ∃ bs : List Int, H l = some (.lst (bs.map V.int)) ∧ bs.length ≤ 1000 ∧ (∀ b ∈ bs, 0 < b ∧ b < 18446744073709551616) ∧ NewL H ((nums d c 0 bs).map V.int) Q) : sp__law_numbers K mg [.int c, .bl d, .ref l] H Q E := q
local macro_rules | `(tactic| walk_at "op") => `(tactic| with_reducible refine q__law_numbers ?_)
theorem c__law_numbers (T : Txt K mg) : Cal P w K mg base 2 "_law_numbers" (sp__law_numbers K mg) := by
  refine T.d__law_numbers.cal (k := 1) sc__law_numbers (by intro vs H Q E h; unfold sp__law_numbers at h; split at h <;> first | rfl | exact h.elim) fun f cdv A outer s H vs Q E hr h => ?_
  refine ⟨_, (pss_cons (ps_set (i := 3) sc__law_numbers.nd rfl (.inl rfl) (pe_lst pa_nil))
    (pss_cons (ps_for PassesOwn.never rfl (pi_enum (by rfl) T.n_enumerate (pa_cons (pv 2) pa_nil)) (pg_tup rfl (pgs_cons (pg_name (i := 4) sc__law_numbers.nd rfl (.inl rfl)) (pgs_cons (pg_name (i := 5) sc__law_numbers.nd rfl (.inl rfl)) pgs_nil)))
    (pss_one (ps_if (pt_tru (pv 1) (by intro _; rfl))
    (pss_cons (ps_expr (pe_bm PySem.F.plainAttrs_list PySem.F.slot_list_append PySem.F.type_list_append mt_append (pv 3) (pa_cons (pe_op op_mod (pv 0) (pv 5)) pa_nil)))
    (pss_one (ps_set (i := 0) sc__law_numbers.nd rfl (.inl rfl) (pe_op op_fdivW (pv 0) (pv 5)))))
    (pss_one (ps_expr (pe_bm PySem.F.plainAttrs_list PySem.F.slot_list_append PySem.F.type_list_append mt_append (pv 3) (pa_cons (pe_op op_mod (pe_c (c__law_mix T) hr (by decide) (by rfl) (pa_cons (pv 0) (pa_cons (pe_op op_addA pe_int (pv 4)) pa_nil))) (pv 5)) pa_nil)))))))
    (pss_one (ps_ret (pv 3))))), ?_⟩
  try simp only [cxOf_K, cxOf_K', cxOf_mg, cxOf_mg']
  unfold sp__law_numbers at h
  split at h
  case h_2 => exact h.elim
  rename_i c d l
  rw [show L2.start ["_law_cell", "_law_digits", "_law_bases", "_law_numbers_here", "_law_k", "_law_base"] [V.int c, V.bl d, V.ref l] = [some (V.int c), some (V.bl d), some (V.ref l), none, none, none] from rfl]
  obtain ⟨bs, hl, hb, hp, q⟩ := h
  walk_at "sa"
  refine L_new (by decide) fun p hpn => ?_
  walk_at "sa"
  refine L_re (.of (hp_new hpn hl)) ?_
  refine f_it walk_enum (fun i σ' H' => ∃ (c' : Int) (done : List Int) (v1 v2 : Option V), σ' = [some (.int c'), some (.bl d), some (.ref l), some (.ref p), v1, v2] ∧ Same H H' ∧ H' p = some (.lst (done.map V.int)) ∧ done.length = i ∧ nums d c 0 bs = done ++ nums d c' i (bs.drop i)) ⟨c, [], none, none, rfl, same_new hpn, upd_same, rfl, rfl⟩ (fun i σ' H' _ ⟨_, _, _, _, _, s, _⟩ => .of (s _ _ hl)) ?_ ?_
  · rintro i x σ' H' H'' hi ⟨c', done, v1, v2, rfl, s, hd, hlen, e⟩ ⟨T, k0, b0, rfl, hT, rfl, hk, hbv⟩
    cases hk
    rw [List.length_map] at hi
    replace hbv : (bs.map V.int)[i]? = some b0 := hbv
    rw [List.getElem?_map, List.getElem?_eq_getElem hi] at hbv
    cases hbv
    have hb0 := hp bs[i] (List.getElem_mem hi)
    have e2 : bs.drop i = bs[i] :: bs.drop (i + 1) := List.drop_eq_getElem_cons hi
    refine L_gTup (.of upd_same) rfl ?_
    have s2 := same_upd (o := HO.tup [V.int (i : Int), V.int bs[i]]) s hT
    have hd2 := hp_new (o := HO.tup [V.int (i : Int), V.int bs[i]]) hT hd
    walk_at "sts"
    refine L_b (fun hdt => ?_) (fun hdt => ?_)
    · walk_at "sts"
      refine L_tyL (.of hd2) ?_
      walk_at "sts"
      refine L_I hb0.1 ?_
      walk_at "sts"
      refine L_app hd2 (by rw [List.length_map]; exact sz_lt (by omega)) ?_
      walk_at "sts"
      refine L_I ((bd_64 (by omega)).cdiv hb0.1) ?_
      walk_at "sts"
      refine ⟨c' / bs[i], done ++ [c' % bs[i]], _, _, rfl, fun b o hbo => ?_, by rw [List.map_append]; exact upd_same, by simp [hlen], ?_⟩
      · rw [upd_ne (ne_of_none hbo hpn)]; exact s2 _ _ hbo
      · rw [e, e2, nums, if_pos hdt, List.append_assoc]; rfl
    · walk_at "sts"
      refine L_tyL (.of hd2) ?_
      walk_at "sts"
      refine ⟨by omega, by omega, ?_⟩
      walk_at "sts"
      refine L_I hb0.1 ?_
      walk_at "sts"
      refine L_app hd2 (by rw [List.length_map]; exact sz_lt (by omega)) ?_
      walk_at "sts"
      refine ⟨c', done ++ [mix c' (3 + (i : Int)) % bs[i]], _, _, rfl, fun b o hbo => ?_, by rw [List.map_append]; exact upd_same, by simp [hlen], ?_⟩
      · rw [upd_ne (ne_of_none hbo hpn)]; exact s2 _ _ hbo
      · rw [e, e2, nums, if_neg (by simp [hdt]), List.append_assoc]; rfl
  · rintro σ' H' ⟨c', done, v1, v2, rfl, s, hd, hlen, e⟩
    walk_at "sts"
    rw [List.length_map, List.drop_length, nums, List.append_nil] at e
    rw [← e] at hd
    exact q p H' hpn s hd
/-- the law's plain state -/
def stK (most came : Int) (sl : Addr) : List (Key × V) := [(Sum.inr "most", .int most), (Sum.inr "came", .int came), (Sum.inr "things", .ref sl)]
structure StAt (H : Hp) (d sl : Addr) (most came : Int) (us : List V) : Prop where
  hd : H d = some (.dK (stK most came sl))
  hs : H sl = some (.lst us)
theorem StAt.same {H H' : Hp} {d sl : Addr} {most came : Int} {us : List V} (h : StAt H d sl most came us) (s : Same H H') : StAt H' d sl most came us := ⟨s _ _ h.hd, s _ _ h.hs⟩
theorem StAt.ne {H : Hp} {d sl : Addr} {most came : Int} {us : List V} (h : StAt H d sl most came us) : sl ≠ d := fun z => by
  have := h.hs
  rw [z, h.hd] at this
  cases this
theorem st_most {most came : Int} {sl : Addr} : valV (stK most came sl) (Sum.inr "most" : Key) = some (.int most) := by with_unfolding_all rfl
theorem st_came {most came : Int} {sl : Addr} : valV (stK most came sl) (Sum.inr "came" : Key) = some (.int came) := by with_unfolding_all rfl
theorem st_things {most came : Int} {sl : Addr} : valV (stK most came sl) (Sum.inr "things" : Key) = some (.ref sl) := by with_unfolding_all rfl
theorem st_put {most came c2 : Int} {sl : Addr} : putK (stK most came sl) (Sum.inr "came" : Key) (.int c2) = stK most c2 sl := by with_unfolding_all rfl
def comeW : Come → Str
  | .thing => Str.ofString "thing"
  | .many => Str.ofString "many"
  | .throw => Str.ofString "throw 0"
  | .good _ _ => Str.ofString "good"
def sp__law_sides (K : PySem.W.Frag) (mg : Str → Option Value) : Sp := fun vs H Q _ => match vs with | [.ref d] => ∃ sl most came us, StAt H d sl most came us ∧ Q (.int (sidesOf most came)) H | _ => False
theorem q__law_sides {H : Hp} {Q : VK} {E : XK} {d : Addr} (q : ∃ sl most came us, StAt H d sl most came us ∧ Q (.int (sidesOf most came)) H) : sp__law_sides K mg [.ref d] H Q E := q
local macro_rules | `(tactic| walk_at "op") => `(tactic| with_reducible refine q__law_sides ?_)
theorem c__law_sides (T : Txt K mg) : Cal P w K mg base 1 "_law_sides" (sp__law_sides K mg) := by
  refine T.d__law_sides.cal (k := 0) sc__law_sides (by intro vs H Q E h; unfold sp__law_sides at h; split at h <;> first | rfl | exact h.elim) fun f cdv A outer s H vs Q E hr h => ?_
  refine ⟨_, (pss_cons (ps_if (pt_cmpR op_ltA (pe_dget (hu_of hr) (pv 0) pe_str (fun _ _ => rfl)) (pe_dget (hu_of hr) (pv 0) pe_str (fun _ _ => rfl)) (nomark _))
    (pss_one (ps_ret pe_int))
    pss_nil)
    (pss_one (ps_ret (pe_op op_addA (pe_dget (hu_of hr) (pv 0) pe_str (fun _ _ => rfl)) pe_int)))), ?_⟩
  try simp only [cxOf_K, cxOf_K', cxOf_mg, cxOf_mg']
  unfold sp__law_sides at h
  split at h
  case h_2 => exact h.elim
  rename_i d
  rw [show L2.start ["_law_state"] [V.ref d] = [some (V.ref d)] from rfl]
  obtain ⟨sl, most, came, us, hp, q⟩ := h
  unfold sidesOf at q
  walk_at "sts"
  refine L_dgetv (k := .inr "came") rfl hp.hd st_came ?_
  walk_at "sts"
  refine L_dgetv (k := .inr "most") rfl hp.hd st_most ?_
  walk_at "sts"
  refine L_d (fun c => ?_) (fun c => ?_)
  · rw [if_pos c] at q
    walk_at "sts"
    exact q
  · rw [if_neg c] at q
    walk_at "sts"
    refine L_dgetv (k := .inr "came") rfl hp.hd st_came ?_
    walk_at "sts"
    exact q
def sp__law_bad (K : PySem.W.Frag) (mg : Str → Option Value) : Sp := fun vs H Q _ => match vs with | [.int n] => ∀ v H', Same H H' → ThJ K H' v none → ((∃ t, v = .int t ∧ -1 ≤ t ∧ t ≤ 5) ∨ NotW2 K H' v) → Q v H' | _ => False
theorem q__law_bad {H : Hp} {Q : VK} {E : XK} {n : Int} (q : ∀ v H', Same H H' → ThJ K H' v none → ((∃ t, v = .int t ∧ -1 ≤ t ∧ t ≤ 5) ∨ NotW2 K H' v) → Q v H') : sp__law_bad K mg [.int n] H Q E := q
local macro_rules | `(tactic| walk_at "op") => `(tactic| with_reducible refine q__law_bad ?_)
theorem c__law_bad (T : Txt K mg) : Cal P w K mg base 1 "_law_bad" (sp__law_bad K mg) := by
  refine T.d__law_bad.cal (k := 0) sc__law_bad (by intro vs H Q E h; unfold sp__law_bad at h; split at h <;> first | rfl | exact h.elim) fun f cdv A outer s H vs Q E hr h => ?_
  refine ⟨_, (pss_one (ps_ret (pe_ix ix_seq (pe_lst (pa_cons pe_non (pa_cons (pe_un un_neg pe_int) (pa_cons pe_bl (pa_cons pe_str (pa_cons pe_str (pa_cons pe_str (pa_cons pe_int (pa_cons (pe_lst (pa_cons pe_int pa_nil)) (pa_cons pe_dnewK (pa_cons pe_bl (pa_cons pe_str (pa_cons (pe_tup (pa_cons pe_int pa_nil)) pa_nil))))))))))))) (pe_op op_mod (pv 0) pe_int) (fun _ _ => rfl)))), ?_⟩
  try simp only [cxOf_K, cxOf_K', cxOf_mg, cxOf_mg']
  unfold sp__law_bad at h
  split at h
  case h_2 => exact h.elim
  rename_i n
  rw [show L2.start ["_law_number"] [V.int n] = [some (V.int n)] from rfl]
  walk_at "sts"
  walk_at "nw"
  rename_i p1 hp1 H1 s1 e1
  walk_at "sts"
  walk_at "nwp"
  rename_i p2 hp2 H2 s2 e2
  walk_at "sts"
  walk_at "nw"
  rename_i p3 hp3 H3 s3 e3
  walk_at "sts"
  walk_at "nw"
  rename_i p4 hp4 H4 s4 e4
  walk_at "sts"
  refine L_I (by decide) ?_
  refine L_menuV (.of e4) (Int.emod_nonneg _ (by decide)) (Int.emod_lt_of_pos _ (by decide)) fun v hv => ?_
  refine h _ _ (s1.trans (s2.trans (s3.trans s4))) ?_ ?_
  · simp only [List.mem_cons, List.not_mem_nil, or_false] at hv
    rcases hv with rfl | rfl | rfl | rfl | rfl | rfl | rfl | rfl | rfl | rfl | rfl | rfl
    · exact .inl nots_non
    · exact .inl nots_int
    · exact .inl nots_bl
    · exact .inr ⟨_, rfl, by decide, by decide +kernel, by decide +kernel⟩
    · exact .inr ⟨_, rfl, by decide, by decide +kernel, by decide +kernel⟩
    · exact .inr ⟨_, rfl, by decide, by decide +kernel, by decide +kernel⟩
    · exact .inl nots_int
    · exact .inl (nots_lst (.of ((s2.trans (s3.trans s4)) _ _ e1)))
    · exact .inl (nots_dK ((s3.trans s4) _ _ e2))
    · exact .inl nots_bl
    · exact .inr ⟨_, rfl, by decide, by decide +kernel, by decide +kernel⟩
    · exact .inl (nots_tup (.of (s4 _ _ e3)))
  · simp only [List.mem_cons, List.not_mem_nil, or_false] at hv
    rcases hv with rfl | rfl | rfl | rfl | rfl | rfl | rfl | rfl | rfl | rfl | rfl | rfl
    · exact .inr n2_non
    · exact .inl ⟨_, rfl, by decide, by decide⟩
    · exact .inr n2_bl
    · exact .inr n2_str
    · exact .inr n2_str
    · exact .inr n2_str
    · exact .inl ⟨_, rfl, by decide, by decide⟩
    · exact .inr (n2_lst ((s2.trans (s3.trans s4)) _ _ e1))
    · exact .inr (n2_dK ((s3.trans s4) _ _ e2))
    · exact .inr n2_bl
    · exact .inr n2_str
    · exact .inr (n2_tup (s4 _ _ e3))
theorem isName_one {c : Nat} (h : c ∈ (Str.ofString "abcdefghijklmnopqrstuvwxyz").cps.toList) : isName ⟨#[c]⟩ = true := by
  have := mem_letters.mp h
  unfold isName
  rw [len1]
  simp [this]
theorem isName_app {z : Str} {c : Nat} (hz : isName z = true) (hl : z.length ≤ 7) (h : c ∈ (Str.ofString "abcdefghijklmnopqrstuvwxyz").cps.toList) : isName (z ++ ⟨#[c]⟩) = true := by
  have hc := mem_letters.mp h
  unfold isName at *
  rw [Bool.and_eq_true, decide_eq_true_eq] at *
  rw [str_len_append, len1, str_app_list, List.all_append, hz.2]
  refine ⟨by omega, ?_⟩
  simp [hc]
theorem isName_ok {z : Str} (h : isName z = true) : PyData.strOk z = true ∧ 1 ≤ z.length ∧ z.length ≤ 8 ∧ ∀ c ∈ z.cps.toList, c ∈ (Str.ofString "abcdefghijklmnopqrstuvwxyz").cps.toList := by
  unfold isName at h
  rw [Bool.and_eq_true, decide_eq_true_eq, List.all_eq_true] at h
  refine ⟨strOk_of fun c hc => ?_, h.1.1, h.1.2, fun c hc => mem_letters.mpr (of_decide_eq_true (h.2 c hc))⟩
  have := of_decide_eq_true (h.2 c hc)
  omega
def sp__law_name (K : PySem.W.Frag) (mg : Str → Option Value) : Sp := fun vs H Q _ => match vs with | [.int n] => 0 ≤ n ∧ n < 140608 ∧ ∀ z, isName z = true → Q (.str z) H | _ => False
theorem q__law_name {H : Hp} {Q : VK} {E : XK} {n : Int} (q : 0 ≤ n ∧ n < 140608 ∧ ∀ z, isName z = true → Q (.str z) H) : sp__law_name K mg [.int n] H Q E := q
local macro_rules | `(tactic| walk_at "op") => `(tactic| with_reducible refine q__law_name ?_)
theorem c__law_name (T : Txt K mg) : Cal P w K mg base 1 "_law_name" (sp__law_name K mg) := by
  refine T.d__law_name.cal (k := 0) sc__law_name (by intro vs H Q E h; unfold sp__law_name at h; split at h <;> first | rfl | exact h.elim) fun f cdv A outer s H vs Q E hr h => ?_
  refine ⟨_, (pss_cons (ps_set (i := 1) sc__law_name.nd rfl (.inl rfl) pe_str)
    (pss_cons (ps_set (i := 2) sc__law_name.nd rfl (.inl rfl) (pe_ix ix_seq (pv 1) (pe_op op_mod (pv 0) pe_int) (fun _ _ => rfl)))
    (pss_cons (ps_for PassesOwn.never rfl (pi_range1 (by rfl) T.n_range (pa_cons (pe_op op_mod (pe_op op_fdivW (pv 0) pe_int) pe_int) pa_nil)) (pg_name (i := 3) sc__law_name.nd rfl (.inl rfl))
    (pss_one (ps_set (i := 2) sc__law_name.nd rfl (.inl rfl) (pe_op op_addA (pv 2) (pe_ix ix_seq (pv 1) (pe_op op_mod (pe_op op_addA (pe_op op_fdivW (pv 0) pe_int) (pe_op op_mulA (pv 3) (pe_op op_fdivW (pv 0) pe_int))) pe_int) (fun _ _ => rfl))))))
    (pss_one (ps_ret (pv 2)))))), ?_⟩
  try simp only [cxOf_K, cxOf_K', cxOf_mg, cxOf_mg']
  unfold sp__law_name at h
  split at h
  case h_2 => exact h.elim
  rename_i n
  rw [show L2.start ["_law_number", "_law_letters", "_law_name_here", "_law_k"] [V.int n] = [some (V.int n), none, none, none] from rfl]
  obtain ⟨n0, n1, q⟩ := h
  walk_at "sts"
  refine L_I (by decide) ?_
  have hm0 := Int.emod_nonneg n (show (26 : Int) ≠ 0 by decide)
  have hm1 := Int.emod_lt_of_pos n (show (0 : Int) < 26 by decide)
  refine L_ixSany (by decide) hm0 hm1 fun a ha => ?_
  walk_at "sts"
  refine L_I (cdiv_lit (by decide)) ?_
  walk_at "sts"
  refine L_I (by decide) ?_
  refine L_r1 (by omega) (by omega) ?_
  refine f_range (fun i σ' H' => H' = H ∧ ∃ (z : Str) (v3 : Option V), σ' = [some (.int n), some (.str "abcdefghijklmnopqrstuvwxyz"), some (.str z), v3] ∧ isName z = true ∧ z.length = i + 1) ⟨rfl, _, _, rfl, isName_one ha, rfl⟩ ?_ ?_
  · rintro i σ' H' hi ⟨rfl, z, v3, rfl, hz, hl⟩
    walk_at "sts"
    refine L_I (cdiv_lit (by decide)) ?_
    walk_at "sts"
    refine L_I (cdiv_lit (by decide)) ?_
    refine L_mulI ((bd_64 (by omega)).cmul (bd_64 (by omega))) ?_
    walk_at "sts"
    refine L_I (by decide) ?_
    refine L_ixSany (by decide) (Int.emod_nonneg _ (by decide)) (Int.emod_lt_of_pos _ (by decide)) fun a ha => ?_
    refine L_addS (by rw [len1]; exact sz_dec (by omega)) ?_
    walk_at "sts"
    exact ⟨rfl, _, _, rfl, isName_app hz (by omega) ha, by rw [str_len_append, len1, hl]⟩
  · rintro σ' H' ⟨rfl, z, v3, rfl, hz, hl⟩
    walk_at "sts"
    exact q z hz
def sp__law_come (K : PySem.W.Frag) (mg : Str → Option Value) : Sp := fun vs H Q _ => match vs with | [.ref x, v, w, .bl b] => ∃ dx pl most passed us o t, PotAt mg H x dx pl most passed us ∧ ThJ K H v o ∧ TwJ K H w (sidesOf most passed - 1) t ∧ (b = true → w = .int 0) ∧ (match comeOf o passed t with | .good z t => ∀ H', (∀ b o, H b = some o → b ≠ x → b ≠ pl → H' b = some o) → PotAt mg H' x dx pl most (passed + 1) (keptV most passed us (.str z) t) → Q (.str "good") H' | c => ∀ H', Same H H' → Q (.str (comeW c)) H') | _ => False
theorem q__law_come {H : Hp} {Q : VK} {E : XK} {x : Addr} {v : V} {w : V} {b : Bool} (q : ∃ dx pl most passed us o t, PotAt mg H x dx pl most passed us ∧ ThJ K H v o ∧ TwJ K H w (sidesOf most passed - 1) t ∧ (b = true → w = .int 0) ∧ (match comeOf o passed t with | .good z t => ∀ H', (∀ b o, H b = some o → b ≠ x → b ≠ pl → H' b = some o) → PotAt mg H' x dx pl most (passed + 1) (keptV most passed us (.str z) t) → Q (.str "good") H' | c => ∀ H', Same H H' → Q (.str (comeW c)) H')) : sp__law_come K mg [.ref x, v, w, .bl b] H Q E := q
local macro_rules | `(tactic| walk_at "op") => `(tactic| with_reducible refine q__law_come ?_)
theorem c__law_come (T : Txt K mg) : Cal P w K mg base 4 "_law_come" (sp__law_come K mg) := by
  refine T.d__law_come.cal (k := 3) sc__law_come (by intro vs H Q E h; unfold sp__law_come at h; split at h <;> first | rfl | exact h.elim) fun f cdv A outer s H vs Q E hr h => ?_
  refine ⟨_, (pss_cons (ps_set (i := 4) sc__law_come.nd rfl (.inl rfl) pe_str)
    (pss_cons (ps_try_manyA (tb := fun W => (tIfS (tB (tVar 3)) (tDrop (tMethDE (cA mg "Pot") "come" (sp_Pot_come K mg) [(.int 0)] (fun σ => WE W σ) (tVar 0) (tCons (tVar 1) tNil))) (tDrop (tMethE (cA mg "Pot") "come" (sp_Pot_come K mg) (fun σ => WE W σ) (tVar 0) (tCons (tVar 1) (tCons (tVar 2) tNil)))))) (l := [(Value.ref (cA mg "NoThing"), none, fun xa xcls xd => (tAsg (tC (.str "thing")) (gName 4))), (Value.ref (cA mg "TooMany"), none, fun xa xcls xd => (tAsg (tC (.str "many")) (gName 4))), (Value.ref (cA mg "NoThrow"), some 5, fun xa xcls xd => (tAsg (tOp (aAdd K) (tC (.str "throw ")) (tCB aStr1 (tCons (tXf xa xcls xd (cA mg "NoThrow") "place" (tVar 5)) tNil))) (gName 4)))]) rfl rfl sc__law_come.nd rfl takes0 (fun W pn xe tk po => by exact (pss_one (ps_if (pt_val (pv 3))
    (pss_one (ps_expr (pe_xMtD (c_Pot_come T) hr (by decide) (fun σ => passAt tk σ) (pv 0) (pa_cons (pv 1) pa_nil))))
    (pss_one (ps_expr (pe_xMt (c_Pot_come T).m hr (by decide) (fun σ => passAt tk σ) (pv 0) (pa_cons (pv 1) (pa_cons (pv 2) pa_nil)))))))) (.cons ⟨rfl, by decide, .inl T.m_NoThing⟩ (fun a oe cls d pn hz hf => by exact (pss_one (ps_set (i := 4) sc__law_come.nd rfl (.inl rfl) pe_str))) (.cons ⟨rfl, by decide, .inl T.m_TooMany⟩ (fun a oe cls d pn hz hf => by exact (pss_one (ps_set (i := 4) sc__law_come.nd rfl (.inl rfl) pe_str))) (.consA rfl rfl ⟨rfl, by decide, .inl T.m_NoThrow⟩ (fun a oe cls d pn hz hf => by exact (pss_one (ps_set (i := 4) sc__law_come.nd rfl (.inl rfl) (pe_op op_addA pe_str (pe_callTy call_str1A (by rfl) T.n_str (by decide +kernel) (pa_cons (pe_xf (ExcC.xf T.z_NoThrow) T.na_NoThrow_place hz hf (pv 5)) pa_nil)))))) .nil))))
    (pss_one (ps_ret (pv 4))))), ?_⟩
  try simp only [cxOf_K, cxOf_K', cxOf_mg, cxOf_mg']
  unfold sp__law_come at h
  split at h
  case h_2 => exact h.elim
  rename_i x v w b
  rw [show L2.start ["_law_pot", "_law_thing", "_law_throw", "_law_bare", "_law_word", "e"] [V.ref x, v, w, V.bl b] = [some (V.ref x), some (v), some (w), some (V.bl b), none, none] from rfl]
  obtain ⟨dx, pl, most, passed, us, o, t, hp, ho, ht, hb, q⟩ := h
  cases b with
  | true =>
    obtain rfl := hb rfl
    walk_at "sts"
    refine L_methv hp.hx rfl ?_
    walk_at "sts"
    refine ⟨dx, pl, most, passed, us, o, t, hp, ho, ht, ?_⟩
    cases hc : comeOf o passed t with
    | thing =>
      rw [hc] at q
      refine L_many (T.y_NoThing.exm T.e_NoThing_NoThing) fun a na => ?_
      walk_at "sts"
      exact q _ (Same.refl _)
    | many =>
      rw [hc] at q
      refine L_manyN (T.y_NoThing.exm T.e_TooMany_NoThing) (L_many (T.y_TooMany.exm T.e_TooMany_TooMany) fun a na => ?_)
      walk_at "sts"
      exact q _ (Same.refl _)
    | throw =>
      rw [hc] at q
      intro dd H' s' e'
      refine L_manyN (T.y_NoThing.exm T.e_NoThrow_NoThing) (L_manyN (T.y_TooMany.exm T.e_NoThrow_TooMany) (L_manyA (T.y_NoThrow.exm T.e_NoThrow_NoThrow) fun a na => ?_))
      walk_at "sts"
      refine L_xf ?_
      walk_at "sts"
      refine ⟨rfl, rfl, dd, _, _, rfl, e', rfl, ?_⟩
      walk_at "sts"
      refine L_str1 (by decide) ?_
      refine L_addS (a := Str.ofString "throw ") (b := (toString (0 : Int) : String)) (by decide +kernel) ?_
      walk_at "sts"
      intro na1
      walk_at "sts"
      rw [show (Str.ofString "throw " ++ (↑(toString (0 : Int)) : Str)) = Str.ofString "throw 0" by decide +kernel]
      exact q _ (s'.trans (same_new na1))
    | good z t =>
      rw [hc] at q
      intro H' fr hp'
      walk_at "sts"
      exact q H' fr hp'
  | false =>
    walk_at "sts"
    refine L_methv hp.hx rfl ?_
    walk_at "sts"
    refine ⟨dx, pl, most, passed, us, o, t, hp, ho, ht, ?_⟩
    cases hc : comeOf o passed t with
    | thing =>
      rw [hc] at q
      refine L_many (T.y_NoThing.exm T.e_NoThing_NoThing) fun a na => ?_
      walk_at "sts"
      exact q _ (Same.refl _)
    | many =>
      rw [hc] at q
      refine L_manyN (T.y_NoThing.exm T.e_TooMany_NoThing) (L_many (T.y_TooMany.exm T.e_TooMany_TooMany) fun a na => ?_)
      walk_at "sts"
      exact q _ (Same.refl _)
    | throw =>
      rw [hc] at q
      intro dd H' s' e'
      refine L_manyN (T.y_NoThing.exm T.e_NoThrow_NoThing) (L_manyN (T.y_TooMany.exm T.e_NoThrow_TooMany) (L_manyA (T.y_NoThrow.exm T.e_NoThrow_NoThrow) fun a na => ?_))
      walk_at "sts"
      refine L_xf ?_
      walk_at "sts"
      refine ⟨rfl, rfl, dd, _, _, rfl, e', rfl, ?_⟩
      walk_at "sts"
      refine L_str1 (by decide) ?_
      refine L_addS (a := Str.ofString "throw ") (b := (toString (0 : Int) : String)) (by decide +kernel) ?_
      walk_at "sts"
      intro na1
      walk_at "sts"
      rw [show (Str.ofString "throw " ++ (↑(toString (0 : Int)) : Str)) = Str.ofString "throw 0" by decide +kernel]
      exact q _ (s'.trans (same_new na1))
    | good z t =>
      rw [hc] at q
      intro H' fr hp'
      walk_at "sts"
      exact q H' fr hp'
def sp__law_due (K : PySem.W.Frag) (mg : Str → Option Value) : Sp := fun vs H Q _ => match vs with | [.ref d, v, w] => ∃ sl most came us o t, StAt H d sl most came us ∧ 0 ≤ came ∧ came ≤ 300 ∧ ThJ K H v o ∧ TwJ K H w (sidesOf most came - 1) t ∧ ∀ H', Same H H' → Q (.str (comeW (comeOf o came t))) H' | _ => False
theorem q__law_due {H : Hp} {Q : VK} {E : XK} {d : Addr} {v : V} {w : V} (q : ∃ sl most came us o t, StAt H d sl most came us ∧ 0 ≤ came ∧ came ≤ 300 ∧ ThJ K H v o ∧ TwJ K H w (sidesOf most came - 1) t ∧ ∀ H', Same H H' → Q (.str (comeW (comeOf o came t))) H') : sp__law_due K mg [.ref d, v, w] H Q E := q
local macro_rules | `(tactic| walk_at "op") => `(tactic| with_reducible refine q__law_due ?_)
theorem c__law_due (T : Txt K mg) : Cal P w K mg base 2 "_law_due" (sp__law_due K mg) := by
  refine T.d__law_due.cal (k := 1) sc__law_due (by intro vs H Q E h; unfold sp__law_due at h; split at h <;> first | rfl | exact h.elim) fun f cdv A outer s H vs Q E hr h => ?_
  refine ⟨_, (pss_cons (ps_set (i := 3) sc__law_due.nd rfl (.inl rfl) (pe_and (pe_callB call_isi (by rfl) T.n_isinstance (by decide +kernel) (pa_cons (pv 1) (pa_cons (pe_ty "str" (by rfl) T.n_str (by decide +kernel)) pa_nil))) (pe_one (pe_chain op_leA op_leA pe_int (pe_callB call_lenA (by rfl) T.n_len (by decide +kernel) (pa_cons (pv 1) pa_nil)) pe_int))))
    (pss_cons (ps_if (PW.pt (pw_or (pt_not (pt_val (pv 3))) (pw_or1 (pt_cmpR (op_neA hr) (pe_lc (own := [("_law_sign", 4)]) (g := (gName 4)) (tt := (tTest (tOp (aNotIn K) (tVar 4) (tC (.str "abcdefghijklmnopqrstuvwxyz"))))) (te := (tVar 4)) rfl sc__law_due.nd (pi_str (pv 1)) (blkOk_by (N := ["_law_state", "_law_thing", "_law_throw", "_law_good", "_law_sign"]) (sc := defScope s__law_due) (by decide +kernel)) (fun _ _ _ _ _ => by exact (pg_name (i := 4) sc__law_due.nd rfl (.inl rfl))) (fun _ _ _ _ _ => by exact pts_one (pt_cmpR op_notInA (pv 4) pe_str (by rfl))) (fun _ _ _ _ _ => by exact (pv 4))) (pe_lst pa_nil) (nomark _)))))
    (pss_one (ps_ret pe_str))
    pss_nil)
    (pss_cons (ps_if (pt_cmpR (op_eqA hr) (pe_dget (hu_of hr) (pv 0) pe_str (fun _ _ => rfl)) pe_int (nomark _))
    (pss_one (ps_ret pe_str))
    pss_nil)
    (pss_cons (ps_if (PW.pt (pw_or (pt_val (pe_callB call_isi (by rfl) T.n_isinstance (by decide +kernel) (pa_cons (pv 2) (pa_cons (pe_ty "bool" (by rfl) T.n_bool (by decide +kernel)) pa_nil)))) (pw_or (pt_not (pt_val (pe_callB call_isi (by rfl) T.n_isinstance (by decide +kernel) (pa_cons (pv 2) (pa_cons (pe_ty "int" (by rfl) T.n_int (by decide +kernel)) pa_nil))))) (pw_or1 (pt_not (pt_chain op_leA op_ltA pe_int (pv 2) (pe_c (c__law_sides T) hr (by decide) (by rfl) (pa_cons (pv 0) pa_nil))))))))
    (pss_one (ps_ret pe_str))
    pss_nil)
    (pss_one (ps_ret pe_str)))))), ?_⟩
  try simp only [cxOf_K, cxOf_K', cxOf_mg, cxOf_mg']
  unfold sp__law_due at h
  split at h
  case h_2 => exact h.elim
  rename_i d v w
  rw [show L2.start ["_law_state", "_law_thing", "_law_throw", "_law_good", "_law_sign"] [V.ref d, v, w] = [some (V.ref d), some (v), some (w), none, none] from rfl]
  obtain ⟨sl, most, came, us, o, t, hp, h0, h1, ho, ht, q⟩ := h
  have hsb := sides_b (most := most) ⟨h0, h1⟩
  -- the signs that are none
  have bads : ∀ {z : Str} {p : Addr} {H' : Hp} {Q' : VK}, PyData.strOk z = true → H' p = some (.lst ((List.range z.cps.toList.length).filterMap fun i => z.cps.toList[i]?.bind fun c => if (!decide (c ∈ (Str.ofString "abcdefghijklmnopqrstuvwxyz").cps.toList)) = true then some (V.str ⟨#[c]⟩) else none)) → ∀ p2, H' p2 = some (.lst []) → Q' (.bl (!decide (∀ c ∈ z.cps.toList, c ∈ (Str.ofString "abcdefghijklmnopqrstuvwxyz").cps.toList))) H' → aNe K (.ref p) (.ref p2) H' Q' := fun {z p H' Q'} hz e p2 e2 q => by
    have hf := fm_flt (fun c : Nat => !decide (c ∈ (Str.ofString "abcdefghijklmnopqrstuvwxyz").cps.toList)) (fun c : Nat => V.str ⟨#[c]⟩) z.cps.toList
    rw [hf, show ∀ l : List Nat, (l.map fun c => V.str ⟨#[c]⟩) = (l.map fun c => (⟨#[c]⟩ : Str)).map V.str from fun l => by rw [List.map_map]; rfl] at e
    refine L_neD (.lst (.of e) (dp_strs _)) (.lst (.of e2) .nil) ?_ rfl ?_
    · refine (shp_lst (n := 0) fun d hd => ?_).ok
      obtain ⟨w, hw, rfl⟩ := List.mem_map.mp hd
      obtain ⟨c, hc, rfl⟩ := List.mem_map.mp hw
      refine shp_str (strOk_of fun c' hc' => ?_)
      have hz' : z.cps.all (· < 0x110000) = true := hz
      rw [← Array.all_toList, List.all_eq_true] at hz'
      have := of_decide_eq_true (hz' c (List.mem_filter.mp hc).1)
      simp at hc'
      omega
    · rw [eqv_nil, List.isEmpty_map, List.isEmpty_map]
      have e4 : (z.cps.toList.filter fun c => !decide (c ∈ (Str.ofString "abcdefghijklmnopqrstuvwxyz").cps.toList)).isEmpty = decide (∀ c ∈ z.cps.toList, c ∈ (Str.ofString "abcdefghijklmnopqrstuvwxyz").cps.toList) := by
        rw [Bool.eq_iff_iff, List.isEmpty_iff, List.filter_eq_nil_iff, decide_eq_true_iff]
        simp only [Bool.not_eq_true', Bool.not_eq_eq_eq_not, decide_eq_false_iff_not, Bool.not_true, Decidable.not_not, Bool.not_eq_true]
      rw [e4]
      exact q
  walk_at "sts"
  cases o with
  | none =>
    have q : ∀ H', Same H H' → Q (.str "thing") H' := q
    rcases ho with ⟨ty, h1, h2⟩ | ⟨z, rfl, hz1, hz2, hz3⟩
    · refine L_isi h1 h2 ?_
      walk_at "sts"
      exact q _ (Same.refl _)
    · refine L_isi (.base (.str z)) (b := true) (by decide +kernel) ?_
      walk_at "sts"
      refine L_lenS (sz_dec (by omega)) ?_
      walk_at "sts"
      refine L_d (fun c1 => ?_) (fun c1 => ?_)
      · walk_at "sts"
        by_cases c2 : (z.length : Int) ≤ 8
        · rw [decide_eq_true c2]
          walk_at "sts"
          refine L_rs ?_
          refine lc_fm walk_str (fun i => z.cps.toList[i]?.bind fun c => if (!decide (c ∈ (Str.ofString "abcdefghijklmnopqrstuvwxyz").cps.toList)) = true then some (V.str ⟨#[c]⟩) else none) ?_ (fun _ _ => True.intro) ?_ ?_
          · rw [← Array.length_toList, str_len]; omega
          · rintro i x1 Ha Hb R R' hi sm ⟨rfl, c, hc, rfl⟩ q1 q2
            have hc' : z.cps.toList[i]? = some c := by rw [Array.getElem?_toList]; exact hc
            walk_at "sts"
            refine ⟨rfl, ?_⟩
            walk_at "sts"
            refine L_nd (fun c3 => ?_) (fun c3 => ?_)
            · walk_at "sts"
              exact q1 _ _ (by rw [hc']; exact if_pos (by rw [decide_eq_false c3]; rfl)) (Same.refl _)
            · exact q2 _ (by rw [hc']; exact if_neg (by rw [decide_eq_true c3]; decide)) (Same.refl _)
          rw [← Array.length_toList]
          intro p1 H1 hp1 s1 e1
          walk_at "sts"
          walk_at "nw"
          rename_i p2 hp2 H2 s2 e2
          refine bads hz3 (s2 _ _ e1) _ e2 ?_
          walk_at "sts"
          rw [show decide (∀ c ∈ z.cps.toList, c ∈ (Str.ofString "abcdefghijklmnopqrstuvwxyz").cps.toList) = false from decide_eq_false fun z1 => by
            unfold isName at hz2
            rw [decide_eq_true (show 1 ≤ z.length ∧ z.length ≤ 8 by omega), Bool.true_and, List.all_eq_false] at hz2
            obtain ⟨c, hc, hn⟩ := hz2
            exact hn (decide_eq_true (mem_letters.mp (z1 c hc)))]
          walk_at "sts"
          exact q _ (s1.trans s2)
        · rw [decide_eq_false c2]
          walk_at "sts"
          exact q _ (Same.refl _)
      · walk_at "sts"
        exact q _ (Same.refl _)
  | some z =>
    obtain ⟨rfl, hz1, hz2⟩ := ho
    obtain ⟨hz3, hz4, hz5, hz6⟩ := isName_ok hz2
    refine L_isi (.base (.str z)) (b := true) (by decide +kernel) ?_
    walk_at "sts"
    refine L_lenS (sz_dec (by omega)) ?_
    walk_at "sts"
    refine L_dT (by omega) ?_
    walk_at "sts"
    rw [decide_eq_true (show (z.length : Int) ≤ 8 by omega)]
    walk_at "sts"
    refine L_rs ?_
    refine lc_fm walk_str (fun i => z.cps.toList[i]?.bind fun c => if (!decide (c ∈ (Str.ofString "abcdefghijklmnopqrstuvwxyz").cps.toList)) = true then some (V.str ⟨#[c]⟩) else none) ?_ (fun _ _ => True.intro) ?_ ?_
    · rw [← Array.length_toList, str_len]; omega
    · rintro i x1 Ha Hb R R' hi sm ⟨rfl, c, hc, rfl⟩ q1 q2
      have hc' : z.cps.toList[i]? = some c := by rw [Array.getElem?_toList]; exact hc
      walk_at "sts"
      refine ⟨rfl, ?_⟩
      walk_at "sts"
      refine L_nd (fun c3 => ?_) (fun c3 => ?_)
      · walk_at "sts"
        exact q1 _ _ (by rw [hc']; exact if_pos (by rw [decide_eq_false c3]; rfl)) (Same.refl _)
      · exact q2 _ (by rw [hc']; exact if_neg (by rw [decide_eq_true c3]; decide)) (Same.refl _)
    rw [← Array.length_toList]
    intro p1 H1 hp1 s1 e1
    walk_at "sts"
    walk_at "nw"
    rename_i p2 hp2 H2 s2 e2
    refine bads hz3 (s2 _ _ e1) _ e2 ?_
    have s02 := s1.trans s2
    walk_at "sts"
    rw [show decide (∀ c ∈ z.cps.toList, c ∈ (Str.ofString "abcdefghijklmnopqrstuvwxyz").cps.toList) = true from decide_eq_true hz6]
    walk_at "sts"
    refine L_dgetv (k := .inr "came") rfl (s02 _ _ hp.hd) st_came ?_
    walk_at "sts"
    refine L_d (fun c1 => ?_) (fun c1 => ?_)
    · walk_at "sts"
      have e := q _ s02
      rw [show comeOf (some z) came t = .many from if_pos (by omega)] at e
      exact e
    · have hnp : ¬ 300 ≤ came := by omega
      walk_at "sts"
      cases t with
      | none =>
        have e := fun H' s => q H' s
        rw [show comeOf (some z) came none = .throw from if_neg hnp] at e
        have e : ∀ H', Same H H' → Q (.str "throw 0") H' := e
        have ht' : NotW2 K H w ∨ ∃ t, w = .int t ∧ ¬ (0 ≤ t ∧ t ≤ sidesOf most came - 1) := ht
        rcases ht' with ht' | ⟨t, rfl, hn⟩
        · rcases ht'.same s02 with ⟨b, rfl⟩ | ⟨a, h1, h2, h3⟩
          · refine L_isi (.base (.bl b)) (b := true) (by decide +kernel) ?_
            walk_at "sts"
            exact e _ s02
          · refine L_isi h1 h3 ?_
            walk_at "sts"
            refine L_isi h1 h2 ?_
            walk_at "sts"
            exact e _ s02
        · walk_at "sa"
          refine L_d (fun c2 => ?_) (fun c2 => ?_)
          · walk_at "sts"
            refine ⟨sl, most, came, us, hp.same s02, ?_⟩
            refine L_ltI ?_
            rw [decide_eq_false (show ¬ t < sidesOf most came by omega)]
            walk_at "sts"
            exact e _ s02
          · walk_at "sts"
            exact e _ s02
      | some t =>
        obtain ⟨rfl, t0, t1⟩ := ht
        have e := q _ s02
        rw [show comeOf (some z) came (some t) = .good z t from if_neg hnp] at e
        walk_at "sa"
        refine ⟨sl, most, came, us, hp.same s02, ?_⟩
        refine L_ltI ?_
        rw [decide_eq_true (show t < sidesOf most came by omega)]
        walk_at "sts"
        exact e
def sp__law_kept (K : PySem.W.Frag) (mg : Str → Option Value) : Sp := fun vs H Q _ => match vs with | [.ref d, v, .int t] => ∃ sl most came us, StAt H d sl most came us ∧ 1 ≤ most ∧ 0 ≤ t ∧ (us.length : Int) = min came most ∧ us.length ≤ 1000 ∧ ∀ H', (∀ b o, H b = some o → b ≠ d → b ≠ sl → H' b = some o) → StAt H' d sl most (came + 1) (keptV most came us v t) → Q .non H' | _ => False
theorem q__law_kept {H : Hp} {Q : VK} {E : XK} {d : Addr} {v : V} {t : Int} (q : ∃ sl most came us, StAt H d sl most came us ∧ 1 ≤ most ∧ 0 ≤ t ∧ (us.length : Int) = min came most ∧ us.length ≤ 1000 ∧ ∀ H', (∀ b o, H b = some o → b ≠ d → b ≠ sl → H' b = some o) → StAt H' d sl most (came + 1) (keptV most came us v t) → Q .non H') : sp__law_kept K mg [.ref d, v, .int t] H Q E := q
local macro_rules | `(tactic| walk_at "op") => `(tactic| with_reducible refine q__law_kept ?_)
theorem c__law_kept (T : Txt K mg) : Cal P w K mg base 1 "_law_kept" (sp__law_kept K mg) := by
  refine T.d__law_kept.cal (k := 0) sc__law_kept (by intro vs H Q E h; unfold sp__law_kept at h; split at h <;> first | rfl | exact h.elim) fun f cdv A outer s H vs Q E hr h => ?_
  refine ⟨_, (pss_cons (ps_if (pt_cmpR op_ltA (pe_dget (hu_of hr) (pv 0) pe_str (fun _ _ => rfl)) (pe_dget (hu_of hr) (pv 0) pe_str (fun _ _ => rfl)) (nomark _))
    (pss_one (ps_expr (pe_bm PySem.F.plainAttrs_list PySem.F.slot_list_append PySem.F.type_list_append mt_append (pe_dget (hu_of hr) (pv 0) pe_str (fun _ _ => rfl)) (pa_cons (pv 1) pa_nil))))
    (pss_one (ps_if (pt_cmpR op_ltA (pv 2) (pe_dget (hu_of hr) (pv 0) pe_str (fun _ _ => rfl)) (nomark _))
    (pss_one (ps_asg (pv 1) (pg_sub (pe_dget (hu_of hr) (pv 0) pe_str (fun _ _ => rfl)) (pv 2) set_list)))
    pss_nil)))
    (pss_one (ps_dput (hu_of hr) (pv 0) pe_str (pe_op op_addA (pe_dget (hu_of hr) (pv 0) pe_str (fun _ _ => rfl)) pe_int) rfl))), ?_⟩
  try simp only [cxOf_K, cxOf_K', cxOf_mg, cxOf_mg']
  unfold sp__law_kept at h
  split at h
  case h_2 => exact h.elim
  rename_i d v t
  rw [show L2.start ["_law_state", "_law_thing", "_law_throw"] [V.ref d, v, V.int t] = [some (V.ref d), some (v), some (V.int t)] from rfl]
  obtain ⟨sl, most, came, us, hp, hm, t0, hlen, hl, q⟩ := h
  have hd := hp.hd
  have hs := hp.hs
  have ne := hp.ne
  have fin : ∀ us' : List V, us' = keptV most came us v t → ∀ H2 : Hp, H2 = upd H sl (.lst us') → sDPut (tVar 0) (tC (.str "came")) (tOp (aAdd K) (tDGet (tVar 0) (tC (.str "came"))) (tC (.int 1))) ⟨fun _ H' => Q .non H', Q, fun _ _ => False, fun _ _ => False⟩ [some (V.ref d), some v, some (V.int t)] H2 := fun us' e H2 eH => by
    have hd2 : H2 d = some (.dK (stK most came sl)) := by rw [eH, upd_ne ne.symm]; exact hd
    have hs2 : H2 sl = some (.lst us') := by rw [eH, upd_same]
    walk_at "sts"
    refine L_dgetv (k := .inr "came") rfl hd2 st_came ?_
    walk_at "sts"
    refine L_dputv (k := .inr "came") rfl hd2 (by show 3 < 1000000; decide) ?_
    rw [st_put]
    refine q _ (fun b o hb n1 n2 => by rw [upd_ne n1, eH, upd_ne n2]; exact hb) ⟨upd_same, by rw [upd_ne ne, hs2, e]⟩
  walk_at "sts"
  refine L_dgetv (k := .inr "came") rfl hd st_came ?_
  walk_at "sts"
  refine L_dgetv (k := .inr "most") rfl hd st_most ?_
  walk_at "sts"
  refine L_d (fun c1 => ?_) (fun c1 => ?_)
  · walk_at "sts"
    refine L_dgetv (k := .inr "things") rfl hd st_things ?_
    refine L_tyL (.of hs) ?_
    walk_at "sts"
    refine L_app hs (sz_lt (by omega)) ?_
    exact fin _ (by unfold keptV; rw [if_pos c1]) _ rfl
  · walk_at "sts"
    refine L_dgetv (k := .inr "most") rfl hd st_most ?_
    walk_at "sts"
    refine L_d (fun c2 => ?_) (fun c2 => ?_)
    · walk_at "sts"
      refine L_dgetv (k := .inr "things") rfl hd st_things ?_
      walk_at "sts"
      refine L_setL hs (ixN_of t0 (by omega)) ?_
      exact fin _ (by unfold keptV; rw [if_neg c1, if_pos c2]) _ rfl
    · refine L_next ?_
      refine fin us (by unfold keptV; rw [if_neg c1, if_neg c2]) _ ?_
      funext b
      by_cases hb : b = sl
      · rw [hb, upd_same, hs]
      · rw [upd_ne hb]
/-- the pot and the plain state, alike -/
structure Wd (mg : Str → Option Value) (H : Hp) (x dx pl d sl : Addr) (most came : Int) (zs : List Str) : Prop where
  p : PotAt mg H x dx pl most came (zs.map V.str)
  s : StAt H d sl most came (zs.map V.str)
  ne : pl ≠ sl
  ok : ∀ z ∈ zs, PyData.strOk z = true
theorem Wd.same {mg : Str → Option Value} {H H' : Hp} {x dx pl d sl : Addr} {most came : Int} {zs : List Str} (h : Wd mg H x dx pl d sl most came zs) (s : Same H H') : Wd mg H' x dx pl d sl most came zs := ⟨h.p.same s, h.s.same s, h.ne, h.ok⟩
def keptS (most passed : Int) (us : List Str) (v : Str) (t : Int) : List Str := if passed < most then us ++ [v] else if t < most then us.set t.toNat v else us
theorem kept_map {most passed t : Int} {zs : List Str} {z : Str} : keptV most passed (zs.map V.str) (.str z) t = (keptS most passed zs z t).map V.str := by
  unfold keptV keptS
  split
  · rw [List.map_append]; rfl
  · split
    · rw [List.map_set]
    · rfl
theorem kept_ok {most passed t : Int} {zs : List Str} {z : Str} (h : ∀ z ∈ zs, PyData.strOk z = true) (hz : PyData.strOk z = true) : ∀ w ∈ keptS most passed zs z t, PyData.strOk w = true := fun w hw => by
  unfold keptS at hw
  split at hw
  · rcases List.mem_append.mp hw with hw | hw
    · exact h w hw
    · rw [List.mem_singleton.mp hw]; exact hz
  · split at hw
    · rcases List.mem_or_eq_of_mem_set hw with hw | rfl
      · exact h w hw
      · exact hz
    · exact h w hw
def sp__law_stands (K : PySem.W.Frag) (mg : Str → Option Value) : Sp := fun vs H Q _ => match vs with | [.ref x, .ref d] => ∃ dx pl sl most came zs, Wd mg H x dx pl d sl most came zs ∧ ∀ H', Same H H' → Q (.bl true) H' | _ => False
theorem q__law_stands {H : Hp} {Q : VK} {E : XK} {x : Addr} {d : Addr} (q : ∃ dx pl sl most came zs, Wd mg H x dx pl d sl most came zs ∧ ∀ H', Same H H' → Q (.bl true) H') : sp__law_stands K mg [.ref x, .ref d] H Q E := q
local macro_rules | `(tactic| walk_at "op") => `(tactic| with_reducible refine q__law_stands ?_)
theorem c__law_stands (T : Txt K mg) : Cal P w K mg base 2 "_law_stands" (sp__law_stands K mg) := by
  refine T.d__law_stands.cal (k := 1) sc__law_stands (by intro vs H Q E h; unfold sp__law_stands at h; split at h <;> first | rfl | exact h.elim) fun f cdv A outer s H vs Q E hr h => ?_
  refine ⟨_, (pss_cons (ps_set (i := 2) sc__law_stands.nd rfl (.inl rfl) (pe_mt0 (c_Pot_things T) hr (by decide) (pv 0)))
    (pss_cons (ps_if (PW.pt (pw_or (pt_not (pt_val (pe_callB call_isi (by rfl) T.n_isinstance (by decide +kernel) (pa_cons (pv 2) (pa_cons (pe_ty "list" (by rfl) T.n_list (by decide +kernel)) pa_nil))))) (pw_or (pt_cmpR (op_neA hr) (pv 2) (pe_dget (hu_of hr) (pv 1) pe_str (fun _ _ => rfl)) (nomark _)) (pw_or1 (pt_cmpR (op_neA hr) (pe_mt0 (c_Pot_came T) hr (by decide) (pv 0)) (pe_dget (hu_of hr) (pv 1) pe_str (fun _ _ => rfl)) (nomark _))))))
    (pss_one (ps_ret pe_bl))
    pss_nil)
    (pss_cons (ps_expr (pe_bm PySem.F.plainAttrs_list PySem.F.slot_list_append PySem.F.type_list_append mt_append (pv 2) (pa_cons pe_str pa_nil)))
    (pss_one (ps_ret (pe_and (pe_cmpR (op_eqA hr) (pe_mt0 (c_Pot_things T) hr (by decide) (pv 0)) (pe_dget (hu_of hr) (pv 1) pe_str (fun _ _ => rfl)) (nomark _)) (pe_and (pe_cmpR (op_eqA hr) (pe_mt0 (c_Pot_next_sides T) hr (by decide) (pv 0)) (pe_c (c__law_sides T) hr (by decide) (by rfl) (pa_cons (pv 1) pa_nil)) (nomark _)) (pe_one (pe_cmpR (op_eqA hr) (pe_fld (pv 0) rfl) (pe_dget (hu_of hr) (pv 1) pe_str (fun _ _ => rfl)) (nomark _)))))))))), ?_⟩
  try simp only [cxOf_K, cxOf_K', cxOf_mg, cxOf_mg']
  unfold sp__law_stands at h
  split at h
  case h_2 => exact h.elim
  rename_i x d
  rw [show L2.start ["_law_pot", "_law_state", "_law_found"] [V.ref x, V.ref d] = [some (V.ref x), some (V.ref d), none] from rfl]
  obtain ⟨dx, pl, sl, most, came, zs, hw, q⟩ := h
  have shz : SeqAt.shaped (.list (zs.map PyData.str)) = true := (shp_lst (n := 0) (fun d hd => by
    obtain ⟨z, hz, rfl⟩ := List.mem_map.mp hd
    exact shp_str (hw.ok z hz))).ok
  have hzl := hw.p.len
  have hm := hw.p.m
  rw [List.length_map] at hzl
  walk_at "sts"
  refine L_methv hw.p.hx rfl ?_
  walk_at "sts"
  refine ⟨dx, pl, most, came, _, hw.p, fun p1 H1 hp1 s1 e1 => ?_⟩
  walk_at "sts"
  refine L_isi (tyx_L (.of e1)) (b := true) (by decide +kernel) ?_
  walk_at "sts"
  refine L_dgetv (k := .inr "things") rfl (s1 _ _ hw.s.hd) st_things ?_
  refine L_neR (.lst (.of e1) (dp_strs zs)) (.lst (.of (s1 _ _ hw.s.hs)) (dp_strs zs)) shz ?_
  walk_at "sts"
  refine L_methv (s1 _ _ hw.p.hx) rfl ?_
  walk_at "sts"
  refine ⟨dx, pl, most, came, _, hw.p.same s1, ?_⟩
  walk_at "sts"
  refine L_dgetv (k := .inr "came") rfl (s1 _ _ hw.s.hd) st_came ?_
  walk_at "sts"
  rw [decide_eq_true rfl]
  walk_at "sts"
  refine L_tyL (.of e1) ?_
  walk_at "sts"
  refine L_app e1 (sz_lt (by rw [List.length_map]; omega)) ?_
  have s2 : Same H (upd H1 p1 (.lst (zs.map V.str ++ [V.str "z"]))) := same_mut s1 hp1
  generalize upd H1 p1 (.lst (zs.map V.str ++ [V.str "z"])) = H2 at s2
  walk_at "sts"
  refine L_methv (s2 _ _ hw.p.hx) rfl ?_
  walk_at "sts"
  refine ⟨dx, pl, most, came, _, hw.p.same s2, fun p3 H3 hp3 s3 e3 => ?_⟩
  have s03 := s2.trans s3
  walk_at "sts"
  refine L_dgetv (k := .inr "things") rfl (s03 _ _ hw.s.hd) st_things ?_
  refine L_eqR (.lst (.of e3) (dp_strs zs)) (.lst (.of (s03 _ _ hw.s.hs)) (dp_strs zs)) shz ?_
  walk_at "sts"
  refine L_methv (s03 _ _ hw.p.hx) rfl ?_
  walk_at "sts"
  refine ⟨dx, pl, most, came, _, hw.p.same s03, ?_⟩
  walk_at "sts"
  refine ⟨sl, most, came, _, hw.s.same s03, ?_⟩
  walk_at "sts"
  rw [decide_eq_true rfl]
  walk_at "sts"
  have hx3 := s03 _ _ hw.p.hx
  walk_at "fd"
  walk_at "sts"
  refine L_dgetv (k := .inr "most") rfl (s03 _ _ hw.s.hd) st_most ?_
  walk_at "sts"
  rw [decide_eq_true rfl]
  exact q _ s03
theorem nums4 {d : Bool} {c : Int} {b1 b2 b3 b4 : Int} (h : ∀ b ∈ [b1, b2, b3, b4], 0 < b) : ∃ x y z w, nums d c 0 [b1, b2, b3, b4] = [x, y, z, w] ∧ (0 ≤ x ∧ x < b1) ∧ (0 ≤ y ∧ y < b2) ∧ (0 ≤ z ∧ z < b3) ∧ (0 ≤ w ∧ w < b4) := by
  have hl := nums_len d [b1, b2, b3, b4] c 0
  have hb := nums_b d [b1, b2, b3, b4] c 0 h
  generalize nums d c 0 [b1, b2, b3, b4] = l at *
  match l, hl with
  | [x, y, z, w], _ => exact ⟨x, y, z, w, rfl, hb 0 x b1 rfl rfl, hb 1 y b2 rfl rfl, hb 2 z b3 rfl rfl, hb 3 w b4 rfl rfl⟩
/-- the frame of a deed -/
def FrD (H H' : Hp) (x pl d sl : Addr) : Prop := ∀ b o, H b = some o → b ≠ x → b ≠ pl → b ≠ d → b ≠ sl → H' b = some o
theorem Wd.apart {mg : Str → Option Value} {H : Hp} {x dx pl d sl : Addr} {most came : Int} {zs : List Str} (h : Wd mg H x dx pl d sl most came zs) : x ≠ d ∧ x ≠ sl ∧ pl ≠ d ∧ pl ≠ x ∧ sl ≠ d := by
  refine ⟨fun z => ?_, fun z => ?_, fun z => ?_, h.p.ne, h.s.ne⟩
  · have := h.p.hx
    rw [z, h.s.hd] at this
    cases this
  · have := h.p.hx
    rw [z, h.s.hs] at this
    cases this
  · have := h.p.hl
    rw [z, h.s.hd] at this
    cases this
theorem tw_int {K : PySem.W.Frag} {H : Hp} {t hi : Int} : ∃ o, TwJ K H (.int t) hi o := by
  by_cases h : 0 ≤ t ∧ t ≤ hi
  · exact ⟨some t, rfl, h.1, h.2⟩
  · exact ⟨none, .inr ⟨t, rfl, h⟩⟩
theorem th_name {K : PySem.W.Frag} {H : Hp} {z : Str} (h : isName z = true) : ThJ K H (.str z) (some z) := ⟨rfl, by have := (isName_ok h).2.2.1; omega, h⟩
def sp__law_deed (K : PySem.W.Frag) (mg : Str → Option Value) : Sp := fun vs H Q _ => match vs with | [.ref x, .ref d, .int c, .bl dg] => ∃ dx pl sl most came zs, Wd mg H x dx pl d sl most came zs ∧ ∀ H' came' zs', FrD H H' x pl d sl → Wd mg H' x dx pl d sl most came' zs' → Q (.bl true) H' | _ => False
theorem q__law_deed {H : Hp} {Q : VK} {E : XK} {x : Addr} {d : Addr} {c : Int} {dg : Bool} (q : ∃ dx pl sl most came zs, Wd mg H x dx pl d sl most came zs ∧ ∀ H' came' zs', FrD H H' x pl d sl → Wd mg H' x dx pl d sl most came' zs' → Q (.bl true) H') : sp__law_deed K mg [.ref x, .ref d, .int c, .bl dg] H Q E := q
local macro_rules | `(tactic| walk_at "op") => `(tactic| with_reducible refine q__law_deed ?_)
theorem c__law_deed (T : Txt K mg) : Cal P w K mg base 5 "_law_deed" (sp__law_deed K mg) := by
  refine T.d__law_deed.cal (k := 4) sc__law_deed (by intro vs H Q E h; unfold sp__law_deed at h; split at h <;> first | rfl | exact h.elim) fun f cdv A outer s H vs Q E hr h => ?_
  refine ⟨_, (pss_cons (ps_asg (pe_c (c__law_numbers T) hr (by decide) (by rfl) (pa_cons (pv 2) (pa_cons (pv 3) (pa_cons (pe_lst (pa_cons pe_int (pa_cons pe_int (pa_cons pe_int (pa_cons pe_int pa_nil))))) pa_nil)))) (pg_lst rfl (pgs_cons (pg_name (i := 4) sc__law_deed.nd rfl (.inl rfl)) (pgs_cons (pg_name (i := 5) sc__law_deed.nd rfl (.inl rfl)) (pgs_cons (pg_name (i := 6) sc__law_deed.nd rfl (.inl rfl)) (pgs_cons (pg_name (i := 7) sc__law_deed.nd rfl (.inl rfl)) pgs_nil))))))
    (pss_cons (ps_set (i := 8) sc__law_deed.nd rfl (.inl rfl) (pe_c (c__law_name T) hr (by decide) (by rfl) (pa_cons (pv 4) pa_nil)))
    (pss_cons (ps_set (i := 5) sc__law_deed.nd rfl (.inl rfl) (pe_ix ix_seq (pe_lst (pa_cons (pe_op op_mod (pv 5) (pe_c (c__law_sides T) hr (by decide) (by rfl) (pa_cons (pv 1) pa_nil))) (pa_cons (pe_callB (call_min2A rfl) (by rfl) T.n_min (by decide +kernel) (pa_cons (pv 5) (pa_cons (pe_op op_sub (pe_c (c__law_sides T) hr (by decide) (by rfl) (pa_cons (pv 1) pa_nil)) pe_int) pa_nil))) (pa_cons pe_int pa_nil)))) (pv 7) (fun _ _ => rfl)))
    (Evl.pss_cut (ps_if (pt_cmpR (op_eqA hr) (pv 6) pe_int (nomark _))
    (pss_one (ps_set (i := 8) sc__law_deed.nd rfl (.inl rfl) (pe_c (c__law_bad T) hr (by decide) (by rfl) (pa_cons (pv 4) pa_nil))))
    pss_nil)
    (Evl.pss_cut (ps_if (PW.pt (pw_or (pt_cmpR (op_eqA hr) (pv 6) pe_int (nomark _)) (pw_or1 (PW.pt (pw_and (pt_cmpR (op_eqA hr) (pv 6) pe_int (nomark _)) (pw_and1 (pt_cmpR (op_eqA hr) (pv 7) pe_int (nomark _))))))))
    (pss_one (ps_set (i := 5) sc__law_deed.nd rfl (.inl rfl) (pe_ix ix_seq (pe_lst (pa_cons (pe_c (c__law_sides T) hr (by decide) (by rfl) (pa_cons (pv 1) pa_nil)) (pa_cons (pe_c (c__law_bad T) hr (by decide) (by rfl) (pa_cons (pv 5) pa_nil)) (pa_cons (pe_un un_neg pe_int) pa_nil)))) (pv 7) (fun _ _ => rfl))))
    pss_nil)
    (Evl.pss_cut (ps_set (i := 9) sc__law_deed.nd rfl (.inl rfl) (pe_or (pe_cmpR (op_eqA hr) (pv 6) pe_int (nomark _)) (pe_one (pe_and (pe_cmpR (op_eqA hr) (pv 6) pe_int (nomark _)) (pe_one (pe_cmpR op_ltA (pe_dget (hu_of hr) (pv 1) pe_str (fun _ _ => rfl)) (pe_dget (hu_of hr) (pv 1) pe_str (fun _ _ => rfl)) (nomark _)))))))
    (Evl.pss_cut (ps_if (pt_val (pv 9))
    (pss_one (ps_set (i := 5) sc__law_deed.nd rfl (.inl rfl) pe_int))
    pss_nil)
    (pss_cons (ps_set (i := 10) sc__law_deed.nd rfl (.inl rfl) (pe_c (c__law_due T) hr (by decide) (by rfl) (pa_cons (pv 1) (pa_cons (pv 8) (pa_cons (pv 5) pa_nil)))))
    (pss_cons (ps_if (pt_cmpR (op_neA hr) (pe_c (c__law_come T) hr (by decide) (by rfl) (pa_cons (pv 0) (pa_cons (pv 8) (pa_cons (pv 5) (pa_cons (pv 9) pa_nil))))) (pv 10) (nomark _))
    (pss_one (ps_ret pe_bl))
    pss_nil)
    (pss_cons (ps_if (pt_cmpR (op_eqA hr) (pv 10) pe_str (nomark _))
    (pss_one (ps_expr (pe_c (c__law_kept T) hr (by decide) (by rfl) (pa_cons (pv 1) (pa_cons (pv 8) (pa_cons (pv 5) pa_nil))))))
    pss_nil)
    (pss_one (ps_ret (pe_c (c__law_stands T) hr (by decide) (by rfl) (pa_cons (pv 0) (pa_cons (pv 1) pa_nil))))))))))))))), ?_⟩
  try simp only [cxOf_K, cxOf_K', cxOf_mg, cxOf_mg']
  unfold sp__law_deed at h
  split at h
  case h_2 => exact h.elim
  rename_i x d c dg
  rw [show L2.start ["_law_pot", "_law_state", "_law_cell", "_law_digits", "_law_name_here", "_law_throw", "_law_way", "_law_part", "_law_thing", "_law_bare", "_law_due_here"] [V.ref x, V.ref d, V.int c, V.bl dg] = [some (V.ref x), some (V.ref d), some (V.int c), some (V.bl dg), none, none, none, none, none, none, none] from rfl]
  obtain ⟨dx, pl, sl, most, came, zs, hw, q⟩ := h
  walk_at "sts"
  walk_at "nw"
  rename_i p0 hp0 H1 s1 e1
  walk_at "sts"
  refine ⟨[140608, 301, 12, 3], e1, by decide, by decide, fun p2 H2 hp2 s2 e2 => ?_⟩
  obtain ⟨nm, th, way, part, e, hnm, hth, hway, hpart⟩ := nums4 (d := dg) (c := c) (b1 := 140608) (b2 := 301) (b3 := 12) (b4 := 3) (by decide)
  rw [e] at e2
  replace e2 : H2 p2 = some (HO.lst [V.int nm, V.int th, V.int way, V.int part]) := e2
  refine L_gLst (.of e2) rfl ?_
  have s02 := s1.trans s2
  walk_at "sts"
  refine ⟨hnm.1, hnm.2, fun z hz => ?_⟩
  have hsd := sides_b (most := most) hw.p.p
  walk_at "sts"
  refine ⟨sl, most, came, _, hw.s.same s02, ?_⟩
  walk_at "sts"
  refine L_I (by omega) ?_
  walk_at "sts"
  refine ⟨sl, most, came, _, hw.s.same s02, ?_⟩
  walk_at "sts"
  walk_at "nw"
  rename_i p3 hp3 H3 s3 e3
  have s03 := s02.trans s3
  have t0 := Int.emod_nonneg th (show sidesOf most came ≠ 0 by omega)
  have t1 := Int.emod_lt_of_pos th (show 0 < sidesOf most came by omega)
  walk_at "sts"
  refine L_ixP (ns := [th % sidesOf most came, min th (sidesOf most came - 1), 0]) (P := fun t => 0 ≤ t ∧ t ≤ sidesOf most came - 1) (.of e3) (fun v hv => ?_) hpart.1 hpart.2 fun tt htt => ?_
  · simp only [List.mem_cons, List.not_mem_nil, or_false] at hv
    rcases hv with rfl | rfl | rfl <;> omega
  walk_at "sts"
  refine L_cut (Mid := fun σ' H' => Same H H' ∧ ∃ (v : V) (o : Option Str), ThJ K H' v o ∧ σ' = [some (.ref x), some (.ref d), some (.int c), some (.bl dg), some (.int nm), some (.int tt), some (.int way), some (.int part), some v, none, none]) ?_ ?_
  · walk_at "sts"
    refine L_d (fun c1 => ?_) (fun c1 => ?_)
    · walk_at "sts"
      intro v H4 s4 hv _
      walk_at "sts"
      exact ⟨s03.trans s4, v, none, hv, rfl⟩
    · walk_at "sts"
      exact ⟨s03, _, _, th_name hz, rfl⟩
  rintro σ' H4 ⟨s4, v, o, hv, rfl⟩
  refine L_cut (Mid := fun σ' H' => Same H4 H' ∧ ∃ (w : V) (u : Option Int), TwJ K H' w (sidesOf most came - 1) u ∧ σ' = [some (.ref x), some (.ref d), some (.int c), some (.bl dg), some (.int nm), some w, some (.int way), some (.int part), some v, none, none]) ?_ ?_
  · have stay : ∃ (w : V) (u : Option Int), TwJ K H4 w (sidesOf most came - 1) u ∧ [some (V.ref x), some (.ref d), some (.int c), some (.bl dg), some (.int nm), some (.int tt), some (.int way), some (.int part), some v, none, none] = [some (.ref x), some (.ref d), some (.int c), some (.bl dg), some (.int nm), some w, some (.int way), some (.int part), some v, none, none] := ⟨_, some tt, ⟨rfl, htt.1, htt.2⟩, rfl⟩
    have move : ∀ {D : L2.St → Hp → Prop}, (∀ w u H', Same H4 H' → TwJ K H' w (sidesOf most came - 1) u → D [some (.ref x), some (.ref d), some (.int c), some (.bl dg), some (.int nm), some w, some (.int way), some (.int part), some v, none, none] H') → tAsg (tOp (rIx K) (tLst (tCons (tCall (sp__law_sides K mg) [] E0 (tCons (tVar 1) tNil)) (tCons (tCall (sp__law_bad K mg) [] E0 (tCons (tVar 5) tNil)) (tCons (tUn (rU fun i => V.int (-i)) (tC (V.int 1))) tNil)))) (tVar 7)) (gName 5) ⟨D, Q, fun _ _ => False, fun _ _ => False⟩ [some (.ref x), some (.ref d), some (.int c), some (.bl dg), some (.int nm), some (.int tt), some (.int way), some (.int part), some v, none, none] H4 := fun {D} k => by
      walk_at "sts"
      refine ⟨sl, most, came, _, hw.s.same s4, ?_⟩
      walk_at "sts"
      intro w5 H5 s5 _ hw5
      walk_at "sts"
      walk_at "nw"
      rename_i p6 hp6 H6 s6 e6
      walk_at "sts"
      refine L_menuV (.of e6) hpart.1 hpart.2 fun w hw => ?_
      have hj : ∃ u, TwJ K H6 w (sidesOf most came - 1) u := by
        simp only [List.mem_cons, List.not_mem_nil, or_false] at hw
        rcases hw with rfl | rfl | rfl
        · exact tw_int
        · rcases hw5 with ⟨t, rfl, _⟩ | hw5
          · exact tw_int
          · exact ⟨none, .inl (hw5.same s6)⟩
        · exact tw_int
      obtain ⟨u, hu⟩ := hj
      walk_at "sts"
      exact k w u _ (s5.trans s6) hu
    walk_at "sts"
    refine L_d (fun c1 => ?_) (fun c1 => ?_)
    · refine L_T ?_
      exact move fun w u H' s h => ⟨s, w, u, h, rfl⟩
    · walk_at "sts"
      refine L_d (fun c2 => ?_) (fun c2 => ?_)
      · walk_at "sts"
        refine L_d (fun c3 => ?_) (fun c3 => ?_)
        · first
            | exact move fun w u H' s h => ⟨s, w, u, h, rfl⟩
            | (refine L_T ?_; exact move fun w u H' s h => ⟨s, w, u, h, rfl⟩)
        · walk_at "sts"
          exact ⟨Same.refl _, stay⟩
      · walk_at "sts"
        exact ⟨Same.refl _, stay⟩
  rintro σ' H5 ⟨s5, w, u, hu, rfl⟩
  have s05 := s4.trans s5
  refine L_cut (Mid := fun σ' H' => H' = H5 ∧ ∃ b : Bool, σ' = [some (.ref x), some (.ref d), some (.int c), some (.bl dg), some (.int nm), some w, some (.int way), some (.int part), some v, some (.bl b), none]) ?_ ?_
  · walk_at "sts"
    refine L_d (fun c1 => ?_) (fun c1 => ?_)
    · walk_at "sts"
      exact ⟨rfl, _, rfl⟩
    · walk_at "sts"
      refine L_d (fun c2 => ?_) (fun c2 => ?_)
      · walk_at "sts"
        refine L_dgetv (k := .inr "came") rfl (s05 _ _ hw.s.hd) st_came ?_
        walk_at "sts"
        refine L_dgetv (k := .inr "most") rfl (s05 _ _ hw.s.hd) st_most ?_
        walk_at "sts"
        exact ⟨rfl, _, rfl⟩
      · walk_at "sts"
        exact ⟨rfl, _, rfl⟩
  rintro σ' H6 ⟨rfl, b, rfl⟩
  refine L_cut (Mid := fun σ' H' => H' = H6 ∧ ∃ (w : V) (u : Option Int), TwJ K H6 w (sidesOf most came - 1) u ∧ (b = true → w = .int 0) ∧ σ' = [some (.ref x), some (.ref d), some (.int c), some (.bl dg), some (.int nm), some w, some (.int way), some (.int part), some v, some (.bl b), none]) ?_ ?_
  · walk_at "sts"
    refine L_b (fun hb => ?_) (fun hb => ?_)
    · walk_at "sts"
      exact ⟨rfl, _, some 0, ⟨rfl, by decide, by omega⟩, fun _ => rfl, rfl⟩
    · walk_at "sts"
      exact ⟨rfl, _, u, hu, (fun z => by rw [hb] at z; cases z), rfl⟩
  clear hu
  rintro σ' H7 ⟨rfl, w, u, hu, hb, rfl⟩
  have hwp := hw.p.p
  have hwm := hw.p.m
  have hwl := hw.p.len
  have hw5 := hw.same s05
  have hv5 := hv.same s5
  obtain ⟨a1, a2, a3, a4, a5⟩ := hw.apart
  walk_at "sts"
  refine ⟨sl, most, came, _, o, u, hw5.s, hwp.1, hwp.2, hv5, hu, fun H8 s8 => ?_⟩
  walk_at "sts"
  have hw8 := hw5.same s8
  refine ⟨dx, pl, most, came, _, o, u, hw8.p, hv5.same s8, hu.same s8, hb, ?_⟩
  have bad : ∀ H9, Same H8 H9 → Q (.bl true) H9 := fun H9 s9 => q H9 came zs (fun b' o' e _ _ _ _ => (s05.trans (s8.trans s9)) _ _ e) (hw8.same s9)
  have stand : ∀ {Q' : VK} H9, Same H8 H9 → (∀ H', Same H8 H' → Q' (.bl true) H') → sp__law_stands K mg [.ref x, .ref d] H9 Q' E0 := fun {Q'} H9 s9 k => ⟨dx, pl, sl, most, came, zs, hw8.same s9, fun H' s' => k H' (s9.trans s')⟩
  cases hc : comeOf o came u with
  | thing =>
    intro H9 s9
    walk_at "sts"
    refine L_ndF rfl ?_
    walk_at "sts"
    refine L_dF (by decide +kernel) ?_
    walk_at "sts"
    exact stand _ s9 bad
  | many =>
    intro H9 s9
    walk_at "sts"
    refine L_ndF rfl ?_
    walk_at "sts"
    refine L_dF (by decide +kernel) ?_
    walk_at "sts"
    exact stand _ s9 bad
  | throw =>
    intro H9 s9
    walk_at "sts"
    refine L_ndF rfl ?_
    walk_at "sts"
    refine L_dF (by decide +kernel) ?_
    walk_at "sts"
    exact stand _ s9 bad
  | good z' t =>
    intro H9 fr hp9
    obtain ⟨rfl, rfl⟩ : o = some z' ∧ u = some t := by
      unfold comeOf at hc
      split at hc
      · cases hc
      · split at hc
        · cases hc
        · split at hc
          · cases hc
          · cases hc
            exact ⟨rfl, rfl⟩
    obtain ⟨rfl, _, hzn⟩ := hv
    obtain ⟨rfl, ht0, ht1⟩ := hu
    walk_at "sts"
    refine L_ndF rfl ?_
    walk_at "sts"
    refine L_dT rfl ?_
    walk_at "sts"
    have hs9 : StAt H9 d sl most came (zs.map V.str) := ⟨fr _ _ hw8.s.hd a1.symm a3.symm, fr _ _ hw8.s.hs a2.symm hw.ne.symm⟩
    refine ⟨sl, most, came, _, hs9, hwm.1, ht0, hwl, by omega, fun H10 fr10 hs10 => ?_⟩
    rw [kept_map] at hp9 hs10
    have hp10 : PotAt mg H10 x dx pl most (came + 1) ((keptS most came zs z' t).map V.str) := ⟨fr10 _ _ hp9.hx a1 a2, fr10 _ _ hp9.hl a3 hw.ne, hp9.m, hp9.p, hp9.len⟩
    have hw10 : Wd mg H10 x dx pl d sl most (came + 1) (keptS most came zs z' t) := ⟨hp10, hs10, hw.ne, kept_ok hw.ok (isName_ok hzn).1⟩
    walk_at "sts"
    refine ⟨dx, pl, sl, most, came + 1, _, hw10, fun H11 s11 => ?_⟩
    exact q H11 _ _ (fun b' o' e n1 n2 n3 n4 => s11 _ _ (fr10 _ _ (fr _ _ ((s05.trans s8) _ _ e) n1 n2) n3 n4)) (hw10.same s11)
def sp__law_no_pot (K : PySem.W.Frag) (mg : Str → Option Value) : Sp := fun vs H Q _ => match vs with | [v] => BadW K H v 1 24 ∧ ∀ H', Same H H' → Q (.bl true) H' | _ => False
theorem q__law_no_pot {H : Hp} {Q : VK} {E : XK} {v : V} (q : BadW K H v 1 24 ∧ ∀ H', Same H H' → Q (.bl true) H') : sp__law_no_pot K mg [v] H Q E := q
local macro_rules | `(tactic| walk_at "op") => `(tactic| with_reducible refine q__law_no_pot ?_)
theorem c__law_no_pot (T : Txt K mg) : Cal P w K mg base 5 "_law_no_pot" (sp__law_no_pot K mg) := by
  refine T.d__law_no_pot.cal (k := 4) sc__law_no_pot (by intro vs H Q E h; unfold sp__law_no_pot at h; split at h <;> first | rfl | exact h.elim) fun f cdv A outer s H vs Q E hr h => ?_
  refine ⟨_, (pss_cons (ps_set (i := 1) sc__law_no_pot.nd rfl (.inl rfl) pe_bl)
    (pss_cons (ps_try_only (tb := fun W => (tDrop (tMakeE (cA mg "Pot") (sp_Pot___init__ K mg) (fun σ => WE W σ) (tCons (tVar 0) tNil)))) (ts := fun _ _ _ => (tAsg (tC (.bl true)) (gName 1))) rfl rfl ⟨rfl, by decide, .inl T.m_NoThing⟩ takes0 (fun W pn xe tk po => by exact (pss_one (ps_expr (pe_xMk (m_Pot T) hr (by decide) (by rfl) (fun σ => passAt tk σ) (pa_cons (pv 0) pa_nil))))) (fun a oe cls d pn _ _ => by exact (pss_one (ps_set (i := 1) sc__law_no_pot.nd rfl (.inl rfl) pe_bl))))
    (pss_one (ps_ret (pv 1))))), ?_⟩
  try simp only [cxOf_K, cxOf_K', cxOf_mg, cxOf_mg']
  unfold sp__law_no_pot at h
  split at h
  case h_2 => exact h.elim
  rename_i v
  rw [show L2.start ["_law_thing", "_law_refused"] [v] = [some (v), none] from rfl]
  obtain ⟨hb, q⟩ := h
  walk_at "sts"
  intro x dx nx nd ne
  have sx := (same_new (o := HO.own x) nd).trans (same_new (o := HO.ins (cA mg "Pot") dx []) (by rw [upd_ne ne.symm]; exact nx))
  refine ⟨dx, upd_same, .inl ⟨hb.same sx, ?_⟩⟩
  refine L_only (T.y_NoThing.exm T.e_NoThing_NoThing) fun a na => ?_
  walk_at "sts"
  exact q _ sx
theorem L_disp3 {σ : L2.St} {H : Hp} {Q : VK} {a1 b1 a2 b2 a3 b3 : TE} (h : ∀ p, H p = none → a1 σ (upd H p (.dK [])) fun k1 H1 => b1 σ H1 fun v1 H2 => a2 σ H2 fun k2 H3 => b2 σ H3 fun v2 H4 => a3 σ H4 fun k3 H5 => b3 σ H5 fun v3 H6 =>
    H6 p = some (.dK []) ∧ ∃ kvs : List (Key × V), [(k1, v1), (k2, v2), (k3, v3)] = kvs.map (fun kv => (kV kv.1, kv.2)) ∧ kvs.length ≤ 15 ∧ Q (.ref p) (upd H6 p (.dK (mergeK [] kvs)))) : tDisp [(a1, b1), (a2, b2), (a3, b3)] σ H Q := h
theorem st_merge {most came : Int} {sl : Addr} : mergeK [] (stK most came sl) = stK most came sl := by with_unfolding_all rfl
def sp_law (K : PySem.W.Frag) (mg : Str → Option Value) : Sp := fun vs H Q _ => match vs with | [.ref a] => ∃ ns : List Int, SqL K H a (ns.map V.int) ∧ ns.length ≤ 63 ∧ (∀ z ∈ ns, Builtin.Int.intBits z ≤ 1048576) ∧ ∀ H', Q (.bl true) H' | _ => False
theorem q_law {H : Hp} {Q : VK} {E : XK} {a : Addr} (q : ∃ ns : List Int, SqL K H a (ns.map V.int) ∧ ns.length ≤ 63 ∧ (∀ z ∈ ns, Builtin.Int.intBits z ≤ 1048576) ∧ ∀ H', Q (.bl true) H') : sp_law K mg [.ref a] H Q E := q
local macro_rules | `(tactic| walk_at "op") => `(tactic| with_reducible refine q_law ?_)
theorem c_law (T : Txt K mg) {f : Addr} {fd : FuncData} (F : Fun K "law" "law" s_law f fd) : FnOk P w K mg base CX0 6 f fd ["_law_script"] (sp_law K mg) := by
  refine F.ok (k := 5) sc_law (by intro vs H Q E h; unfold sp_law at h; split at h <;> first | rfl | exact h.elim) fun cdv A outer s H vs Q E hr h => ?_
  refine ⟨_, (pss_cons (ps_set (i := 1) sc_law.nd rfl (.inl rfl) (pe_cmpR (op_eqA hr) (pe_op op_mod (pe_c (c__law_cell_at T) hr (by decide) (by rfl) (pa_cons (pv 0) (pa_cons pe_int pa_nil))) pe_int) pe_int (nomark _)))
    (pss_cons (ps_asg (pe_c (c__law_numbers T) hr (by decide) (by rfl) (pa_cons (pe_c (c__law_cell_at T) hr (by decide) (by rfl) (pa_cons (pv 0) (pa_cons pe_int pa_nil))) (pa_cons (pv 1) (pa_cons (pe_lst (pa_cons pe_int (pa_cons pe_int (pa_cons pe_int (pa_cons pe_int pa_nil))))) pa_nil)))) (pg_lst rfl (pgs_cons (pg_name (i := 2) sc_law.nd rfl (.inl rfl)) (pgs_cons (pg_name (i := 3) sc_law.nd rfl (.inl rfl)) (pgs_cons (pg_name (i := 4) sc_law.nd rfl (.inl rfl)) (pgs_cons (pg_name (i := 5) sc_law.nd rfl (.inl rfl)) pgs_nil))))))
    (pss_cons (ps_set (i := 6) sc_law.nd rfl (.inl rfl) (pe_disp (pps_cons pe_str (pe_op op_addA (pv 2) pe_int) (pps_cons pe_str pe_int (pps_cons pe_str (pe_lst pa_nil) pps_nil))) (by rfl) (by rfl) (fun z => by cases z) (by decide)))
    (pss_cons (ps_set (i := 7) sc_law.nd rfl (.inl rfl) (pe_xMk (m_Pot T) hr (by decide) (by rfl) (fun σ => passN σ) (pa_cons (pe_op op_addA (pv 2) pe_int) pa_nil)))
    (pss_cons (ps_set (i := 8) sc_law.nd rfl (.inl rfl) (pe_xMk (m_Pot T) hr (by decide) (by rfl) (fun σ => passN σ) (pa_cons pe_int pa_nil)))
    (Evl.pss_cut (ps_if (pt_cmpR (op_eqA hr) (pv 3) pe_int (nomark _))
    (pss_one (ps_for PassesOwn.never rfl (pi_range1 (by rfl) T.n_range (pa_cons (pe_op op_addA pe_int (pv 4)) pa_nil)) (pg_name (i := 9) sc_law.nd rfl (.inl rfl))
    (pss_cons (ps_expr (pe_xMt (c_Pot_come T).m hr (by decide) (fun σ => passN σ) (pv 7) (pa_cons pe_str (pa_cons (pe_op op_mod (pv 9) (pe_c (c__law_sides T) hr (by decide) (by rfl) (pa_cons (pv 6) pa_nil))) pa_nil))))
    (pss_one (ps_expr (pe_c (c__law_kept T) hr (by decide) (by rfl) (pa_cons (pv 6) (pa_cons pe_str (pa_cons (pe_op op_mod (pv 9) (pe_c (c__law_sides T) hr (by decide) (by rfl) (pa_cons (pv 6) pa_nil))) pa_nil)))))))))
    pss_nil)
    (pss_cons (ps_for PassesOwn.never rfl (pi_list (pe_op op_addA (pe_slice sl_list (pv 0) (po_some pe_int) (po_some pe_int)) (pe_lst (pa_cons pe_int pa_nil)))) (pg_name (i := 10) sc_law.nd rfl (.inl rfl))
    (pss_one (ps_if (pt_not (pt_val (pe_c (c__law_deed T) hr (by decide) (by rfl) (pa_cons (pv 7) (pa_cons (pv 6) (pa_cons (pv 10) (pa_cons (pv 1) pa_nil)))))))
    (pss_one (ps_ret pe_bl))
    pss_nil)))
    (pss_cons (ps_if (PW.pt (pw_or (pt_cmpR (op_neA hr) (pe_mt0 (c_Pot_things T) hr (by decide) (pv 8)) (pe_lst pa_nil) (nomark _)) (pw_or (pt_cmpR (op_neA hr) (pe_mt0 (c_Pot_came T) hr (by decide) (pv 8)) pe_int (nomark _)) (pw_or1 (pt_cmpR (op_neA hr) (pe_mt0 (c_Pot_next_sides T) hr (by decide) (pv 8)) pe_int (nomark _))))))
    (pss_one (ps_ret pe_bl))
    pss_nil)
    (pss_one (ps_ret (pe_c (c__law_no_pot T) hr (by decide) (by rfl) (pa_cons (pe_ix ix_seq (pe_lst (pa_cons pe_int (pa_cons pe_int (pa_cons pe_non (pa_cons (pe_un un_neg pe_int) (pa_cons pe_bl (pa_cons pe_str (pa_cons (pe_lst (pa_cons pe_int pa_nil)) (pa_cons (pe_op op_pow pe_int pe_int) (pa_cons (pe_tup pa_nil) (pa_cons pe_dnewK (pa_cons pe_bl (pa_cons pe_int (pa_cons (pe_un un_neg pe_int) (pa_cons pe_str (pa_cons pe_int (pa_cons pe_str pa_nil))))))))))))))))) (pv 5) (fun _ _ => rfl)) pa_nil)))))))))))), ?_⟩
  try simp only [cxOf_K, cxOf_K', cxOf_mg, cxOf_mg']
  unfold sp_law at h
  split at h
  case h_2 => exact h.elim
  rename_i a
  rw [show L2.start ["_law_script", "_law_digits", "_law_most", "_law_full", "_law_early", "_law_bad_here", "_law_state", "_law_pot", "_law_other", "_law_k", "_law_cell"] [V.ref a] = [some (V.ref a), none, none, none, none, none, none, none, none, none, none] from rfl]
  obtain ⟨ns, hS, hl, hbits, q⟩ := h
  walk_at "sts"
  refine ⟨ns, hS, by decide, ?_⟩
  walk_at "sa"
  generalize hdg : decide (cellAt ns 0 0 % 2 = 1) = dg
  refine ⟨ns, hS, by decide, ?_⟩
  walk_at "sts"
  walk_at "nw"
  rename_i p0 hp0 H1 s1 e1
  walk_at "sts"
  refine ⟨[24, 8, 21, 16], e1, by decide, by decide, fun p2 H2 hp2 s2 e2 => ?_⟩
  obtain ⟨mo, fu, ea, bd, e, hmo, hfu, hea, hbd⟩ := nums4 (d := dg) (c := cellAt ns 1 0) (b1 := 24) (b2 := 8) (b3 := 21) (b4 := 16) (by decide)
  rw [e] at e2
  replace e2 : H2 p2 = some (HO.lst [V.int mo, V.int fu, V.int ea, V.int bd]) := e2
  refine L_gLst (.of e2) rfl ?_
  have s02 := s1.trans s2
  walk_at "sts"
  refine L_disp3 fun d hd => ?_
  walk_at "sts"
  walk_at "nw"
  rename_i sl hsl H3 s3 e3
  have sd3 : Same H2 (upd H3 d (.dK (stK (mo + 1) 0 sl))) := same_mut ((same_new (o := HO.dK []) hd).trans s3) hd
  have nsl : sl ≠ d := ne_new hsl ⟨_, upd_same⟩
  walk_at "sts"
  refine ⟨s3 _ _ upd_same, stK (mo + 1) 0 sl, rfl, by show 3 ≤ 15; decide, ?_⟩
  rw [st_merge]
  have hst : StAt (upd H3 d (.dK (stK (mo + 1) 0 sl))) d sl (mo + 1) 0 [] := ⟨upd_same, by rw [upd_ne nsl]; exact e3⟩
  generalize upd H3 d (.dK (stK (mo + 1) 0 sl)) = H4 at sd3 hst
  walk_at "sts"
  intro x dx nx nd ne
  have sx := (same_new (o := HO.own x) nd).trans (same_new (o := HO.ins (cA mg "Pot") dx []) (by rw [upd_ne ne.symm]; exact nx))
  refine ⟨dx, upd_same, .inr ⟨mo + 1, rfl, by omega, by omega, fun pl H5 hpl k5 hp5 => ⟨rfl, ?_⟩⟩⟩
  have s5 : Same H4 H5 := Same.made nx nd k5
  have hw5 : Wd mg H5 x dx pl d sl (mo + 1) 0 [] := ⟨hp5, hst.same s5, ne_new hpl ⟨_, sx _ _ hst.hs⟩, fun z hz => nomatch hz⟩
  walk_at "sts"
  intro y dy ny ndy ney
  have sy := (same_new (o := HO.own y) ndy).trans (same_new (o := HO.ins (cA mg "Pot") dy []) (by rw [upd_ne ney.symm]; exact ny))
  refine ⟨dy, upd_same, .inr ⟨1, rfl, by decide, by decide, fun ql H6 hql k6 hp6 => ⟨rfl, ?_⟩⟩⟩
  have s6 : Same H5 H6 := Same.made ny ndy k6
  have hw6 := hw5.same s6
  have hS6 : SqL K H6 a (ns.map V.int) := (s02.trans (sd3.trans (s5.trans s6))).seq hS
  have z0 : H x = none ∧ H pl = none ∧ H d = none ∧ H sl = none := by
    have h2 : H2 d = none := hd
    have h4 : Same H H4 := s02.trans sd3
    refine ⟨h4.free nx, (h4.trans sx).free hpl, s02.free hd, ?_⟩
    exact (s02.trans (same_new (o := HO.dK []) hd)).free hsl
  have yne : y ≠ x ∧ y ≠ pl ∧ y ≠ d ∧ y ≠ sl := ⟨ne_new ny ⟨_, hw5.p.hx⟩, ne_new ny ⟨_, hw5.p.hl⟩, ne_new ny ⟨_, hw5.s.hd⟩, ne_new ny ⟨_, hw5.s.hs⟩⟩
  have qln := sy.free hql
  have qne : ql ≠ x ∧ ql ≠ pl ∧ ql ≠ d ∧ ql ≠ sl := ⟨ne_new qln ⟨_, hw5.p.hx⟩, ne_new qln ⟨_, hw5.p.hl⟩, ne_new qln ⟨_, hw5.s.hd⟩, ne_new qln ⟨_, hw5.s.hs⟩⟩
  have frS : ∀ {Ha Hb : Hp}, FrD Ha Hb x pl d sl → Same H Ha → Same H Hb := fun {Ha Hb} f s b o e => f b o (s b o e) (fun z => by rw [z, z0.1] at e; cases e) (fun z => by rw [z, z0.2.1] at e; cases e) (fun z => by rw [z, z0.2.2.1] at e; cases e) (fun z => by rw [z, z0.2.2.2] at e; cases e)
  have frO : ∀ {Ha Hb : Hp}, FrD Ha Hb x pl d sl → PotAt mg Ha y dy ql 1 0 [] → PotAt mg Hb y dy ql 1 0 [] := fun {Ha Hb} f h => ⟨f _ _ h.hx yne.1 yne.2.1 yne.2.2.1 yne.2.2.2, f _ _ h.hl qne.1 qne.2.1 qne.2.2.1 qne.2.2.2, h.m, h.p, h.len⟩
  obtain ⟨a1, a2, a3, a4, a5⟩ := hw6.apart
  have hs06 : Same H H6 := s02.trans (sd3.trans (s5.trans s6))
  clear s1 e1 e2 s3 e3 sd3 nsl hst sx k5 hp5 hpl s5 hw5 sy k6 hql s6 nx nd ne ny ndy ney hd hsl hp0 hp2 s2
  have hna : isName (Str.ofString "a") = true := by decide +kernel
  walk_at "sts"
  refine L_cut (Mid := fun σ' H' => ∃ (came : Int) (zs : List Str) (v9 v10 : Option V), Wd mg H' x dx pl d sl (mo + 1) came zs ∧ Same H H' ∧ PotAt mg H' y dy ql 1 0 [] ∧ σ' = [some (.ref a), some (.bl dg), some (.int mo), some (.int fu), some (.int ea), some (.int bd), some (.ref d), some (.ref x), some (.ref y), v9, v10]) ?_ ?_
  · walk_at "sts"
    refine L_d (fun c1 => ?_) (fun c1 => ?_)
    · walk_at "sts"
      refine L_r1 (by omega) (by omega) ?_
      refine f_range (fun i σ' H' => ∃ (zs : List Str) (v9 v10 : Option V), Wd mg H' x dx pl d sl (mo + 1) (i : Int) zs ∧ Same H H' ∧ PotAt mg H' y dy ql 1 0 [] ∧ σ' = [some (.ref a), some (.bl dg), some (.int mo), some (.int fu), some (.int ea), some (.int bd), some (.ref d), some (.ref x), some (.ref y), v9, v10]) ⟨_, _, _, hw6, hs06, hp6, rfl⟩ ?_ ?_
      · rintro i σ' H7 hi ⟨zs, v9, v10, hw7, s7, hp7, rfl⟩
        have hsd := sides_b (most := mo + 1) hw7.p.p
        have t0 := Int.emod_nonneg (0 + (i : Int)) (show sidesOf (mo + 1) (i : Int) ≠ 0 by omega)
        have t1 := Int.emod_lt_of_pos (0 + (i : Int)) (show 0 < sidesOf (mo + 1) (i : Int) by omega)
        walk_at "sts"
        refine L_methv hw7.p.hx rfl ?_
        walk_at "sts"
        refine ⟨sl, mo + 1, (i : Int), _, hw7.s, ?_⟩
        walk_at "sts"
        refine L_I (by omega) ?_
        obtain ⟨tt, htt⟩ : ∃ tt, tt = (0 + (i : Int)) % sidesOf (mo + 1) (i : Int) := ⟨_, rfl⟩
        rw [← htt] at t0 t1 ⊢
        have ec : comeOf (some (Str.ofString "a")) (i : Int) (some tt) = .good (Str.ofString "a") tt := if_neg (by omega)
        refine ⟨dx, pl, mo + 1, (i : Int), _, some (Str.ofString "a"), some tt, hw7.p, th_name hna, ⟨rfl, t0, by omega⟩, ?_⟩
        rw [ec]
        intro H8 fr hp8
        walk_at "sts"
        have hs8 : StAt H8 d sl (mo + 1) (i : Int) (zs.map V.str) := ⟨fr _ _ hw7.s.hd a1.symm a3.symm, fr _ _ hw7.s.hs a2.symm hw7.ne.symm⟩
        refine ⟨sl, mo + 1, (i : Int), _, hs8, ?_⟩
        walk_at "sts"
        refine L_I (by omega) ?_
        rw [← htt]
        have hwl := hw7.p.len
        refine ⟨sl, mo + 1, (i : Int), _, hs8, by omega, t0, hwl, by omega, fun H9 fr9 hs9 => ?_⟩
        rw [kept_map] at hp8 hs9
        have hp9 : PotAt mg H9 x dx pl (mo + 1) ((i : Int) + 1) ((keptS (mo + 1) (i : Int) zs (Str.ofString "a") tt).map V.str) := ⟨fr9 _ _ hp8.hx a1 a2, fr9 _ _ hp8.hl a3 hw7.ne, hp8.m, hp8.p, hp8.len⟩
        have hw9 : Wd mg H9 x dx pl d sl (mo + 1) ((i : Int) + 1) (keptS (mo + 1) (i : Int) zs (Str.ofString "a") tt) := ⟨hp9, hs9, hw7.ne, kept_ok hw7.ok (isName_ok hna).1⟩
        have fr79 : FrD H7 H9 x pl d sl := fun b' o' e n1 n2 n3 n4 => fr9 _ _ (fr _ _ e n1 n2) n3 n4
        refine ⟨_, _, _, (show ((i + 1 : Nat) : Int) = (i : Int) + 1 by omega) ▸ hw9, frS fr79 s7, frO fr79 hp7, rfl⟩
      · rintro σ' H7 ⟨zs, v9, v10, hw7, s7, hp7, rfl⟩
        exact ⟨_, zs, _, _, hw7, s7, hp7, rfl⟩
    · walk_at "sts"
      exact ⟨0, [], _, _, hw6, hs06, hp6, rfl⟩
  rintro σ' H7 ⟨came, zs, v9, v10, hw7, s7, hp7, rfl⟩
  walk_at "sts"
  refine L_slL (s7.seq hS) ?_
  walk_at "nwp"
  rename_i p8 hp8 H8 s8 e8
  rw [cutV_map] at e8
  walk_at "sts"
  walk_at "nw"
  rename_i p9 hp9 H9 s9 e9
  have hcl := cutG_len ns (some 2) (some 62)
  refine L_addL (s9 _ _ e8) e9 (sz_dec (by rw [List.length_map, List.length_singleton]; omega)) ?_
  walk_at "nwp"
  rename_i p10 hp10 H10 s10 e10
  have e10' : H10 p10 = some (.lst ((cutG ns (some 2) (some 62) ++ [0]).map V.int)) := by rw [List.map_append]; exact e10
  have s710 : Same H7 H10 := s8.trans (s9.trans s10)
  have zc : p10 ≠ x ∧ p10 ≠ pl ∧ p10 ≠ d ∧ p10 ≠ sl := by
    have := (s8.trans s9)
    exact ⟨ne_new hp10 ⟨_, this _ _ hw7.p.hx⟩, ne_new hp10 ⟨_, this _ _ hw7.p.hl⟩, ne_new hp10 ⟨_, this _ _ hw7.s.hd⟩, ne_new hp10 ⟨_, this _ _ hw7.s.hs⟩⟩
  walk_at "sts"
  refine L_rl (.of e10') ?_
  refine f_it walk_list (fun i σ' H' => ∃ (came : Int) (zs : List Str) (v10 : Option V), Wd mg H' x dx pl d sl (mo + 1) came zs ∧ H' p10 = some (.lst ((cutG ns (some 2) (some 62) ++ [0]).map V.int)) ∧ PotAt mg H' y dy ql 1 0 [] ∧ σ' = [some (.ref a), some (.bl dg), some (.int mo), some (.int fu), some (.int ea), some (.int bd), some (.ref d), some (.ref x), some (.ref y), v9, v10]) ⟨came, zs, _, hw7.same s710, e10', hp7.same s710, rfl⟩ (fun _ _ _ _ ⟨_, _, _, _, p, _⟩ => .of p) ?_ ?_
  · rintro i x1 σ' H11 H11' hi ⟨came, zs, v10, hw11, e11, hp11, rfl⟩ ⟨rfl, hx1⟩
    rw [List.getElem?_map] at hx1
    obtain ⟨cell, hcell, rfl⟩ := Option.map_eq_some_iff.mp hx1
    walk_at "sts"
    refine ⟨dx, pl, sl, mo + 1, came, zs, hw11, fun H12 came' zs' fr hw12 => ?_⟩
    walk_at "sts"
    exact ⟨came', zs', _, hw12, fr _ _ e11 zc.1 zc.2.1 zc.2.2.1 zc.2.2.2, frO fr hp11, rfl⟩
  · rintro σ' H11 ⟨came, zs, v10, hw11, e11, hp11, rfl⟩
    walk_at "sts"
    refine L_methv hp11.hx rfl ?_
    walk_at "sts"
    refine ⟨dy, ql, 1, 0, [], hp11, fun p12 H12 hp12 s12 e12 => ?_⟩
    walk_at "sts"
    walk_at "nw"
    rename_i p13 hp13 H13 s13 e13
    refine L_neR (d := .list []) (.lst (.of (s13 _ _ e12)) .nil) (.lst (.of e13) .nil) rfl ?_
    have hp13' := hp11.same (s12.trans s13)
    walk_at "sts"
    refine L_methv hp13'.hx rfl ?_
    walk_at "sts"
    refine ⟨dy, ql, 1, 0, [], hp13', ?_⟩
    walk_at "sts"
    rw [decide_eq_true rfl]
    walk_at "sts"
    refine L_methv hp13'.hx rfl ?_
    walk_at "sts"
    refine ⟨dy, ql, 1, 0, [], hp13', ?_⟩
    walk_at "sts"
    refine L_ndF rfl ?_
    walk_at "sts"
    walk_at "nw"
    rename_i p14 hp14 H14 s14 e14
    walk_at "sa"
    walk_at "nw"
    rename_i p15 hp15 H15 s15 e15
    walk_at "sts"
    walk_at "nwp"
    rename_i p16 hp16 H16 s16 e16
    walk_at "sts"
    walk_at "nw"
    rename_i p17 hp17 H17 s17 e17
    walk_at "sts"
    refine L_menuV (.of e17) hbd.1 hbd.2 fun v hv => ?_
    walk_at "sts"
    refine ⟨?_, fun H' s' => q H'⟩
    simp only [List.mem_cons, List.not_mem_nil, or_false] at hv
    rcases hv with rfl | rfl | rfl | rfl | rfl | rfl | rfl | rfl | rfl | rfl | rfl | rfl | rfl | rfl | rfl | rfl
    · exact badw_int (by decide)
    · exact badw_int (by decide)
    · exact notw_non.bad
    · exact badw_int (by decide)
    · exact notw_bl.bad
    · exact notw_str.bad
    · exact (notw_lst ((s15.trans (s16.trans s17)) _ _ e14)).bad
    · exact badw_int (by decide)
    · exact (notw_tup ((s16.trans s17) _ _ e15)).bad
    · exact (notw_dK (s17 _ _ e16)).bad
    · exact notw_bl.bad
    · exact badw_int (by decide)
    · exact badw_int (by decide)
    · exact notw_str.bad
    · exact badw_int (by decide)
    · exact notw_str.bad
end
theorem txt_mk {K : PySem.W.Frag} {h : Heap} {mg : Str → Option Value} (X : K.In h) (G : h.Ns mainGlobals mg)
    (z_n_bool : PySem.W.nsIn K mainGlobals "bool" = some none)
    (z_n_int : PySem.W.nsIn K mainGlobals "int" = some none)
    (z_n_isinstance : PySem.W.nsIn K mainGlobals "isinstance" = some none)
    (z_n_len : PySem.W.nsIn K mainGlobals "len" = some none)
    (z_n_str : PySem.W.nsIn K mainGlobals "str" = some none)
    {u_g_LETTERS : Value} (z_g_LETTERS : PySem.W.nsIn K mainGlobals "LETTERS" = some (some u_g_LETTERS)) (y_g_LETTERS : RelV (.str "abcdefghijklmnopqrstuvwxyz") u_g_LETTERS)
    {u_g_MOST_KEPT : Value} (z_g_MOST_KEPT : PySem.W.nsIn K mainGlobals "MOST_KEPT" = some (some u_g_MOST_KEPT)) (y_g_MOST_KEPT : RelV (.int 24) u_g_MOST_KEPT)
    {C_NoThing : Addr} (aC_NoThing : PySem.W.nsIn K mainGlobals "NoThing" = some (some (.ref C_NoThing)))
    (xx_NoThing : PySem.W.excIn K C_NoThing [.type "ValueError", .type "Exception", .type "BaseException", .type "object"] "ValueError.__new__" = true) (xk_NoThing : PySem.W.keepIn K (.ref C_NoThing) = true) (xb_NoThing : PySem.W.subIn K (.ref C_NoThing) (.type "BaseException") = some true) (xt_NoThing : PySem.W.typeIn K (.ref C_NoThing) = some (.type "type"))
    {C_Pot : Addr} (aC_Pot : PySem.W.nsIn K mainGlobals "Pot" = some (some (.ref C_Pot)))
    (pg_Pot : PySem.W.plainGet K C_Pot Str.empty = true) (hd_Pot : PySem.W.hasDictIn K C_Pot = true) (po_Pot : PySem.W.plainOver K C_Pot = true) (sa_Pot : PySem.W.findIn K (.ref C_Pot) "__setattr__" = some (some (.builtin "object.__setattr__"))) (mk_Pot : PySem.W.makesIn K C_Pot = true) (kc_Pot : PySem.W.keepIn K (.ref C_Pot) = true)
    (na_Pot_most : PySem.W.findIn K (.ref C_Pot) "most" = some none)
    (na_Pot_passed : PySem.W.findIn K (.ref C_Pot) "passed" = some none)
    (na_Pot_inner : PySem.W.findIn K (.ref C_Pot) "inner" = some none)
    {C_SpeakError : Addr} (aC_SpeakError : PySem.W.nsIn K mainGlobals "SpeakError" = some (some (.ref C_SpeakError)))
    (bi0_SpeakError : PySem.W.readsIn K C_SpeakError (.type "type") = true) (bi1_SpeakError : PySem.W.specialIn K (.ref C_SpeakError) "__getattribute__" = some (some (.builtin "type.__getattribute__"))) (bi2_SpeakError : PySem.W.findCls K (.ref C_SpeakError) (.type "type") "__init__" = some (.val (.builtin "ValueError.__init__")))
    {C_NoThrow : Addr} (aC_NoThrow : PySem.W.nsIn K mainGlobals "NoThrow" = some (some (.ref C_NoThrow)))
    (ox_NoThrow : ∃ nm q N bs bm sn sub ab col dd k0 k1 k2 k3 k5, K.lookup C_NoThrow = some (excClassObj nm q C_NoThrow N bs bm true sn sub ab col dd k0 k1 k2 k3 k5 "ValueError.__new__") ∧ PySem.HandSPX.refsVE bm = true) (o0_NoThrow : PySem.W.findIn K (.ref C_NoThrow) "__setattr__" = some (some (.builtin "object.__setattr__"))) (o1_NoThrow : PySem.W.subIn K (.ref C_NoThrow) (.type "BaseException") = some true) (o2_NoThrow : PySem.W.typeIn K (.ref C_NoThrow) = some (.type "type")) (o3_NoThrow : PySem.W.keepIn K (.ref C_NoThrow) = true)
    (na_NoThrow_place : PySem.W.findIn K (.ref C_NoThrow) "place" = some none)
    {u_g_MOST_COMING : Value} (z_g_MOST_COMING : PySem.W.nsIn K mainGlobals "MOST_COMING" = some (some u_g_MOST_COMING)) (y_g_MOST_COMING : RelV (.int 300) u_g_MOST_COMING)
    {C_TooMany : Addr} (aC_TooMany : PySem.W.nsIn K mainGlobals "TooMany" = some (some (.ref C_TooMany)))
    (xx_TooMany : PySem.W.excIn K C_TooMany [.type "ValueError", .type "Exception", .type "BaseException", .type "object"] "ValueError.__new__" = true) (xk_TooMany : PySem.W.keepIn K (.ref C_TooMany) = true) (xb_TooMany : PySem.W.subIn K (.ref C_TooMany) (.type "BaseException") = some true) (xt_TooMany : PySem.W.typeIn K (.ref C_TooMany) = some (.type "type"))
    (z_n_list : PySem.W.nsIn K mainGlobals "list" = some none)
    (z_n_enumerate : PySem.W.nsIn K mainGlobals "enumerate" = some none)
    (z_n_range : PySem.W.nsIn K mainGlobals "range" = some none)
    (yb_NoThing : PySem.W.subIn K (.ref C_NoThing) (.type "BaseException") = some true) (yi_NoThing : PySem.W.isClsIn K C_NoThing = true) (yt_NoThing : PySem.W.typeIn K (.ref C_NoThing) = some (.type "type"))
    (yb_NoThrow : PySem.W.subIn K (.ref C_NoThrow) (.type "BaseException") = some true) (yi_NoThrow : PySem.W.isClsIn K C_NoThrow = true) (yt_NoThrow : PySem.W.typeIn K (.ref C_NoThrow) = some (.type "type"))
    (yb_TooMany : PySem.W.subIn K (.ref C_TooMany) (.type "BaseException") = some true) (yi_TooMany : PySem.W.isClsIn K C_TooMany = true) (yt_TooMany : PySem.W.typeIn K (.ref C_TooMany) = some (.type "type"))
    (z0_NoThrow : PySem.W.findIn K (.ref C_NoThrow) "__getattribute__" = some (some (.builtin "BaseException.__getattribute__"))) (z1_NoThrow : PySem.W.findIn K (.ref C_NoThrow) "__getattr__" = some none) (z2_NoThrow : PySem.W.subIn K (.ref C_NoThrow) (.type "BaseException") = some true) (z3_NoThrow : PySem.W.hasDictIn K C_NoThrow = true) (z4_NoThrow : PySem.W.findIn K (.ref C_NoThrow) "__class__" = some (some (.builtin "object.__class__"))) (z5_NoThrow : PySem.W.specialIn K (.builtin "object.__class__") "__get__" = some (some (.builtin "getset_descriptor.__get__"))) (z6_NoThrow : PySem.W.takesIn K (.builtin "object.__class__") = some true) (z7_NoThrow : PySem.W.mroIn K C_NoThrow (.type "object") = some true)
    (z_n_min : PySem.W.nsIn K mainGlobals "min" = some none)
    (es_NoThing_NoThing : PySem.W.subIn K (.ref C_NoThing) (.ref C_NoThing) = some true)
    (es_TooMany_NoThing : PySem.W.subIn K (.ref C_TooMany) (.ref C_NoThing) = some false)
    (es_TooMany_TooMany : PySem.W.subIn K (.ref C_TooMany) (.ref C_TooMany) = some true)
    (es_NoThrow_NoThing : PySem.W.subIn K (.ref C_NoThrow) (.ref C_NoThing) = some false)
    (es_NoThrow_TooMany : PySem.W.subIn K (.ref C_NoThrow) (.ref C_TooMany) = some false)
    (es_NoThrow_NoThrow : PySem.W.subIn K (.ref C_NoThrow) (.ref C_NoThrow) = some true)
    {f_is_whole : Addr} {od_is_whole an_is_whole : Option Addr} {sl_is_whole : Array (Option Value)} {oc_is_whole kV_is_whole dc_is_whole pm_is_whole cd_is_whole ct_is_whole : Value}
    (a_is_whole : PySem.W.nsIn K mainGlobals "is_whole" = some (some (.ref f_is_whole))) (l_is_whole : K.lookup f_is_whole = some ⟨oc_is_whole, od_is_whole, .func (PySem.W.fnOf "is_whole" "is_whole" (defArgs s_is_whole) (defBody s_is_whole) (defScope s_is_whole) .none kV_is_whole dc_is_whole pm_is_whole an_is_whole cd_is_whole ct_is_whole), sl_is_whole⟩) (c_is_whole : PySem.W.codeIn K cd_is_whole "is_whole" = true) (k_is_whole : PySem.W.keepIn K (.ref f_is_whole) = true)
    {f_is_name : Addr} {od_is_name an_is_name : Option Addr} {sl_is_name : Array (Option Value)} {oc_is_name kV_is_name dc_is_name pm_is_name cd_is_name ct_is_name : Value}
    (a_is_name : PySem.W.nsIn K mainGlobals "is_name" = some (some (.ref f_is_name))) (l_is_name : K.lookup f_is_name = some ⟨oc_is_name, od_is_name, .func (PySem.W.fnOf "is_name" "is_name" (defArgs s_is_name) (defBody s_is_name) (defScope s_is_name) .none kV_is_name dc_is_name pm_is_name an_is_name cd_is_name ct_is_name), sl_is_name⟩) (c_is_name : PySem.W.codeIn K cd_is_name "is_name" = true) (k_is_name : PySem.W.keepIn K (.ref f_is_name) = true)
    {f_need_most : Addr} {od_need_most an_need_most : Option Addr} {sl_need_most : Array (Option Value)} {oc_need_most kV_need_most dc_need_most pm_need_most cd_need_most ct_need_most : Value}
    (a_need_most : PySem.W.nsIn K mainGlobals "need_most" = some (some (.ref f_need_most))) (l_need_most : K.lookup f_need_most = some ⟨oc_need_most, od_need_most, .func (PySem.W.fnOf "need_most" "need_most" (defArgs s_need_most) (defBody s_need_most) (defScope s_need_most) .none kV_need_most dc_need_most pm_need_most an_need_most cd_need_most ct_need_most), sl_need_most⟩) (c_need_most : PySem.W.codeIn K cd_need_most "need_most" = true) (k_need_most : PySem.W.keepIn K (.ref f_need_most) = true)
    {f_Pot___init__ : Addr} {od_Pot___init__ an_Pot___init__ : Option Addr} {sl_Pot___init__ : Array (Option Value)} {oc_Pot___init__ kV_Pot___init__ dc_Pot___init__ pm_Pot___init__ cd_Pot___init__ ct_Pot___init__ : Value}
    (a_Pot___init__ : PySem.W.findIn K (.ref C_Pot) "__init__" = some (some (.ref f_Pot___init__))) (i_Pot___init__ : PySem.W.isFn K (.ref f_Pot___init__) = true) (l_Pot___init__ : K.lookup f_Pot___init__ = some ⟨oc_Pot___init__, od_Pot___init__, .func (PySem.W.fnOf "__init__" "Pot.__init__" (defArgs s_Pot___init__) (defBody s_Pot___init__) (defScope s_Pot___init__) .none kV_Pot___init__ dc_Pot___init__ pm_Pot___init__ an_Pot___init__ cd_Pot___init__ ct_Pot___init__), sl_Pot___init__⟩) (c_Pot___init__ : PySem.W.codeIn K cd_Pot___init__ "Pot.__init__" = true) (k_Pot___init__ : PySem.W.keepIn K (.ref f_Pot___init__) = true)
    {f_Pot_next_sides : Addr} {od_Pot_next_sides an_Pot_next_sides : Option Addr} {sl_Pot_next_sides : Array (Option Value)} {oc_Pot_next_sides kV_Pot_next_sides dc_Pot_next_sides pm_Pot_next_sides cd_Pot_next_sides ct_Pot_next_sides : Value}
    (a_Pot_next_sides : PySem.W.findIn K (.ref C_Pot) "next_sides" = some (some (.ref f_Pot_next_sides))) (i_Pot_next_sides : PySem.W.isFn K (.ref f_Pot_next_sides) = true) (l_Pot_next_sides : K.lookup f_Pot_next_sides = some ⟨oc_Pot_next_sides, od_Pot_next_sides, .func (PySem.W.fnOf "next_sides" "Pot.next_sides" (defArgs s_Pot_next_sides) (defBody s_Pot_next_sides) (defScope s_Pot_next_sides) .none kV_Pot_next_sides dc_Pot_next_sides pm_Pot_next_sides an_Pot_next_sides cd_Pot_next_sides ct_Pot_next_sides), sl_Pot_next_sides⟩) (c_Pot_next_sides : PySem.W.codeIn K cd_Pot_next_sides "Pot.next_sides" = true) (k_Pot_next_sides : PySem.W.keepIn K (.ref f_Pot_next_sides) = true)
    {f_NoThrow___init__ : Addr} {od_NoThrow___init__ an_NoThrow___init__ : Option Addr} {sl_NoThrow___init__ : Array (Option Value)} {oc_NoThrow___init__ kV_NoThrow___init__ dc_NoThrow___init__ pm_NoThrow___init__ cd_NoThrow___init__ ct_NoThrow___init__ : Value}
    (a_NoThrow___init__ : PySem.W.findIn K (.ref C_NoThrow) "__init__" = some (some (.ref f_NoThrow___init__))) (i_NoThrow___init__ : PySem.W.isFn K (.ref f_NoThrow___init__) = true) (l_NoThrow___init__ : K.lookup f_NoThrow___init__ = some ⟨oc_NoThrow___init__, od_NoThrow___init__, .func (PySem.W.fnOf "__init__" "NoThrow.__init__" (defArgs s_NoThrow___init__) (defBody s_NoThrow___init__) (defScope s_NoThrow___init__) .none kV_NoThrow___init__ dc_NoThrow___init__ pm_NoThrow___init__ an_NoThrow___init__ cd_NoThrow___init__ ct_NoThrow___init__), sl_NoThrow___init__⟩) (c_NoThrow___init__ : PySem.W.codeIn K cd_NoThrow___init__ "NoThrow.__init__" = true) (k_NoThrow___init__ : PySem.W.keepIn K (.ref f_NoThrow___init__) = true)
    {f_Pot_come : Addr} {od_Pot_come an_Pot_come : Option Addr} {sl_Pot_come : Array (Option Value)} {oc_Pot_come dV_Pot_come kV_Pot_come dc_Pot_come pm_Pot_come cd_Pot_come ct_Pot_come : Value}
    (a_Pot_come : PySem.W.findIn K (.ref C_Pot) "come" = some (some (.ref f_Pot_come))) (i_Pot_come : PySem.W.isFn K (.ref f_Pot_come) = true) (l_Pot_come : K.lookup f_Pot_come = some ⟨oc_Pot_come, od_Pot_come, .func (PySem.W.fnOf "come" "Pot.come" (defArgs s_Pot_come) (defBody s_Pot_come) (defScope s_Pot_come) dV_Pot_come kV_Pot_come dc_Pot_come pm_Pot_come an_Pot_come cd_Pot_come ct_Pot_come), sl_Pot_come⟩) (c_Pot_come : PySem.W.codeIn K cd_Pot_come "Pot.come" = true) (k_Pot_come : PySem.W.keepIn K (.ref f_Pot_come) = true) (dd_Pot_come : L2.DflV K dV_Pot_come [(.int 0)])
    {f_Pot_came : Addr} {od_Pot_came an_Pot_came : Option Addr} {sl_Pot_came : Array (Option Value)} {oc_Pot_came kV_Pot_came dc_Pot_came pm_Pot_came cd_Pot_came ct_Pot_came : Value}
    (a_Pot_came : PySem.W.findIn K (.ref C_Pot) "came" = some (some (.ref f_Pot_came))) (i_Pot_came : PySem.W.isFn K (.ref f_Pot_came) = true) (l_Pot_came : K.lookup f_Pot_came = some ⟨oc_Pot_came, od_Pot_came, .func (PySem.W.fnOf "came" "Pot.came" (defArgs s_Pot_came) (defBody s_Pot_came) (defScope s_Pot_came) .none kV_Pot_came dc_Pot_came pm_Pot_came an_Pot_came cd_Pot_came ct_Pot_came), sl_Pot_came⟩) (c_Pot_came : PySem.W.codeIn K cd_Pot_came "Pot.came" = true) (k_Pot_came : PySem.W.keepIn K (.ref f_Pot_came) = true)
    {f_Pot_things : Addr} {od_Pot_things an_Pot_things : Option Addr} {sl_Pot_things : Array (Option Value)} {oc_Pot_things kV_Pot_things dc_Pot_things pm_Pot_things cd_Pot_things ct_Pot_things : Value}
    (a_Pot_things : PySem.W.findIn K (.ref C_Pot) "things" = some (some (.ref f_Pot_things))) (i_Pot_things : PySem.W.isFn K (.ref f_Pot_things) = true) (l_Pot_things : K.lookup f_Pot_things = some ⟨oc_Pot_things, od_Pot_things, .func (PySem.W.fnOf "things" "Pot.things" (defArgs s_Pot_things) (defBody s_Pot_things) (defScope s_Pot_things) .none kV_Pot_things dc_Pot_things pm_Pot_things an_Pot_things cd_Pot_things ct_Pot_things), sl_Pot_things⟩) (c_Pot_things : PySem.W.codeIn K cd_Pot_things "Pot.things" = true) (k_Pot_things : PySem.W.keepIn K (.ref f_Pot_things) = true)
    {f__law_cell_at : Addr} {od__law_cell_at an__law_cell_at : Option Addr} {sl__law_cell_at : Array (Option Value)} {oc__law_cell_at kV__law_cell_at dc__law_cell_at pm__law_cell_at cd__law_cell_at ct__law_cell_at : Value}
    (a__law_cell_at : PySem.W.nsIn K mainGlobals "_law_cell_at" = some (some (.ref f__law_cell_at))) (l__law_cell_at : K.lookup f__law_cell_at = some ⟨oc__law_cell_at, od__law_cell_at, .func (PySem.W.fnOf "_law_cell_at" "_law_cell_at" (defArgs s__law_cell_at) (defBody s__law_cell_at) (defScope s__law_cell_at) .none kV__law_cell_at dc__law_cell_at pm__law_cell_at an__law_cell_at cd__law_cell_at ct__law_cell_at), sl__law_cell_at⟩) (c__law_cell_at : PySem.W.codeIn K cd__law_cell_at "_law_cell_at" = true) (k__law_cell_at : PySem.W.keepIn K (.ref f__law_cell_at) = true)
    {f__law_mix : Addr} {od__law_mix an__law_mix : Option Addr} {sl__law_mix : Array (Option Value)} {oc__law_mix kV__law_mix dc__law_mix pm__law_mix cd__law_mix ct__law_mix : Value}
    (a__law_mix : PySem.W.nsIn K mainGlobals "_law_mix" = some (some (.ref f__law_mix))) (l__law_mix : K.lookup f__law_mix = some ⟨oc__law_mix, od__law_mix, .func (PySem.W.fnOf "_law_mix" "_law_mix" (defArgs s__law_mix) (defBody s__law_mix) (defScope s__law_mix) .none kV__law_mix dc__law_mix pm__law_mix an__law_mix cd__law_mix ct__law_mix), sl__law_mix⟩) (c__law_mix : PySem.W.codeIn K cd__law_mix "_law_mix" = true) (k__law_mix : PySem.W.keepIn K (.ref f__law_mix) = true)
    {f__law_numbers : Addr} {od__law_numbers an__law_numbers : Option Addr} {sl__law_numbers : Array (Option Value)} {oc__law_numbers kV__law_numbers dc__law_numbers pm__law_numbers cd__law_numbers ct__law_numbers : Value}
    (a__law_numbers : PySem.W.nsIn K mainGlobals "_law_numbers" = some (some (.ref f__law_numbers))) (l__law_numbers : K.lookup f__law_numbers = some ⟨oc__law_numbers, od__law_numbers, .func (PySem.W.fnOf "_law_numbers" "_law_numbers" (defArgs s__law_numbers) (defBody s__law_numbers) (defScope s__law_numbers) .none kV__law_numbers dc__law_numbers pm__law_numbers an__law_numbers cd__law_numbers ct__law_numbers), sl__law_numbers⟩) (c__law_numbers : PySem.W.codeIn K cd__law_numbers "_law_numbers" = true) (k__law_numbers : PySem.W.keepIn K (.ref f__law_numbers) = true)
    {f__law_sides : Addr} {od__law_sides an__law_sides : Option Addr} {sl__law_sides : Array (Option Value)} {oc__law_sides kV__law_sides dc__law_sides pm__law_sides cd__law_sides ct__law_sides : Value}
    (a__law_sides : PySem.W.nsIn K mainGlobals "_law_sides" = some (some (.ref f__law_sides))) (l__law_sides : K.lookup f__law_sides = some ⟨oc__law_sides, od__law_sides, .func (PySem.W.fnOf "_law_sides" "_law_sides" (defArgs s__law_sides) (defBody s__law_sides) (defScope s__law_sides) .none kV__law_sides dc__law_sides pm__law_sides an__law_sides cd__law_sides ct__law_sides), sl__law_sides⟩) (c__law_sides : PySem.W.codeIn K cd__law_sides "_law_sides" = true) (k__law_sides : PySem.W.keepIn K (.ref f__law_sides) = true)
    {f__law_bad : Addr} {od__law_bad an__law_bad : Option Addr} {sl__law_bad : Array (Option Value)} {oc__law_bad kV__law_bad dc__law_bad pm__law_bad cd__law_bad ct__law_bad : Value}
    (a__law_bad : PySem.W.nsIn K mainGlobals "_law_bad" = some (some (.ref f__law_bad))) (l__law_bad : K.lookup f__law_bad = some ⟨oc__law_bad, od__law_bad, .func (PySem.W.fnOf "_law_bad" "_law_bad" (defArgs s__law_bad) (defBody s__law_bad) (defScope s__law_bad) .none kV__law_bad dc__law_bad pm__law_bad an__law_bad cd__law_bad ct__law_bad), sl__law_bad⟩) (c__law_bad : PySem.W.codeIn K cd__law_bad "_law_bad" = true) (k__law_bad : PySem.W.keepIn K (.ref f__law_bad) = true)
    {f__law_name : Addr} {od__law_name an__law_name : Option Addr} {sl__law_name : Array (Option Value)} {oc__law_name kV__law_name dc__law_name pm__law_name cd__law_name ct__law_name : Value}
    (a__law_name : PySem.W.nsIn K mainGlobals "_law_name" = some (some (.ref f__law_name))) (l__law_name : K.lookup f__law_name = some ⟨oc__law_name, od__law_name, .func (PySem.W.fnOf "_law_name" "_law_name" (defArgs s__law_name) (defBody s__law_name) (defScope s__law_name) .none kV__law_name dc__law_name pm__law_name an__law_name cd__law_name ct__law_name), sl__law_name⟩) (c__law_name : PySem.W.codeIn K cd__law_name "_law_name" = true) (k__law_name : PySem.W.keepIn K (.ref f__law_name) = true)
    {f__law_come : Addr} {od__law_come an__law_come : Option Addr} {sl__law_come : Array (Option Value)} {oc__law_come kV__law_come dc__law_come pm__law_come cd__law_come ct__law_come : Value}
    (a__law_come : PySem.W.nsIn K mainGlobals "_law_come" = some (some (.ref f__law_come))) (l__law_come : K.lookup f__law_come = some ⟨oc__law_come, od__law_come, .func (PySem.W.fnOf "_law_come" "_law_come" (defArgs s__law_come) (defBody s__law_come) (defScope s__law_come) .none kV__law_come dc__law_come pm__law_come an__law_come cd__law_come ct__law_come), sl__law_come⟩) (c__law_come : PySem.W.codeIn K cd__law_come "_law_come" = true) (k__law_come : PySem.W.keepIn K (.ref f__law_come) = true)
    {f__law_due : Addr} {od__law_due an__law_due : Option Addr} {sl__law_due : Array (Option Value)} {oc__law_due kV__law_due dc__law_due pm__law_due cd__law_due ct__law_due : Value}
    (a__law_due : PySem.W.nsIn K mainGlobals "_law_due" = some (some (.ref f__law_due))) (l__law_due : K.lookup f__law_due = some ⟨oc__law_due, od__law_due, .func (PySem.W.fnOf "_law_due" "_law_due" (defArgs s__law_due) (defBody s__law_due) (defScope s__law_due) .none kV__law_due dc__law_due pm__law_due an__law_due cd__law_due ct__law_due), sl__law_due⟩) (c__law_due : PySem.W.codeIn K cd__law_due "_law_due" = true) (k__law_due : PySem.W.keepIn K (.ref f__law_due) = true)
    {f__law_kept : Addr} {od__law_kept an__law_kept : Option Addr} {sl__law_kept : Array (Option Value)} {oc__law_kept kV__law_kept dc__law_kept pm__law_kept cd__law_kept ct__law_kept : Value}
    (a__law_kept : PySem.W.nsIn K mainGlobals "_law_kept" = some (some (.ref f__law_kept))) (l__law_kept : K.lookup f__law_kept = some ⟨oc__law_kept, od__law_kept, .func (PySem.W.fnOf "_law_kept" "_law_kept" (defArgs s__law_kept) (defBody s__law_kept) (defScope s__law_kept) .none kV__law_kept dc__law_kept pm__law_kept an__law_kept cd__law_kept ct__law_kept), sl__law_kept⟩) (c__law_kept : PySem.W.codeIn K cd__law_kept "_law_kept" = true) (k__law_kept : PySem.W.keepIn K (.ref f__law_kept) = true)
    {f__law_stands : Addr} {od__law_stands an__law_stands : Option Addr} {sl__law_stands : Array (Option Value)} {oc__law_stands kV__law_stands dc__law_stands pm__law_stands cd__law_stands ct__law_stands : Value}
    (a__law_stands : PySem.W.nsIn K mainGlobals "_law_stands" = some (some (.ref f__law_stands))) (l__law_stands : K.lookup f__law_stands = some ⟨oc__law_stands, od__law_stands, .func (PySem.W.fnOf "_law_stands" "_law_stands" (defArgs s__law_stands) (defBody s__law_stands) (defScope s__law_stands) .none kV__law_stands dc__law_stands pm__law_stands an__law_stands cd__law_stands ct__law_stands), sl__law_stands⟩) (c__law_stands : PySem.W.codeIn K cd__law_stands "_law_stands" = true) (k__law_stands : PySem.W.keepIn K (.ref f__law_stands) = true)
    {f__law_deed : Addr} {od__law_deed an__law_deed : Option Addr} {sl__law_deed : Array (Option Value)} {oc__law_deed kV__law_deed dc__law_deed pm__law_deed cd__law_deed ct__law_deed : Value}
    (a__law_deed : PySem.W.nsIn K mainGlobals "_law_deed" = some (some (.ref f__law_deed))) (l__law_deed : K.lookup f__law_deed = some ⟨oc__law_deed, od__law_deed, .func (PySem.W.fnOf "_law_deed" "_law_deed" (defArgs s__law_deed) (defBody s__law_deed) (defScope s__law_deed) .none kV__law_deed dc__law_deed pm__law_deed an__law_deed cd__law_deed ct__law_deed), sl__law_deed⟩) (c__law_deed : PySem.W.codeIn K cd__law_deed "_law_deed" = true) (k__law_deed : PySem.W.keepIn K (.ref f__law_deed) = true)
    {f__law_no_pot : Addr} {od__law_no_pot an__law_no_pot : Option Addr} {sl__law_no_pot : Array (Option Value)} {oc__law_no_pot kV__law_no_pot dc__law_no_pot pm__law_no_pot cd__law_no_pot ct__law_no_pot : Value}
    (a__law_no_pot : PySem.W.nsIn K mainGlobals "_law_no_pot" = some (some (.ref f__law_no_pot))) (l__law_no_pot : K.lookup f__law_no_pot = some ⟨oc__law_no_pot, od__law_no_pot, .func (PySem.W.fnOf "_law_no_pot" "_law_no_pot" (defArgs s__law_no_pot) (defBody s__law_no_pot) (defScope s__law_no_pot) .none kV__law_no_pot dc__law_no_pot pm__law_no_pot an__law_no_pot cd__law_no_pot ct__law_no_pot), sl__law_no_pot⟩) (c__law_no_pot : PySem.W.codeIn K cd__law_no_pot "_law_no_pot" = true) (k__law_no_pot : PySem.W.keepIn K (.ref f__law_no_pot) = true)
    {f_law : Addr} {od_law an_law : Option Addr} {sl_law : Array (Option Value)} {oc_law kV_law dc_law pm_law cd_law ct_law : Value}
    (a_law : PySem.W.nsIn K mainGlobals "law" = some (some (.ref f_law))) (l_law : K.lookup f_law = some ⟨oc_law, od_law, .func (PySem.W.fnOf "law" "law" (defArgs s_law) (defBody s_law) (defScope s_law) .none kV_law dc_law pm_law an_law cd_law ct_law), sl_law⟩) (c_law : PySem.W.codeIn K cd_law "law" = true) (k_law : PySem.W.keepIn K (.ref f_law) = true) : Txt K mg := by
  have e_NoThing : cA mg "NoThing" = C_NoThing := cA_of (PySem.W.mg_of X G aC_NoThing)
  have e_Pot : cA mg "Pot" = C_Pot := cA_of (PySem.W.mg_of X G aC_Pot)
  have e_SpeakError : cA mg "SpeakError" = C_SpeakError := cA_of (PySem.W.mg_of X G aC_SpeakError)
  have e_NoThrow : cA mg "NoThrow" = C_NoThrow := cA_of (PySem.W.mg_of X G aC_NoThrow)
  have e_TooMany : cA mg "TooMany" = C_TooMany := cA_of (PySem.W.mg_of X G aC_TooMany)
  exact ⟨(PySem.W.mg_none_of X G z_n_bool), (PySem.W.mg_none_of X G z_n_int), (PySem.W.mg_none_of X G z_n_isinstance), (PySem.W.mg_none_of X G z_n_len), (PySem.W.mg_none_of X G z_n_str), (⟨_, PySem.W.mg_of X G z_g_LETTERS, y_g_LETTERS⟩), (⟨_, PySem.W.mg_of X G z_g_MOST_KEPT, y_g_MOST_KEPT⟩), (by rw [e_NoThing]; exact PySem.W.mg_of X G aC_NoThing), (by rw [e_NoThing]; exact ⟨xx_NoThing, xk_NoThing, xb_NoThing, xt_NoThing⟩), (by rw [e_Pot]; exact PySem.W.mg_of X G aC_Pot), (by rw [e_Pot]; exact ⟨pg_Pot, hd_Pot, po_Pot, sa_Pot⟩), (by rw [e_Pot]; exact na_Pot_most), (by rw [e_Pot]; exact na_Pot_passed), (by rw [e_Pot]; exact na_Pot_inner), (by rw [e_SpeakError]; exact PySem.W.mg_of X G aC_SpeakError), (by rw [e_SpeakError]; exact ⟨bi0_SpeakError, bi1_SpeakError, bi2_SpeakError⟩), (by rw [e_NoThrow]; exact PySem.W.mg_of X G aC_NoThrow), (by rw [e_NoThrow]; exact ⟨ox_NoThrow, o0_NoThrow, o1_NoThrow, o2_NoThrow, o3_NoThrow⟩), (by rw [e_NoThrow]; exact na_NoThrow_place), (⟨_, PySem.W.mg_of X G z_g_MOST_COMING, y_g_MOST_COMING⟩), (by rw [e_TooMany]; exact PySem.W.mg_of X G aC_TooMany), (by rw [e_TooMany]; exact ⟨xx_TooMany, xk_TooMany, xb_TooMany, xt_TooMany⟩), (PySem.W.mg_none_of X G z_n_list), (PySem.W.mg_none_of X G z_n_enumerate), (PySem.W.mg_none_of X G z_n_range), (by rw [e_NoThing]; exact ⟨yb_NoThing, yi_NoThing, yt_NoThing⟩), (by rw [e_NoThrow]; exact ⟨yb_NoThrow, yi_NoThrow, yt_NoThrow⟩), (by rw [e_TooMany]; exact ⟨yb_TooMany, yi_TooMany, yt_TooMany⟩), (by rw [e_NoThrow]; exact ⟨z0_NoThrow, z1_NoThrow, z2_NoThrow, z3_NoThrow, z4_NoThrow, z5_NoThrow, z6_NoThrow, z7_NoThrow⟩), (PySem.W.mg_none_of X G z_n_min), (by rw [e_NoThing]; exact es_NoThing_NoThing), (by rw [e_TooMany, e_NoThing]; exact es_TooMany_NoThing), (by rw [e_TooMany]; exact es_TooMany_TooMany), (by rw [e_NoThrow, e_NoThing]; exact es_NoThrow_NoThing), (by rw [e_NoThrow, e_TooMany]; exact es_NoThrow_TooMany), (by rw [e_NoThrow]; exact es_NoThrow_NoThrow), (⟨f_is_whole, _, fun_mk (st := s_is_whole) l_is_whole c_is_whole k_is_whole, PySem.W.mg_of X G a_is_whole, (fun_mk (st := s_is_whole) l_is_whole c_is_whole k_is_whole).binds (ps := ["thing", "low", "high"]) fun _ _ _ _ _ _ us hl => match us, hl with | [_, _, _], _ => rfl⟩), (⟨f_is_name, _, fun_mk (st := s_is_name) l_is_name c_is_name k_is_name, PySem.W.mg_of X G a_is_name, (fun_mk (st := s_is_name) l_is_name c_is_name k_is_name).binds (ps := ["thing"]) fun _ _ _ _ _ _ us hl => match us, hl with | [_], _ => rfl⟩), (⟨f_need_most, _, fun_mk (st := s_need_most) l_need_most c_need_most k_need_most, PySem.W.mg_of X G a_need_most, (fun_mk (st := s_need_most) l_need_most c_need_most k_need_most).binds (ps := ["thing"]) fun _ _ _ _ _ _ us hl => match us, hl with | [_], _ => rfl⟩), (by rw [e_Pot]; exact ⟨f_Pot___init__, _, fun_mk (st := s_Pot___init__) l_Pot___init__ c_Pot___init__ k_Pot___init__, ⟨mk_Pot, a_Pot___init__, i_Pot___init__, kc_Pot⟩, (fun_mk (st := s_Pot___init__) l_Pot___init__ c_Pot___init__ k_Pot___init__).binds (ps := ["self", "most"]) fun _ _ _ _ _ _ us hl => match us, hl with | [_, _], _ => rfl⟩), (by rw [e_Pot]; exact ⟨f_Pot_next_sides, _, fun_mk (st := s_Pot_next_sides) l_Pot_next_sides c_Pot_next_sides k_Pot_next_sides, ⟨a_Pot_next_sides, i_Pot_next_sides, k_Pot_next_sides⟩, (fun_mk (st := s_Pot_next_sides) l_Pot_next_sides c_Pot_next_sides k_Pot_next_sides).binds (ps := ["self"]) fun _ _ _ _ _ _ us hl => match us, hl with | [_], _ => rfl⟩), (by rw [e_NoThrow]; exact ⟨f_NoThrow___init__, _, fun_mk (st := s_NoThrow___init__) l_NoThrow___init__ c_NoThrow___init__ k_NoThrow___init__, a_NoThrow___init__, i_NoThrow___init__, (fun_mk (st := s_NoThrow___init__) l_NoThrow___init__ c_NoThrow___init__ k_NoThrow___init__).binds (ps := ["self", "place"]) fun _ _ _ _ _ _ us hl => match us, hl with | [_, _], _ => rfl⟩), (by rw [e_Pot]; exact ⟨f_Pot_come, _, (⟨⟨_, _, _, _, _, _, _, _, _, _, rfl, l_Pot_come, c_Pot_come, dd_Pot_come, .inl rfl⟩, k_Pot_come⟩ : L2.FunD K "come" "Pot.come" (defArgs s_Pot_come) (defBody s_Pot_come) (defScope s_Pot_come) [(.int 0)] [] f_Pot_come _), ⟨a_Pot_come, i_Pot_come, k_Pot_come⟩, binds_full ((⟨⟨_, _, _, _, _, _, _, _, _, _, rfl, l_Pot_come, c_Pot_come, dd_Pot_come, .inl rfl⟩, k_Pot_come⟩ : L2.FunD K "come" "Pot.come" (defArgs s_Pot_come) (defBody s_Pot_come) (defScope s_Pot_come) [(.int 0)] [] f_Pot_come _).binds1 (ps := ["self", "thing", "throw"]) 3 1 (by simp) rfl fun _ _ _ _ _ _ _ us its hl hm => match us, its, hl, hm with | [_, _, _], [_], _, _ => ⟨_, rfl, rfl⟩), (⟨⟨_, _, _, _, _, _, _, _, _, _, rfl, l_Pot_come, c_Pot_come, dd_Pot_come, .inl rfl⟩, k_Pot_come⟩ : L2.FunD K "come" "Pot.come" (defArgs s_Pot_come) (defBody s_Pot_come) (defScope s_Pot_come) [(.int 0)] [] f_Pot_come _).binds1 (ps := ["self", "thing", "throw"]) 2 0 (by simp) rfl fun _ _ _ _ _ _ _ us its hl hm => match us, its, hl, hm with | [_, _], [_], _, _ => ⟨_, rfl, rfl⟩⟩), (by rw [e_Pot]; exact ⟨f_Pot_came, _, fun_mk (st := s_Pot_came) l_Pot_came c_Pot_came k_Pot_came, ⟨a_Pot_came, i_Pot_came, k_Pot_came⟩, (fun_mk (st := s_Pot_came) l_Pot_came c_Pot_came k_Pot_came).binds (ps := ["self"]) fun _ _ _ _ _ _ us hl => match us, hl with | [_], _ => rfl⟩), (by rw [e_Pot]; exact ⟨f_Pot_things, _, fun_mk (st := s_Pot_things) l_Pot_things c_Pot_things k_Pot_things, ⟨a_Pot_things, i_Pot_things, k_Pot_things⟩, (fun_mk (st := s_Pot_things) l_Pot_things c_Pot_things k_Pot_things).binds (ps := ["self"]) fun _ _ _ _ _ _ us hl => match us, hl with | [_], _ => rfl⟩), (⟨f__law_cell_at, _, fun_mk (st := s__law_cell_at) l__law_cell_at c__law_cell_at k__law_cell_at, PySem.W.mg_of X G a__law_cell_at, (fun_mk (st := s__law_cell_at) l__law_cell_at c__law_cell_at k__law_cell_at).binds (ps := ["_law_script", "_law_k"]) fun _ _ _ _ _ _ us hl => match us, hl with | [_, _], _ => rfl⟩), (⟨f__law_mix, _, fun_mk (st := s__law_mix) l__law_mix c__law_mix k__law_mix, PySem.W.mg_of X G a__law_mix, (fun_mk (st := s__law_mix) l__law_mix c__law_mix k__law_mix).binds (ps := ["_law_cell", "_law_k"]) fun _ _ _ _ _ _ us hl => match us, hl with | [_, _], _ => rfl⟩), (⟨f__law_numbers, _, fun_mk (st := s__law_numbers) l__law_numbers c__law_numbers k__law_numbers, PySem.W.mg_of X G a__law_numbers, (fun_mk (st := s__law_numbers) l__law_numbers c__law_numbers k__law_numbers).binds (ps := ["_law_cell", "_law_digits", "_law_bases"]) fun _ _ _ _ _ _ us hl => match us, hl with | [_, _, _], _ => rfl⟩), (⟨f__law_sides, _, fun_mk (st := s__law_sides) l__law_sides c__law_sides k__law_sides, PySem.W.mg_of X G a__law_sides, (fun_mk (st := s__law_sides) l__law_sides c__law_sides k__law_sides).binds (ps := ["_law_state"]) fun _ _ _ _ _ _ us hl => match us, hl with | [_], _ => rfl⟩), (⟨f__law_bad, _, fun_mk (st := s__law_bad) l__law_bad c__law_bad k__law_bad, PySem.W.mg_of X G a__law_bad, (fun_mk (st := s__law_bad) l__law_bad c__law_bad k__law_bad).binds (ps := ["_law_number"]) fun _ _ _ _ _ _ us hl => match us, hl with | [_], _ => rfl⟩), (⟨f__law_name, _, fun_mk (st := s__law_name) l__law_name c__law_name k__law_name, PySem.W.mg_of X G a__law_name, (fun_mk (st := s__law_name) l__law_name c__law_name k__law_name).binds (ps := ["_law_number"]) fun _ _ _ _ _ _ us hl => match us, hl with | [_], _ => rfl⟩), (⟨f__law_come, _, fun_mk (st := s__law_come) l__law_come c__law_come k__law_come, PySem.W.mg_of X G a__law_come, (fun_mk (st := s__law_come) l__law_come c__law_come k__law_come).binds (ps := ["_law_pot", "_law_thing", "_law_throw", "_law_bare"]) fun _ _ _ _ _ _ us hl => match us, hl with | [_, _, _, _], _ => rfl⟩), (⟨f__law_due, _, fun_mk (st := s__law_due) l__law_due c__law_due k__law_due, PySem.W.mg_of X G a__law_due, (fun_mk (st := s__law_due) l__law_due c__law_due k__law_due).binds (ps := ["_law_state", "_law_thing", "_law_throw"]) fun _ _ _ _ _ _ us hl => match us, hl with | [_, _, _], _ => rfl⟩), (⟨f__law_kept, _, fun_mk (st := s__law_kept) l__law_kept c__law_kept k__law_kept, PySem.W.mg_of X G a__law_kept, (fun_mk (st := s__law_kept) l__law_kept c__law_kept k__law_kept).binds (ps := ["_law_state", "_law_thing", "_law_throw"]) fun _ _ _ _ _ _ us hl => match us, hl with | [_, _, _], _ => rfl⟩), (⟨f__law_stands, _, fun_mk (st := s__law_stands) l__law_stands c__law_stands k__law_stands, PySem.W.mg_of X G a__law_stands, (fun_mk (st := s__law_stands) l__law_stands c__law_stands k__law_stands).binds (ps := ["_law_pot", "_law_state"]) fun _ _ _ _ _ _ us hl => match us, hl with | [_, _], _ => rfl⟩), (⟨f__law_deed, _, fun_mk (st := s__law_deed) l__law_deed c__law_deed k__law_deed, PySem.W.mg_of X G a__law_deed, (fun_mk (st := s__law_deed) l__law_deed c__law_deed k__law_deed).binds (ps := ["_law_pot", "_law_state", "_law_cell", "_law_digits"]) fun _ _ _ _ _ _ us hl => match us, hl with | [_, _, _, _], _ => rfl⟩), (⟨f__law_no_pot, _, fun_mk (st := s__law_no_pot) l__law_no_pot c__law_no_pot k__law_no_pot, PySem.W.mg_of X G a__law_no_pot, (fun_mk (st := s__law_no_pot) l__law_no_pot c__law_no_pot k__law_no_pot).binds (ps := ["_law_thing"]) fun _ _ _ _ _ _ us hl => match us, hl with | [_], _ => rfl⟩), (⟨f_law, _, fun_mk (st := s_law) l_law c_law k_law, PySem.W.mg_of X G a_law, (fun_mk (st := s_law) l_law c_law k_law).binds (ps := ["_law_script"]) fun _ _ _ _ _ _ us hl => match us, hl with | [_], _ => rfl⟩)⟩
theorem law_mk {P : Program} {w : World} {K : PySem.W.Frag} {mg : Str → Option Value} {fa : Addr} (T : Txt K mg) (hfa : mg "law" = some (.ref fa)) :
    ∃ fd : FuncData, (∀ (s : Shared) (v : Value), BindsTo s fd ⟨[v], []⟩ [("_law_script", v)]) ∧ ∀ base : Heap, K.In base → base.Ns mainGlobals mg → FnOk P w K mg base CX0 6 fa fd ["_law_script"] (sp_law K mg) := by
  obtain ⟨f, fd, F, hm, b⟩ := T.d_law.ex
  have e := hfa.symm.trans hm
  cases e
  refine ⟨fd, fun s v => ?_, fun base _ _ => c_law T F⟩
  obtain ⟨oc, od, kV, doc, pm, an, cdv, ct, osl, rfl, lk, hcd⟩ := F.ex
  exact .of_eq rfl
end My
open PySem PySem.W PyProof.Rows
set_option maxRecDepth 100000 in
set_option maxHeartbeats 0 in
theorem PySem.Challenge.cw_fewspeak_k66_pots_by_throws_holds : PySem.Challenge.rw_fewspeak_k66_pots_by_throws.Holds := by
  w_on; o_law; k_head; (case hw => w_witness2)
  k_fill
  refine L2.walk_ofB (l := PySem.Challenge.rw_fewspeak_k66_pots_by_throws) (n := 63) (k := 6) (x := "_law_script") (CX := fun _ => L2.CX0) (sp := fun w => My.sp_law _ (fun _ => none)) rfl (by decide) rfl ⟨rfl, by decide, by decide⟩ (fun w h Y => PySem.W.kIn_of Y) ?F (fun _ _ a ns hl hb _ hS => ⟨ns, hS, hl, hb, fun _ => rfl⟩) (fun _ _ _ _ _ h => h)
  case F =>
    intro w mg fa h KX G hmg
    refine' My.law_mk (My.txt_mk KX G ?z_n_bool ?z_n_int ?z_n_isinstance ?z_n_len ?z_n_str ?z_g_LETTERS ?y_g_LETTERS ?z_g_MOST_KEPT ?y_g_MOST_KEPT ?aC_NoThing ?xx_NoThing ?xk_NoThing ?xb_NoThing ?xt_NoThing ?aC_Pot ?pg_Pot ?hd_Pot ?po_Pot ?sa_Pot ?mk_Pot ?kc_Pot ?na_Pot_most ?na_Pot_passed ?na_Pot_inner ?aC_SpeakError ?bi0_SpeakError ?bi1_SpeakError ?bi2_SpeakError ?aC_NoThrow ?ox_NoThrow ?o0_NoThrow ?o1_NoThrow ?o2_NoThrow ?o3_NoThrow ?na_NoThrow_place ?z_g_MOST_COMING ?y_g_MOST_COMING ?aC_TooMany ?xx_TooMany ?xk_TooMany ?xb_TooMany ?xt_TooMany ?z_n_list ?z_n_enumerate ?z_n_range ?yb_NoThing ?yi_NoThing ?yt_NoThing ?yb_NoThrow ?yi_NoThrow ?yt_NoThrow ?yb_TooMany ?yi_TooMany ?yt_TooMany ?z0_NoThrow ?z1_NoThrow ?z2_NoThrow ?z3_NoThrow ?z4_NoThrow ?z5_NoThrow ?z6_NoThrow ?z7_NoThrow ?z_n_min ?es_NoThing_NoThing ?es_TooMany_NoThing ?es_TooMany_TooMany ?es_NoThrow_NoThing ?es_NoThrow_TooMany ?es_NoThrow_NoThrow ?a_is_whole ?l_is_whole ?c_is_whole ?k_is_whole ?a_is_name ?l_is_name ?c_is_name ?k_is_name ?a_need_most ?l_need_most ?c_need_most ?k_need_most ?a_Pot___init__ ?i_Pot___init__ ?l_Pot___init__ ?c_Pot___init__ ?k_Pot___init__ ?a_Pot_next_sides ?i_Pot_next_sides ?l_Pot_next_sides ?c_Pot_next_sides ?k_Pot_next_sides ?a_NoThrow___init__ ?i_NoThrow___init__ ?l_NoThrow___init__ ?c_NoThrow___init__ ?k_NoThrow___init__ ?a_Pot_come ?i_Pot_come ?l_Pot_come ?c_Pot_come ?k_Pot_come ?dd_Pot_come ?a_Pot_came ?i_Pot_came ?l_Pot_came ?c_Pot_came ?k_Pot_came ?a_Pot_things ?i_Pot_things ?l_Pot_things ?c_Pot_things ?k_Pot_things ?a__law_cell_at ?l__law_cell_at ?c__law_cell_at ?k__law_cell_at ?a__law_mix ?l__law_mix ?c__law_mix ?k__law_mix ?a__law_numbers ?l__law_numbers ?c__law_numbers ?k__law_numbers ?a__law_sides ?l__law_sides ?c__law_sides ?k__law_sides ?a__law_bad ?l__law_bad ?c__law_bad ?k__law_bad ?a__law_name ?l__law_name ?c__law_name ?k__law_name ?a__law_come ?l__law_come ?c__law_come ?k__law_come ?a__law_due ?l__law_due ?c__law_due ?k__law_due ?a__law_kept ?l__law_kept ?c__law_kept ?k__law_kept ?a__law_stands ?l__law_stands ?c__law_stands ?k__law_stands ?a__law_deed ?l__law_deed ?c__law_deed ?k__law_deed ?a__law_no_pot ?l__law_no_pot ?c__law_no_pot ?k__law_no_pot ?a_law ?l_law ?c_law ?k_law) hmg
    (case z_n_bool => k_is)
    (case z_n_int => k_is)
    (case z_n_isinstance => k_is)
    (case z_n_len => k_is)
    (case z_n_str => k_is)
    (case z_g_LETTERS => k_is)
    (case y_g_LETTERS => exact ⟨_, rfl⟩)
    (case z_g_MOST_KEPT => k_is)
    (case y_g_MOST_KEPT => exact ⟨_, rfl⟩)
    (case aC_NoThing => k_is)
    (case xx_NoThing => k_exc)
    (case xk_NoThing => k_is)
    (case xb_NoThing => k_is)
    (case xt_NoThing => k_is)
    (case aC_Pot => k_is)
    (case pg_Pot => k_is)
    (case hd_Pot => k_is)
    (case po_Pot => k_is)
    (case sa_Pot => k_is)
    (case mk_Pot => k_is)
    (case kc_Pot => k_is)
    (case na_Pot_most => k_is)
    (case na_Pot_passed => k_is)
    (case na_Pot_inner => k_is)
    (case aC_SpeakError => k_is)
    (case bi0_SpeakError => k_is)
    (case bi1_SpeakError => k_is)
    (case bi2_SpeakError => k_is)
    (case aC_NoThrow => k_is)
    (case ox_NoThrow => first | exact ⟨_, _, _, _, _, _, _, _, _, _, _, _, _, _, _, by k_is, by first | rfl | decide +kernel | k_is⟩ | exact ⟨_, _, _, _, _, _, _, _, _, _, _, _, _, _, _, rfl, by first | rfl | decide +kernel⟩)
    (case o0_NoThrow => k_is)
    (case o1_NoThrow => k_is)
    (case o2_NoThrow => k_is)
    (case o3_NoThrow => k_is)
    (case na_NoThrow_place => k_is)
    (case z_g_MOST_COMING => k_is)
    (case y_g_MOST_COMING => exact ⟨_, rfl⟩)
    (case aC_TooMany => k_is)
    (case xx_TooMany => k_exc)
    (case xk_TooMany => k_is)
    (case xb_TooMany => k_is)
    (case xt_TooMany => k_is)
    (case z_n_list => k_is)
    (case z_n_enumerate => k_is)
    (case z_n_range => k_is)
    (case yb_NoThing => k_is)
    (case yi_NoThing => k_is)
    (case yt_NoThing => k_is)
    (case yb_NoThrow => k_is)
    (case yi_NoThrow => k_is)
    (case yt_NoThrow => k_is)
    (case yb_TooMany => k_is)
    (case yi_TooMany => k_is)
    (case yt_TooMany => k_is)
    (case z0_NoThrow => k_is)
    (case z1_NoThrow => k_is)
    (case z2_NoThrow => k_is)
    (case z3_NoThrow => k_is)
    (case z4_NoThrow => k_is)
    (case z5_NoThrow => k_is)
    (case z6_NoThrow => k_is)
    (case z7_NoThrow => k_is)
    (case z_n_min => k_is)
    (case es_NoThing_NoThing => first | rfl | k_is)
    (case es_TooMany_NoThing => first | rfl | k_is)
    (case es_TooMany_TooMany => first | rfl | k_is)
    (case es_NoThrow_NoThing => first | rfl | k_is)
    (case es_NoThrow_TooMany => first | rfl | k_is)
    (case es_NoThrow_NoThrow => first | rfl | k_is)
    (case a_is_whole => k_is)
    (case l_is_whole => k_is)
    (case c_is_whole => k_is)
    (case k_is_whole => k_is)
    (case a_is_name => k_is)
    (case l_is_name => k_is)
    (case c_is_name => k_is)
    (case k_is_name => k_is)
    (case a_need_most => k_is)
    (case l_need_most => k_is)
    (case c_need_most => k_is)
    (case k_need_most => k_is)
    (case a_Pot___init__ => k_is)
    (case i_Pot___init__ => k_is)
    (case l_Pot___init__ => k_is)
    (case c_Pot___init__ => k_is)
    (case k_Pot___init__ => k_is)
    (case a_Pot_next_sides => k_is)
    (case i_Pot_next_sides => k_is)
    (case l_Pot_next_sides => k_is)
    (case c_Pot_next_sides => k_is)
    (case k_Pot_next_sides => k_is)
    (case a_NoThrow___init__ => k_is)
    (case i_NoThrow___init__ => k_is)
    (case l_NoThrow___init__ => k_is)
    (case c_NoThrow___init__ => k_is)
    (case k_NoThrow___init__ => k_is)
    (case a_Pot_come => k_is)
    (case i_Pot_come => k_is)
    (case l_Pot_come => k_is)
    (case c_Pot_come => k_is)
    (case k_Pot_come => k_is)
    (case dd_Pot_come => exact .inr ⟨by simp, _, _, _, _, rfl, by k_is, rfl, .cons ⟨_, rfl⟩ .nil⟩)
    (case a_Pot_came => k_is)
    (case i_Pot_came => k_is)
    (case l_Pot_came => k_is)
    (case c_Pot_came => k_is)
    (case k_Pot_came => k_is)
    (case a_Pot_things => k_is)
    (case i_Pot_things => k_is)
    (case l_Pot_things => k_is)
    (case c_Pot_things => k_is)
    (case k_Pot_things => k_is)
    (case a__law_cell_at => k_is)
    (case l__law_cell_at => k_is)
    (case c__law_cell_at => k_is)
    (case k__law_cell_at => k_is)
    (case a__law_mix => k_is)
    (case l__law_mix => k_is)
    (case c__law_mix => k_is)
    (case k__law_mix => k_is)
    (case a__law_numbers => k_is)
    (case l__law_numbers => k_is)
    (case c__law_numbers => k_is)
    (case k__law_numbers => k_is)
    (case a__law_sides => k_is)
    (case l__law_sides => k_is)
    (case c__law_sides => k_is)
    (case k__law_sides => k_is)
    (case a__law_bad => k_is)
    (case l__law_bad => k_is)
    (case c__law_bad => k_is)
    (case k__law_bad => k_is)
    (case a__law_name => k_is)
    (case l__law_name => k_is)
    (case c__law_name => k_is)
    (case k__law_name => k_is)
    (case a__law_come => k_is)
    (case l__law_come => k_is)
    (case c__law_come => k_is)
    (case k__law_come => k_is)
    (case a__law_due => k_is)
    (case l__law_due => k_is)
    (case c__law_due => k_is)
    (case k__law_due => k_is)
    (case a__law_kept => k_is)
    (case l__law_kept => k_is)
    (case c__law_kept => k_is)
    (case k__law_kept => k_is)
    (case a__law_stands => k_is)
    (case l__law_stands => k_is)
    (case c__law_stands => k_is)
    (case k__law_stands => k_is)
    (case a__law_deed => k_is)
    (case l__law_deed => k_is)
    (case c__law_deed => k_is)
    (case k__law_deed => k_is)
    (case a__law_no_pot => k_is)
    (case l__law_no_pot => k_is)
    (case c__law_no_pot => k_is)
    (case k__law_no_pot => k_is)
    (case a_law => k_is)
    (case l_law => k_is)
    (case c_law => k_is)
    (case k_law => k_is)
#print axioms PySem.Challenge.cw_fewspeak_k66_pots_by_throws_holds

