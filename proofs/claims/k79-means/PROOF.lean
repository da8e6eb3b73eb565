import PyProof.Rows.All
import Wide.All
import OpenK.AllK
import Wide.FinOn
import HandS.ForMost
import HandS.Exc
import HandS.TryOnly
import HandS.ExcOwn
import HandS.WordsExc
import HandS.Wide
import HandS.IsInst
import HandS.EndBits
import HandS.Conv
import HandS.Style
import HandS.TupAny
import HandS.Evl
import HandS.Walk
import HandS.ExcIs
import HandS.ExcInit
import HandS.ExcField
import HandS.ExcValue
import HandS.SetKeys
import KE.KExcIs
import PyProof.StrBlock2
import HandS.Iter
import HandS.SortRule
import HandS.ListItems
import PySem.Challenge.RW_fewspeak_k79_whole_stretches_of_means
set_option Elab.async false
set_option linter.all false
set_option maxRecDepth 100000
set_option maxHeartbeats 4000000
namespace Kt
open PySem PySem.Spec PyProof.Rows L2
/-- a def of the top, as it stands behind the top -/
structure DefAt (K : PySem.W.Frag) (mg : Str → Option Value) (x : Str) (st : Stmt) (ps : List Str) : Prop where
  ex : ∃ (f : Addr) (fd : FuncData), Fun K x x st f fd ∧ mg x = some (.ref f) ∧ Binds K fd ps []
/-- a method of the class at C -/
structure MethAt (K : PySem.W.Frag) (C : Addr) (m qual : Str) (st : Stmt) (ps : List Str) : Prop where
  ex : ∃ (f : Addr) (fd : FuncData), Fun K m qual st f fd ∧ Meth K C m f ∧ Binds K fd ps []
structure InitAt (K : PySem.W.Frag) (C : Addr) (qual : Str) (st : Stmt) (ps : List Str) : Prop where
  ex : ∃ (f : Addr) (fd : FuncData), Fun K "__init__" qual st f fd ∧ Mk K C f ∧ Binds K fd ps []
/-- the class that a name of the module holds -/
def cA (mg : Str → Option Value) (x : Str) : Addr := match mg x with | some (.ref a) => a | _ => 0
theorem cA_of {mg : Str → Option Value} {x : Str} {a : Addr} (h : mg x = some (.ref a)) : cA mg x = a := by unfold cA; rw [h]
/-- a def that may be called by its name; a method of the class at C; a class that may be made -/
structure Cal (P : Program) (w : World) (K : PySem.W.Frag) (mg : Str → Option Value) (base : Heap) (k : Nat) (x : Str) (sp : Sp) : Prop where
  ex : ∃ (f : Addr) (fd : FuncData) (ps : List Str), FnOk P w K mg base CX0 k f fd ps sp ∧ mg x = some (.ref f) ∧ PySem.W.keepIn K (.ref f) = true ∧ Binds K fd ps []
structure Met (P : Program) (w : World) (K : PySem.W.Frag) (mg : Str → Option Value) (base : Heap) (k : Nat) (C : Addr) (m : Str) (sp : Sp) : Prop where
  ex : ∃ (f : Addr) (fd : FuncData) (ps : List Str), Cls K C ∧ Meth K C m f ∧ FnOk P w K mg base CX0 k f fd ps sp ∧ Binds K fd ps []
structure Mak (P : Program) (w : World) (K : PySem.W.Frag) (mg : Str → Option Value) (base : Heap) (k : Nat) (x : Str) (C : Addr) (sp : Sp) : Prop where
  ex : ∃ (f : Addr) (fd : FuncData) (ps : List Str), Mk K C f ∧ FnOk P w K mg base CX0 k f fd ps sp ∧ mg x = some (.ref C) ∧ Binds K fd ps []
section
variable {P : Program} {w : World} {K : PySem.W.Frag} {mg : Str → Option Value} {base : Heap}
theorem DefAt.cal {x : Str} {st : Stmt} {N ps : List Str} {k : Nat} {sp : Sp} (d : DefAt K mg x st ps) (S : FnScope N ps (defScope st)) (len : ∀ vs H Q E, sp vs H Q E → vs.length = ps.length)
    (hbody : ∀ (f : Addr) (cdv : Value) (A : Around) (outer : List Env) (s : Shared) (H : Hp) (vs : List V) (Q : VK) (E : XK), Room k (A.deeper (envOfC x (defScope st) s.heap.objs.size f cdv)) → sp vs H Q E →
      ∃ t, PSs (cxOf CX0 P w K mg base N x (defScope st) f cdv A outer s H E).nox (defBody st) t ∧ t { nx := fun _ H' => Q .non H', rt := Q } (start N vs) H) : Cal P w K mg base (k + 1) x sp := by
  obtain ⟨f, fd, F, hm, b⟩ := d.ex
  exact ⟨f, fd, ps, F.ok S len (hbody f), hm, F.kp, b⟩
theorem MethAt.met {C : Addr} {m qual : Str} {st : Stmt} {N ps : List Str} {k : Nat} {sp : Sp} (c : Cls K C) (d : MethAt K C m qual st ps) (S : FnScope N ps (defScope st)) (len : ∀ vs H Q E, sp vs H Q E → vs.length = ps.length)
    (hbody : ∀ (f : Addr) (cdv : Value) (A : Around) (outer : List Env) (s : Shared) (H : Hp) (vs : List V) (Q : VK) (E : XK), Room k (A.deeper (envOfC qual (defScope st) s.heap.objs.size f cdv)) → sp vs H Q E →
      ∃ t, PSs (cxOf CX0 P w K mg base N qual (defScope st) f cdv A outer s H E).nox (defBody st) t ∧ t { nx := fun _ H' => Q .non H', rt := Q } (start N vs) H) : Met P w K mg base (k + 1) C m sp := by
  obtain ⟨f, fd, F, hm, b⟩ := d.ex
  exact ⟨f, fd, ps, c, hm, F.ok S len (hbody f), b⟩
theorem InitAt.mak {x : Str} {C : Addr} {qual : Str} {st : Stmt} {N ps : List Str} {k : Nat} {sp : Sp} (hx : mg x = some (.ref C)) (d : InitAt K C qual st ps) (S : FnScope N ps (defScope st)) (len : ∀ vs H Q E, sp vs H Q E → vs.length = ps.length)
    (hbody : ∀ (f : Addr) (cdv : Value) (A : Around) (outer : List Env) (s : Shared) (H : Hp) (vs : List V) (Q : VK) (E : XK), Room k (A.deeper (envOfC qual (defScope st) s.heap.objs.size f cdv)) → sp vs H Q E →
      ∃ t, PSs (cxOf CX0 P w K mg base N qual (defScope st) f cdv A outer s H E).nox (defBody st) t ∧ t { nx := fun _ H' => Q .non H', rt := Q } (start N vs) H) : Mak P w K mg base (k + 1) x C sp := by
  obtain ⟨f, fd, F, hm, b⟩ := d.ex
  exact ⟨f, fd, ps, hm, F.ok S len (hbody f), hx, b⟩
/-- a def that may raise -/
structure CalX (P : Program) (w : World) (K : PySem.W.Frag) (mg : Str → Option Value) (base : Heap) (k : Nat) (x : Str) (sp : Sp) : Prop where
  ex : ∃ (f : Addr) (fd : FuncData) (ps : List Str), FnOk P w K mg base (L2.CX P w) k f fd ps sp ∧ mg x = some (.ref f) ∧ PySem.W.keepIn K (.ref f) = true ∧ Binds K fd ps []
theorem DefAt.calX {x : Str} {st : Stmt} {N ps : List Str} {k : Nat} {sp : Sp} (d : DefAt K mg x st ps) (S : FnScope N ps (defScope st)) (len : ∀ vs H Q E, sp vs H Q E → vs.length = ps.length)
    (hbody : ∀ (f : Addr) (cdv : Value) (A : Around) (outer : List Env) (s : Shared) (H : Hp) (vs : List V) (Q : VK) (E : XK), Room k (A.deeper (envOfC x (defScope st) s.heap.objs.size f cdv)) → sp vs H Q E →
      ∃ t, PSs (cxOf (L2.CX P w) P w K mg base N x (defScope st) f cdv A outer s H E) (defBody st) t ∧ t { nx := fun _ H' => Q .non H', rt := Q } (start N vs) H) : CalX P w K mg base (k + 1) x sp := by
  obtain ⟨f, fd, F, hm, b⟩ := d.ex
  exact ⟨f, fd, ps, F.okX S len (hbody f), hm, F.kp, b⟩
end
section
variable {X : Cx} {k j : Nat} {C : Addr} {x m : Str} {sp : Sp} {p pos apos : Pos} {e o : Expr} {es : List Expr} {ta : TE} {t : TA}
theorem pe_c (c : Cal X.prog X.w X.K X.mg X.base k x sp) (hr : Room j X.A) (hk : k ≤ j) (hg : Gl X x) (ha : PA X (e :: es) t)
    (hdb : (x == ("__debug__" : Str)) = false := by decide) (he : starEach (e :: es) X.env = (false, eval e X.env) :: starEach es X.env := by rfl) (hpl : (backTo pos (starEach es X.env)).any (·.1) = false := by rfl) :
    PE X (.Call (.Name x p) (e :: es) [] pos) (tCall sp [] E0 t) := by
  obtain ⟨f, fd, ps, F, hm, kp, b⟩ := c.ex
  exact pe_call F (hr.mono hk) hg hm kp b .nil pass0 ha hdb he hpl
theorem pe_c0 (c : Cal X.prog X.w X.K X.mg X.base k x sp) (hr : Room j X.A) (hk : k ≤ j) (hg : Gl X x)
    (hdb : (x == ("__debug__" : Str)) = false := by decide) :
    PE X (.Call (.Name x p) [] [] pos) (tCall sp [] E0 tNil) := by
  obtain ⟨f, fd, ps, F, hm, kp, b⟩ := c.ex
  exact pe_call0 F (hr.mono hk) hg hm kp b .nil pass0 hdb
theorem pe_mk (c : Mak X.prog X.w X.K X.mg X.base k x C sp) (hr : Room j X.A) (hk : k + 1 ≤ j) (hg : Gl X x) (ha : PA X (e :: es) t)
    (hdb : (x == ("__debug__" : Str)) = false := by decide) (he : starEach (e :: es) X.env = (false, eval e X.env) :: starEach es X.env := by rfl) (hpl : (backTo pos (starEach es X.env)).any (·.1) = false := by rfl) :
    PE X (.Call (.Name x p) (e :: es) [] pos) (tMake C sp [] E0 t) := by
  obtain ⟨f, fd, ps, M, F, hm, b⟩ := c.ex
  exact pe_make M F (hr.mono hk) hg hm b .nil pass0 ha hdb he hpl
theorem pe_mt {pl : Sem Bool} (c : Met X.prog X.w X.K X.mg X.base k C m sp) (hr : Room j X.A) (hk : k ≤ j) (he : PE X o ta) (ha : PA X (e :: es) t)
    (hst : starEach (e :: es) X.env = (false, eval e X.env) :: starEach es X.env := by rfl) (hpl : (backTo pos (starEach es X.env)).any (·.1) = false := by rfl)
    (ht : eval (.Call (.Attribute o m apos) (e :: es) [] pos) X.env = (do
      let ov ← eval o X.env
      standAt apos.atName
      let (f, first) ← holding [ov] (getMethod ov m pl)
      callWith pos f first (backTo pos (starEach (e :: es) X.env)) (backToKw pos (keywordEach [] X.env))) := by rfl) :
    PE X (.Call (.Attribute o m apos) (e :: es) [] pos) (tMeth C m sp [] E0 ta t) := by
  obtain ⟨f, fd, ps, hc, hm, F, b⟩ := c.ex
  exact pe_meth (pl := pl) he hc hm F (hr.mono hk) b .nil pass0 ha hst hpl ht
theorem pe_mt0 {pl : Sem Bool} (c : Met X.prog X.w X.K X.mg X.base k C m sp) (hr : Room j X.A) (hk : k ≤ j) (he : PE X o ta)
    (ht : eval (.Call (.Attribute o m apos) [] [] pos) X.env = (do
      let ov ← eval o X.env
      standAt apos.atName
      let (f, first) ← holding [ov] (getMethod ov m pl)
      callWith pos f first (backTo pos (starEach [] X.env)) (backToKw pos (keywordEach [] X.env))) := by rfl) :
    PE X (.Call (.Attribute o m apos) [] [] pos) (tMeth C m sp [] E0 ta tNil) := by
  obtain ⟨f, fd, ps, hc, hm, F, b⟩ := c.ex
  exact pe_meth0 (pl := pl) he hc hm F (hr.mono hk) b .nil pass0 ht
/-- a call of a def that may raise, where nothing is raised -/
theorem pe_x0 (c : CalX X.prog X.w X.K X.mg X.base k x sp) (hr : Room j X.A) (hk : k ≤ j) (hg : Gl X x) (ha : PA X (e :: es) t)
    (hdb : (x == ("__debug__" : Str)) = false := by decide) (he : starEach (e :: es) X.env = (false, eval e X.env) :: starEach es X.env := by rfl) (hpl : (backTo pos (starEach es X.env)).any (·.1) = false := by rfl) :
    PE X (.Call (.Name x p) (e :: es) [] pos) (tCall sp [] E0 t) := by
  obtain ⟨f, fd, ps, F, hm, kp, b⟩ := c.ex
  exact pe_call F (hr.mono hk) hg hm kp b .nil passL ha hdb he hpl
end
/-- a built-in class as a value -/
theorem pe_ty {X : Cx} {x : Str} {pos : Pos} (n : String) (hg : Gl X x) (hm : X.mg x = none) (hv : bootBuiltins x = some (.type n)) (hn : x ≠ "__name__" := by decide) (hdb : (x == ("__debug__" : Str)) = false := by decide) : PE X (.Name x pos) (tC (.ty n)) :=
  pe_bltn hg hm hv rfl hn hdb
/-- a constant of the module -/
theorem pe_gc {X : Cx} {x : Str} {pos : Pos} {v : V} (hg : Gl X x) (h : ∃ u, X.mg x = some u ∧ RelV v u) (hdb : (x == ("__debug__" : Str)) = false := by decide) : PE X (.Name x pos) (tC v) := by
  obtain ⟨u, h1, h2⟩ := h
  exact pe_glob hg h1 h2 hdb
/-! ### heaps -/
theorem hp_new {H : Hp} {a b : Addr} {o o' : HO} (h : H a = none) (h' : H b = some o') : upd H a o b = some o' := by
  rw [upd_ne (ne_of_none h' h)]; exact h'
theorem hp_same {H H' : Hp} {b : Addr} {o : HO} (e : Same H H') (h : H b = some o) : H' b = some o := e b o h
theorem same_upd {H H' : Hp} {a : Addr} {o : HO} (e : Same H H') (h : H' a = none) : Same H (upd H' a o) := fun b o' q => hp_new h (e b o' q)
theorem same_new {H : Hp} {a : Addr} {o : HO} (h : H a = none) : Same H (upd H a o) := fun b o' q => hp_new h q
theorem cxOf_K {CX : CXT} {P : Program} {w : World} {K : PySem.W.Frag} {mg : Str → Option Value} {base : Heap} {N : List Str} {qual : Str} {scope : Scope} {f : Addr} {cd : Value} {A : Around} {outer : List Env} {s : Shared} {H : Hp} {E : XK} : (cxOf CX P w K mg base N qual scope f cd A outer s H E).nox.K = K := rfl
theorem cxOf_K' {CX : CXT} {P : Program} {w : World} {K : PySem.W.Frag} {mg : Str → Option Value} {base : Heap} {N : List Str} {qual : Str} {scope : Scope} {f : Addr} {cd : Value} {A : Around} {outer : List Env} {s : Shared} {H : Hp} {E : XK} : (cxOf CX P w K mg base N qual scope f cd A outer s H E).K = K := rfl
theorem cxOf_mg {CX : CXT} {P : Program} {w : World} {K : PySem.W.Frag} {mg : Str → Option Value} {base : Heap} {N : List Str} {qual : Str} {scope : Scope} {f : Addr} {cd : Value} {A : Around} {outer : List Env} {s : Shared} {H : Hp} {E : XK} : (cxOf CX P w K mg base N qual scope f cd A outer s H E).nox.mg = mg := rfl
theorem cxOf_mg' {CX : CXT} {P : Program} {w : World} {K : PySem.W.Frag} {mg : Str → Option Value} {base : Heap} {N : List Str} {qual : Str} {scope : Scope} {f : Addr} {cd : Value} {A : Around} {outer : List Env} {s : Shared} {H : Hp} {E : XK} : (cxOf CX P w K mg base N qual scope f cd A outer s H E).mg = mg := rfl
/-- a new tuple, a new list: all that stood stands -/
def NewT (H : Hp) (xs : List V) (Q : VK) : Prop := ∀ p H', H p = none → Same H H' → H' p = some (.tup xs) → Q (.ref p) H'
def NewL (H : Hp) (xs : List V) (Q : VK) : Prop := ∀ p H', H p = none → Same H H' → H' p = some (.lst xs) → Q (.ref p) H'
theorem NewT.at {H : Hp} {xs : List V} {Q : VK} (q : NewT H xs Q) (p : Addr) (h : H p = none) : Q (.ref p) (upd H p (.tup xs)) := q p _ h (same_new h) upd_same
theorem NewL.at {H : Hp} {xs : List V} {Q : VK} (q : NewL H xs Q) (p : Addr) (h : H p = none) : Q (.ref p) (upd H p (.lst xs)) := q p _ h (same_new h) upd_same
theorem NewT.of {H H' : Hp} {xs : List V} {Q : VK} (q : NewT H xs Q) (e : Same H H') : NewT H' xs Q := fun p H2 h s x => q p H2 (e.free h) (e.trans s) x
theorem NewL.of {H H' : Hp} {xs : List V} {Q : VK} (q : NewL H xs Q) (e : Same H H') : NewL H' xs Q := fun p H2 h s x => q p H2 (e.free h) (e.trans s) x
/-! ### readings by name -/
section
variable {X : Cx}
def aAdd (K : PySem.W.Frag) : R2 := fun x y H Q => rI0 (fun i j => .int (i + j)) x y H Q ∨ (∃ i j, x = .str i ∧ y = .str j ∧ i.length + j.length ≤ sizeLine ∧ Q (.str (i ++ j)) H) ∨ rCat x y H Q ∨ rCatA K x y H Q
theorem op_addA : OpR X (binaryOp .Add) (aAdd X.K) := op_add.or (op_add_str.or (op_cat.or op_catA))
def aMul : R2 := fun x y H Q => rI CMulW (fun i j => .int (i * j)) x y H Q ∨ rRep x y H Q
theorem op_mulA : OpR X (binaryOp .Mult) aMul := op_mulW.or op_rep
def aEq (K : PySem.W.Frag) : R2 := fun x y H Q => rEq x y H Q ∨ rEqD K x y H Q
theorem op_eqA {k : Nat} (hr : Room k X.A) : OpR X (compareOp .Eq) (aEq X.K) := op_eq.or (op_eqD hr.units)
def aNe (K : PySem.W.Frag) : R2 := fun x y H Q => rNe x y H Q ∨ rNeD K x y H Q
theorem op_neA {k : Nat} (hr : Room k X.A) : OpR X (compareOp .NotEq) (aNe X.K) := op_ne.or (op_neD hr.units)
def aLe : R2 := fun x y H Q => rI0 (fun i j => .bl (decide (i ≤ j))) x y H Q ∨ ∃ i j, x = .str i ∧ y = .str j ∧ Q (.bl (!decide (j.cps.toList < i.cps.toList))) H
theorem op_leA : OpR X (compareOp .LtE) aLe := op_le.or op_le_str
def aLt : R2 := fun x y H Q => rI0 (fun i j => .bl (decide (i < j))) x y H Q ∨ ∃ i j, x = .str i ∧ y = .str j ∧ Q (.bl (decide (i.cps.toList < j.cps.toList))) H
theorem op_ltA : OpR X (compareOp .Lt) aLt := op_lt.or op_lt_str
def aIn (K : PySem.W.Frag) : R2 := fun x y H Q => (∃ (c : Nat) (z : Str), x = .str ⟨#[c]⟩ ∧ y = .str z ∧ Q (.bl (decide (c ∈ z.cps.toList))) H) ∨ rIn K false x y H Q
theorem op_inA : OpR X (compareOp .In) (aIn X.K) := op_in_sign.or op_in_seq
def aNotIn (K : PySem.W.Frag) : R2 := fun x y H Q => (∃ (c : Nat) (z : Str), x = .str ⟨#[c]⟩ ∧ y = .str z ∧ Q (.bl (!decide (c ∈ z.cps.toList))) H) ∨ rIn K true x y H Q
theorem op_notInA : OpR X (compareOp .NotIn) (aNotIn X.K) := op_notIn_sign.or op_notIn_seq
def aLen (K : PySem.W.Frag) : List V → Hp → VK → Prop := fun xs H Q => (∃ p ys, xs = [.ref p] ∧ (SqL K H p ys ∨ SqT K H p ys) ∧ Q (.int ys.length) H) ∨ (∃ z, xs = [.str z] ∧ z.length ≤ sizeLine ∧ Q (.int z.length) H) ∨ (∃ a kvs, xs = [V.ref a] ∧ H a = some (.dK kvs) ∧ Q (.int kvs.length) H)
theorem call_lenA : CallR X (.builtin "len") (aLen X.K) := call_len_seq.or (call_len_str.or call_lenD)
def aAbs : List V → Hp → VK → Prop := fun xs H Q => ∃ i, xs = [.int i] ∧ Q (.int (if i < 0 then -i else i)) H
theorem call_absA : CallR X (.builtin "abs") aAbs := call_abs
def aMax2 : List V → Hp → VK → Prop := fun xs H Q => ∃ i j, xs = [.int i, .int j] ∧ Q (.int (if j > i then j else i)) H
theorem call_max2A (hc : X.calm = true) : CallR X (.builtin "max") aMax2 := call_max2 hc
def aMin2 : List V → Hp → VK → Prop := fun xs H Q => ∃ i j, xs = [.int i, .int j] ∧ Q (.int (if j < i then j else i)) H
theorem call_min2A (hc : X.calm = true) : CallR X (.builtin "min") aMin2 := call_min2 hc
def aInt1 : List V → Hp → VK → Prop := fun xs H Q => (∃ i, xs = [.int i] ∧ Q (.int i) H) ∨ ∃ k, xs = [.bl k] ∧ Q (.int (if k then 1 else 0)) H
theorem call_int1A : CallR X (.type "int") aInt1 := call_int1
def aStr1 : List V → Hp → VK → Prop := fun xs H Q => ∃ i, xs = [.int i] ∧ i.natAbs.log2 < 1920 ∧ Q (.str (toString i)) H
theorem call_str1A : CallR X (.type "str") aStr1 := call_str_int
def aList1 (K : PySem.W.Frag) : List V → Hp → VK → Prop := fun xs H Q => ∃ p ys, xs = [.ref p] ∧ (SqL K H p ys ∨ SqT K H p ys) ∧ ∀ l, H l = none → Q (.ref l) (upd H l (.lst ys))
theorem call_list1A : CallR X (.type "list") (aList1 X.K) := call_list_of
def aTuple1 (K : PySem.W.Frag) : List V → Hp → VK → Prop := fun xs H Q => ∃ p ys, xs = [.ref p] ∧ ((SqL K H p ys ∧ ∀ l, H l = none → Q (.ref l) (upd H l (.tup ys))) ∨ (SqT K H p ys ∧ Q (.ref p) H))
theorem call_tuple1A : CallR X (.type "tuple") (aTuple1 X.K) := call_tuple_of
def aTru (K : PySem.W.Frag) (ta : TE) : TT := fun σ H Q => ta σ H fun x H' => ∃ k, TruV K x H' k ∧ Q k H'
theorem pt_tru {a : Expr} {ta : TE} (ha : PE X a ta) (he : ∀ whole, isTrue a X.env whole = (do let v ← whole; standAt a.pos; holding [v] (truthy v))) : PT X a (aTru X.K ta) := pt_truth ha he
def aIsN : R2 := fun x y H Q => y = .non ∧ Q (.bl (decide (x = .non))) H
theorem op_isNA : OpR X (compareOp .Is) aIsN := op_isN
def aNotN : R2 := fun x y H Q => y = .non ∧ Q (.bl (!decide (x = .non))) H
theorem op_notNA : OpR X (compareOp .IsNot) aNotN := op_notN
end
/-! ### one step of a reading -/
section
variable {K : PySem.W.Frag} {σ : L2.St} {H : Hp} {N B C : L2.St → Hp → Prop} {R : VK} {t u : TS} {c d : TT} {ta tb te tc : TE} {tr : TA} {Q : VK} {g : TG} {i j : Nat} {v x y : V} {r r' : R2}
theorem L_seq (h : t ⟨u ⟨N, R, B, C⟩, R, B, C⟩ σ H) : tSeq t u ⟨N, R, B, C⟩ σ H := h
theorem L_next (h : N σ H) : tNext ⟨N, R, B, C⟩ σ H := h
theorem L_brk (h : B σ H) : tBreak ⟨N, R, B, C⟩ σ H := h
theorem L_cont (h : C σ H) : tCont ⟨N, R, B, C⟩ σ H := h
theorem L_ret (h : te σ H R) : tRet te ⟨N, R, B, C⟩ σ H := h
theorem L_retN (h : R .non H) : tRetN ⟨N, R, B, C⟩ σ H := h
theorem L_drop (h : te σ H fun _ H1 => N σ H1) : tDrop te ⟨N, R, B, C⟩ σ H := h
theorem L_asg (h : te σ H fun x H1 => g x σ H1 N) : tAsg te g ⟨N, R, B, C⟩ σ H := h
theorem L_gname {Q : L2.St → Hp → Prop} (h : Q (σ.set i (some v)) H) : gName i v σ H Q := h
theorem L_aug {ti : TIp} (hx : σ[i]? = some (some x)) (h : te σ H fun y H1 => ti x y H1 fun z H2 => N (σ.set i (some z)) H2) : tAug i te ti ⟨N, R, B, C⟩ σ H := ⟨x, hx, h⟩
theorem L_ipI {f : Int → Int → Int} {a b : Int} (h : Q (.int (f a b)) H) : ipI f (.int a) (.int b) H Q := ⟨a, b, rfl, rfl, h⟩
theorem L_ifS (h : c σ H fun b H1 => if b = true then t ⟨N, R, B, C⟩ σ H1 else u ⟨N, R, B, C⟩ σ H1) : tIfS c t u ⟨N, R, B, C⟩ σ H := h
theorem L_par (h : tr σ H fun vs H1 => ∃ v w, vs = [v, w] ∧ N ((σ.set i (some v)).set j (some w)) H1) : tPar i j tr ⟨N, R, B, C⟩ σ H := h
theorem L_par3 {l : Nat} (h : tr σ H fun vs H1 => ∃ u v w, vs = [u, v, w] ∧ N (((σ.set i (some u)).set j (some v)).set l (some w)) H1) : tPar3 i j l tr ⟨N, R, B, C⟩ σ H := h
theorem L_vs2 {Q : V → V → Prop} (h : Q x y) : ∃ v w, [x, y] = [v, w] ∧ Q v w := ⟨x, y, rfl, h⟩
theorem L_vs3 {z : V} {Q : V → V → V → Prop} (h : Q x y z) : ∃ u v w, [x, y, z] = [u, v, w] ∧ Q u v w := ⟨x, y, z, rfl, h⟩
theorem L_var (h : σ[i]? = some (some v)) (q : Q v H) : tVar i σ H Q := ⟨v, h, q⟩
theorem L_c (q : Q v H) : tC v σ H Q := q
theorem L_op (h : ta σ H fun x H1 => tb σ H1 fun y H2 => r x y H2 Q) : tOp r ta tb σ H Q := h
theorem L_un {r : V → Hp → VK → Prop} (h : ta σ H fun x H1 => r x H1 Q) : tUn r ta σ H Q := h
theorem L_rU {g : Int → V} {i : Int} (q : Q (g i) H) : rU g (.int i) H Q := ⟨i, rfl, q⟩
theorem L_I0 {g : Int → Int → V} {i j : Int} (q : Q (g i j) H) : rI0 g (.int i) (.int j) H Q := ⟨i, j, rfl, rfl, q⟩
theorem L_I {C : Int → Int → Prop} {g : Int → Int → V} {i j : Int} (hc : C i j) (q : Q (g i j) H) : rI C g (.int i) (.int j) H Q := ⟨i, j, rfl, rfl, hc, q⟩
theorem L_addI {i j : Int} (q : Q (.int (i + j)) H) : aAdd K (.int i) (.int j) H Q := .inl ⟨i, j, rfl, rfl, q⟩
theorem L_addS {a b : Str} (hl : a.length + b.length ≤ sizeLine) (q : Q (.str (a ++ b)) H) : aAdd K (.str a) (.str b) H Q := .inr (.inl ⟨a, b, rfl, rfl, hl, q⟩)
theorem L_addL {a b : Addr} {xs ys : List V} (ha : H a = some (.lst xs)) (hb : H b = some (.lst ys)) (hl : xs.length + ys.length ≤ sizeLine) (q : ∀ p, H p = none → Q (.ref p) (upd H p (.lst (xs ++ ys)))) : aAdd K (.ref a) (.ref b) H Q := .inr (.inr (.inl ⟨a, b, xs, ys, rfl, rfl, ha, hb, hl, q⟩))
theorem L_mulI {i j : Int} (hc : CMulW i j) (q : Q (.int (i * j)) H) : aMul (.int i) (.int j) H Q := .inl ⟨i, j, rfl, rfl, hc, q⟩
theorem L_eqI {i j : Int} (q : Q (.bl (decide (i = j))) H) : aEq K (.int i) (.int j) H Q := .inl ⟨rfl, by rw [show decide (V.int i = V.int j) = decide (i = j) by simp]; exact q⟩
theorem L_eqS {i j : Str} (q : Q (.bl (decide (i = j))) H) : aEq K (.str i) (.str j) H Q := .inl ⟨rfl, by rw [show decide (V.str i = V.str j) = decide (i = j) by simp]; exact q⟩
theorem L_eqB {i j : Bool} (q : Q (.bl (decide (i = j))) H) : aEq K (.bl i) (.bl j) H Q := .inl ⟨rfl, by rw [show decide (V.bl i = V.bl j) = decide (i = j) by simp]; exact q⟩
theorem L_neI {i j : Int} (q : Q (.bl (!decide (i = j))) H) : aNe K (.int i) (.int j) H Q := .inl ⟨rfl, by rw [show decide (V.int i = V.int j) = decide (i = j) by simp]; exact q⟩
theorem L_neS {i j : Str} (q : Q (.bl (!decide (i = j))) H) : aNe K (.str i) (.str j) H Q := .inl ⟨rfl, by rw [show decide (V.str i = V.str j) = decide (i = j) by simp]; exact q⟩
theorem L_eqD {d e : PyData} (hx : Dp K H x d) (hy : Dp K H y e) (sd : SeqAt.shaped d = true) (se : SeqAt.shaped e = true) (q : Q (.bl (PyData.eqv d e)) H) : aEq K x y H Q := .inr ⟨d, e, hx, hy, sd, se, q⟩
theorem L_neD {d e : PyData} (hx : Dp K H x d) (hy : Dp K H y e) (sd : SeqAt.shaped d = true) (se : SeqAt.shaped e = true) (q : Q (.bl (!PyData.eqv d e)) H) : aNe K x y H Q := .inr ⟨d, e, hx, hy, sd, se, q⟩
theorem L_leI {i j : Int} (q : Q (.bl (decide (i ≤ j))) H) : aLe (.int i) (.int j) H Q := .inl ⟨i, j, rfl, rfl, q⟩
theorem L_leS {i j : Str} (q : Q (.bl (!decide (j.cps.toList < i.cps.toList))) H) : aLe (.str i) (.str j) H Q := .inr ⟨i, j, rfl, rfl, q⟩
theorem L_ltI {i j : Int} (q : Q (.bl (decide (i < j))) H) : aLt (.int i) (.int j) H Q := .inl ⟨i, j, rfl, rfl, q⟩
theorem L_isN (q : Q (.bl (decide (x = .non))) H) : aIsN x .non H Q := ⟨rfl, q⟩
theorem L_notN (q : Q (.bl (!decide (x = .non))) H) : aNotN x .non H Q := ⟨rfl, q⟩
theorem L_inC {a : Nat} {z : Str} (q : Q (.bl (decide (a ∈ z.cps.toList))) H) : aIn K (.str ⟨#[a]⟩) (.str z) H Q := .inl ⟨a, z, rfl, rfl, q⟩
theorem L_notInC {a : Nat} {z : Str} (q : Q (.bl (!decide (a ∈ z.cps.toList))) H) : aNotIn K (.str ⟨#[a]⟩) (.str z) H Q := .inl ⟨a, z, rfl, rfl, q⟩
theorem L_fld {f : Str} (h : ta σ H fun x H1 => ∃ a C dx fs v, x = .ref a ∧ H1 a = some (.ins C dx fs) ∧ Cls K C ∧ NoAttr K C f ∧ fs.lookup f = some v ∧ Q v H1) : tFld K ta f σ H Q := h
theorem L_fldv {a C dx : Addr} {fs : List (Str × V)} {f : Str} {Q : V → Prop} (h : H a = some (.ins C dx fs)) (cl : Cls K C) (n : NoAttr K C f) (l : fs.lookup f = some v) (q : Q v) :
    ∃ a' C dx fs v, V.ref a = V.ref a' ∧ H a' = some (.ins C dx fs) ∧ Cls K C ∧ NoAttr K C f ∧ fs.lookup f = some v ∧ Q v := ⟨a, C, dx, fs, v, rfl, h, cl, n, l, q⟩
theorem L_tTest {Q : Bool → Hp → Prop} (h : te σ H fun x H' => ∃ k, x = .bl k ∧ Q k H') : tTest te σ H Q := h
theorem L_tB {Q : Bool → Hp → Prop} (h : te σ H fun x H' => ∃ k, x = .bl k ∧ Q k H') : tB te σ H Q := h
theorem L_k {b : Bool} {Q : Bool → Prop} (q : Q b) : ∃ k, V.bl b = V.bl k ∧ Q k := ⟨b, rfl, q⟩
theorem L_tru {Q : Bool → Hp → Prop} (h : te σ H fun x H' => ∃ k, TruV K x H' k ∧ Q k H') : aTru K te σ H Q := h
theorem L_truB {b : Bool} {Q : Bool → Prop} (q : Q b) : ∃ k, TruV K (.bl b) H k ∧ Q k := ⟨b, rfl, q⟩
theorem L_truI {i : Int} {Q : Bool → Prop} (q : Q (i != 0)) : ∃ k, TruV K (.int i) H k ∧ Q k := ⟨_, rfl, q⟩
theorem L_and {Q : Bool → Hp → Prop} (h : c σ H fun b H1 => if b = true then d σ H1 Q else Q false H1) : tAnd c d σ H Q := h
theorem L_or {Q : Bool → Hp → Prop} (h : c σ H fun b H1 => if b = true then Q true H1 else d σ H1 Q) : tOr c d σ H Q := h
theorem L_not {Q : Bool → Hp → Prop} (h : c σ H fun b H1 => Q (!b) H1) : tNot c σ H Q := h
theorem L_andV (h : ta σ H fun x H1 => ∃ c, x = .bl c ∧ if c = true then tb σ H1 Q else Q (.bl false) H1) : tAndV ta tb σ H Q := h
theorem L_orV (h : ta σ H fun x H1 => ∃ c, x = .bl c ∧ if c = true then Q (.bl true) H1 else tb σ H1 Q) : tOrV ta tb σ H Q := h
theorem L_notV (h : ta σ H fun x H1 => ∃ c, x = .bl c ∧ Q (.bl (!c)) H1) : tNotV ta σ H Q := h
theorem L_ifE (h : c σ H fun b H1 => if b = true then ta σ H1 Q else tb σ H1 Q) : tIf c ta tb σ H Q := h
theorem L_chain (h : ta σ H fun x H1 => tb σ H1 fun y H2 => r x y H2 fun z H3 => ∃ k, z = .bl k ∧ (if k = true then tc σ H3 fun w' H4 => r' y w' H4 Q else Q (.bl false) H3)) : tChain r r' ta tb tc σ H Q := h
theorem L_T {A B : Prop} (a : A) : if true = true then A else B := by rw [if_pos rfl]; exact a
theorem L_F {A B : Prop} (b : B) : if false = true then A else B := by rw [if_neg Bool.false_ne_true]; exact b
theorem L_dT {p : Prop} [Decidable p] {A B : Prop} (h : p) (a : A) : if decide p = true then A else B := by rw [decide_eq_true h]; exact L_T a
theorem L_dF {p : Prop} [Decidable p] {A B : Prop} (h : ¬ p) (b : B) : if decide p = true then A else B := by rw [decide_eq_false h]; exact L_F b
theorem L_d {p : Prop} [Decidable p] {A B : Prop} (a : p → A) (b : ¬ p → B) : if decide p = true then A else B := by
  by_cases h : p
  · exact L_dT h (a h)
  · exact L_dF h (b h)
theorem L_nd {p : Prop} [Decidable p] {A B : Prop} (a : ¬ p → A) (b : p → B) : if (!decide p) = true then A else B := by
  by_cases h : p
  · rw [decide_eq_true h]; exact L_F (b h)
  · rw [decide_eq_false h]; exact L_T (a h)
theorem L_ndT {p : Prop} [Decidable p] {A B : Prop} (h : ¬ p) (a : A) : if (!decide p) = true then A else B := by rw [decide_eq_false h]; exact L_T a
theorem L_ndF {p : Prop} [Decidable p] {A B : Prop} (h : p) (b : B) : if (!decide p) = true then A else B := by rw [decide_eq_true h]; exact L_F b
theorem L_b {k : Bool} {A B : Prop} (a : k = true → A) (b : k = false → B) : if k = true then A else B := by
  cases k with
  | true => exact L_T (a rfl)
  | false => exact L_F (b rfl)
theorem L_nT {A B : Prop} (b : B) : if (!true) = true then A else B := L_F b
theorem L_nF {A B : Prop} (a : A) : if (!false) = true then A else B := L_T a
theorem L_nil {Q : List V → Hp → Prop} (q : Q [] H) : tNil σ H Q := q
theorem L_cons {Q : List V → Hp → Prop} (h : ta σ H fun x H1 => tr σ H1 fun xs H2 => Q (x :: xs) H2) : tCons ta tr σ H Q := h
theorem L_tup (h : tr σ H fun xs H1 => xs.length ≤ sizeLine ∧ ∀ p, H1 p = none → Q (.ref p) (upd H1 p (.tup xs))) : tTup tr σ H Q := h
theorem L_lst (h : tr σ H fun xs H1 => xs.length ≤ sizeLine ∧ ∀ p, H1 p = none → Q (.ref p) (upd H1 p (.lst xs))) : tLst tr σ H Q := h
theorem L_new {n : Nat} {R : Prop} (hl : n ≤ sizeLine) (q : R) : n ≤ sizeLine ∧ R := ⟨hl, q⟩
theorem L_call {sp : Sp} {E : XK} (h : tr σ H fun vs H1 => sp vs H1 Q E) : tCall sp [] E tr σ H Q := by
  unfold tCall
  simp only [List.append_nil]
  exact h
theorem L_cb {r : List V → Hp → VK → Prop} (h : tr σ H fun vs H1 => r vs H1 Q) : tCB r tr σ H Q := h
theorem L_lenL {a : Addr} {xs : List V} (h : SqL K H a xs) (q : Q (.int xs.length) H) : aLen K [.ref a] H Q := .inl ⟨a, xs, rfl, .inl h, q⟩
theorem L_lenT {a : Addr} {xs : List V} (h : SqT K H a xs) (q : Q (.int xs.length) H) : aLen K [.ref a] H Q := .inl ⟨a, xs, rfl, .inr h, q⟩
theorem L_lenS {z : Str} (h : z.length ≤ sizeLine) (q : Q (.int z.length) H) : aLen K [.str z] H Q := .inr (.inl ⟨z, rfl, h, q⟩)
theorem L_abs {i : Int} (q : Q (.int (if i < 0 then -i else i)) H) : aAbs [.int i] H Q := ⟨i, rfl, q⟩
theorem L_max2 {i j : Int} (q : Q (.int (max i j)) H) : aMax2 [.int i, .int j] H Q := ⟨i, j, rfl, by rw [show (if j > i then j else i) = max i j by omega]; exact q⟩
theorem L_min2 {i j : Int} (q : Q (.int (min i j)) H) : aMin2 [.int i, .int j] H Q := ⟨i, j, rfl, by rw [show (if j < i then j else i) = min i j by omega]; exact q⟩
theorem L_int1 {i : Int} (q : Q (.int i) H) : aInt1 [.int i] H Q := .inl ⟨i, rfl, q⟩
theorem L_int1B {k : Bool} (q : Q (.int (if k then 1 else 0)) H) : aInt1 [.bl k] H Q := .inr ⟨k, rfl, q⟩
theorem L_isi {a n : String} {b : Bool} (hx : TyX K H x (.type a)) (hk : kitB a n = some b) (q : Q (.bl b) H) : rIsi K [x, .ty n] H Q := ⟨x, .ty n, .type a, .type n, b, rfl, .ty n, hx, kit_ty hk, q⟩
theorem L_ixL {p : Addr} {xs : List V} {i : Int} (h : SqL K H p xs) (ha : atI xs i = some v) (q : Q v H) : rIx K (.ref p) (.int i) H Q := .inl ⟨p, xs, i, v, rfl, rfl, h, ha, q⟩
theorem L_ixT {p : Addr} {xs : List V} {i : Int} (h : SqT K H p xs) (ha : atI xs i = some v) (q : Q v H) : rIx K (.ref p) (.int i) H Q := .inr (.inl ⟨p, xs, i, v, rfl, rfl, h, ha, q⟩)
theorem L_ixS {z : Str} {i : Int} {a : Nat} (h : z.length ≤ sizeLine) (ha : atI z.cps.toList i = some a) (q : Q (.str ⟨#[a]⟩) H) : rIx K (.str z) (.int i) H Q := .inr (.inr ⟨z, i, a, rfl, rfl, h, ha, q⟩)
theorem L_bm {T : String} {r : V → List V → Hp → VK → Prop} (h : te σ H fun x H1 => tyV K T x H1 ∧ tr σ H1 fun xs H2 => r x xs H2 Q) : tBM K T r te tr σ H Q := h
theorem L_tyL {a : Addr} {xs : List V} {R : Prop} (h : SqL K H a xs) (q : R) : tyV K "list" (.ref a) H ∧ R := ⟨.inl ⟨rfl, xs, h⟩, q⟩
theorem L_app {a : Addr} {xs : List V} (h : H a = some (.lst xs)) (hl : xs.length < sizeLine) (q : Q .non (upd H a (.lst (xs ++ [v])))) : rAppend (.ref a) [v] H Q := ⟨a, xs, v, rfl, rfl, h, hl, q⟩
theorem L_sum {a : Addr} {ns : List Int} (h : SqL K H a (ns.map V.int)) (q : Q (.int ns.sum) H) : rSum K [.ref a] H Q := ⟨a, ns, rfl, h, q⟩
theorem L_while (W : Nat → L2.St → Hp → Prop) (h0 : ∃ m, W m σ H) (hs : ∀ m σ H, W m σ H → c σ H fun b H1 => if b = true then ∃ M : L2.St → Hp → Prop, (∀ σ' H', M σ' H' → ∃ m', m' < m ∧ W m' σ' H') ∧ t ⟨M, R, N, M⟩ σ H1 else N σ H1) : tWhile c t ⟨N, R, B, C⟩ σ H := ⟨W, h0, hs⟩
theorem L_N {W : Nat → L2.St → Hp → Prop} {m : Nat} (h : t ⟨fun σ' H' => ∃ m', m' < m ∧ W m' σ' H', R, N, fun σ' H' => ∃ m', m' < m ∧ W m' σ' H'⟩ σ H) :
    ∃ M : L2.St → Hp → Prop, (∀ σ' H', M σ' H' → ∃ m', m' < m ∧ W m' σ' H') ∧ t ⟨M, R, N, M⟩ σ H := ⟨_, fun _ _ h => h, h⟩
theorem L_cut {Mid : L2.St → Hp → Prop} (h : t ⟨Mid, R, B, C⟩ σ H) (k : ∀ σ' H', Mid σ' H' → u ⟨N, R, B, C⟩ σ' H') : Evl.tCut t u ⟨N, R, B, C⟩ σ H := ⟨Mid, h, k⟩
theorem L_for {wi : TI} (h : wi σ H fun J H1 => ∃ W : Nat → Nat → L2.St → Hp → Prop, (∃ m, W 0 m σ H1) ∧ ∀ i m σ H, W i m σ H →
      (J.stop i H ∧ N σ H) ∨ (J.go i H ∧ ∃ M : L2.St → Hp → Prop, (∀ σ' H', M σ' H' → ∃ m', m' < m ∧ W (i + 1) m' σ' H') ∧ ∀ x H', J.yld i H x H' → g x σ H' fun σ2 H2 => t ⟨M, R, N, M⟩ σ2 H2)) : tFor wi g t ⟨N, R, B, C⟩ σ H := h
theorem L_iRng1 {R : It → Hp → Prop} (h : tr σ H fun vs H1 => ∃ j : Int, vs = [.int j] ∧ -(2 ^ 62) ≤ j ∧ j < 2 ^ 62 ∧ R (Itr 0 j.toNat) H1) : iRng1 tr σ H R := h
theorem L_iRng2 {R : It → Hp → Prop} (h : tr σ H fun vs H1 => ∃ i j : Int, vs = [.int i, .int j] ∧ (-(2 ^ 62) ≤ i ∧ i < 2 ^ 62 ∧ -(2 ^ 62) ≤ j ∧ j < 2 ^ 62) ∧ R (Itr i (j - i).toNat) H1) : iRng2 tr σ H R := h
theorem L_iList {R : It → Hp → Prop} (h : te σ H fun x H1 => ∃ a, x = .ref a ∧ (∃ xs, SqL K H1 a xs) ∧ R (Itl K a) H1) : iList K te σ H R := h
theorem L_iTup {R : It → Hp → Prop} (h : te σ H fun x H1 => ∃ a, x = .ref a ∧ (∃ xs, SqT K H1 a xs) ∧ R (Itt K a) H1) : iTup K te σ H R := h
theorem L_r1 {n : Int} {R : Int → Prop} (h1 : -(2 ^ 62) ≤ n) (h2 : n < 2 ^ 62) (q : R n) : ∃ j : Int, [V.int n] = [V.int j] ∧ -(2 ^ 62) ≤ j ∧ j < 2 ^ 62 ∧ R j := ⟨n, rfl, h1, h2, q⟩
theorem L_r2 {a n : Int} {R : Int → Int → Prop} (h : -(2 ^ 62) ≤ a ∧ a < 2 ^ 62 ∧ -(2 ^ 62) ≤ n ∧ n < 2 ^ 62) (q : R a n) : ∃ i j : Int, [V.int a, V.int n] = [V.int i, V.int j] ∧ (-(2 ^ 62) ≤ i ∧ i < 2 ^ 62 ∧ -(2 ^ 62) ≤ j ∧ j < 2 ^ 62) ∧ R i j := ⟨a, n, rfl, h, q⟩
theorem L_rl {a : Addr} {xs : List V} {R : Addr → Prop} (h : SqL K H a xs) (q : R a) : ∃ b, V.ref a = V.ref b ∧ (∃ xs, SqL K H b xs) ∧ R b := ⟨a, rfl, ⟨xs, h⟩, q⟩
theorem L_rt {a : Addr} {xs : List V} {R : Addr → Prop} (h : SqT K H a xs) (q : R a) : ∃ b, V.ref a = V.ref b ∧ (∃ xs, SqT K H b xs) ∧ R b := ⟨a, rfl, ⟨xs, h⟩, q⟩
end
theorem sz_dec {n : Nat} (h : n ≤ 1000000) : n ≤ sizeLine := Nat.le_trans h (by decide)
theorem sz_lt {n : Nat} (h : n < 1000000) : n < sizeLine := Nat.lt_of_lt_of_le h (by decide)
/-! ### sizes of ints -/
/-- less than n bits -/
def Bd (n : Nat) (i : Int) : Prop := i.natAbs < 2 ^ n
theorem Bd.mono {n m : Nat} {i : Int} (h : Bd n i) (hm : n ≤ m) : Bd m i := Nat.lt_of_lt_of_le h (Nat.pow_le_pow_right (by decide) hm)
theorem Bd.mul {n m : Nat} {i j : Int} (h : Bd n i) (k : Bd m j) : Bd (n + m) (i * j) := wide_lt h k
theorem Bd.add {n m : Nat} {i j : Int} (h : Bd n i) (k : Bd m j) : Bd (max n m + 1) (i + j) := by
  have a := h.mono (Nat.le_max_left n m)
  have b := k.mono (Nat.le_max_right n m)
  unfold Bd at *
  rw [Nat.pow_succ]
  have := Int.natAbs_add_le i j
  omega
theorem Bd.neg {n : Nat} {i : Int} (h : Bd n i) : Bd n (-i) := by unfold Bd at *; rw [Int.natAbs_neg]; exact h
theorem Bd.sub {n m : Nat} {i j : Int} (h : Bd n i) (k : Bd m j) : Bd (max n m + 1) (i - j) := by
  rw [Int.sub_eq_add_neg]; exact h.add k.neg
theorem Bd.cmul {n m : Nat} {i j : Int} (h : Bd n i) (k : Bd m j) (hz : n + m + 2 ≤ 1000000 := by decide) : CMulW i j :=
  wide_mul (h.mono (Nat.le_succ n)) (k.mono (Nat.le_succ m)) (Nat.succ_pos _) (Nat.succ_pos _) (by omega)
theorem Bd.cdiv {n : Nat} {i j : Int} (k : Bd n j) (h : 0 < j) (hz : n + 1 ≤ 9000 := by decide) : CDivW i j := wide_div h (k.mono (Nat.le_succ n)) (Nat.succ_pos _) hz
theorem bd_lit {i : Int} (h : -4294967296 < i ∧ i < 4294967296) : Bd 32 i := by
  unfold Bd
  have : (2 : Nat) ^ 32 = 4294967296 := by decide
  omega
theorem bd_64 {i : Int} (h : -18446744073709551616 < i ∧ i < 18446744073709551616) : Bd 64 i := by
  unfold Bd
  have : (2 : Nat) ^ 64 = 18446744073709551616 := by decide
  omega
/-- an item of the script, or what stands in its place -/
def cellAt (ns : List Int) (k d : Int) : Int := if k < (ns.length : Int) then ns.getD k.toNat 0 else d
theorem cellAt_in {ns : List Int} {k d : Int} (h0 : 0 ≤ k) (h : k < (ns.length : Int)) : atI (ns.map V.int) k = some (V.int (cellAt ns k d)) := by
  obtain ⟨j, rfl⟩ : ∃ j : Nat, k = (j : Int) := ⟨k.toNat, by omega⟩
  have hl : j < ns.length := by omega
  unfold cellAt
  rw [if_pos h]
  refine atI_nat ?_
  rw [List.getElem?_map, List.getElem?_eq_getElem hl]
  simp [List.getD, List.getElem?_eq_getElem hl]
theorem cellAt_out {ns : List Int} {k d : Int} (h : ¬ k < (ns.length : Int)) : cellAt ns k d = d := if_neg h
theorem cellAt_mem {ns : List Int} {k d : Int} (h0 : 0 ≤ k) : cellAt ns k d ∈ ns ∨ cellAt ns k d = d := by
  unfold cellAt
  split
  · rename_i h
    have hl : k.toNat < ns.length := by omega
    left
    simp [List.getD, List.getElem?_eq_getElem hl]
  · exact .inr rfl
theorem _root_.L2.Same.seqT {K : PySem.W.Frag} {H H' : Hp} {a : Addr} {xs : List V} (e : Same H H') (h : SqT K H a xs) : SqT K H' a xs := by
  rcases h with (h | ⟨o, h⟩) | h
  · exact .inl (.inl (e _ _ h))
  · exact .inl (.inr ⟨o, e _ _ h⟩)
  · exact .inr h
/-! ### what is walked: more -/
section
variable {K : PySem.W.Frag} {σ : L2.St} {H : Hp} {te : TE} {tr : TA} {Q : VK} {g : TG} {tt : TT}
theorem L_yes {Q : Bool → Hp → Prop} (q : Q true H) : tYes σ H Q := q
theorem L_iZip {R : It → Hp → Prop} (h : tr σ H fun vs H1 => ∃ a b xs ys, vs = [.ref a, .ref b] ∧ SqL K H1 a xs ∧ SqL K H1 b ys ∧ R (Itz K a b) H1) : iZip K tr σ H R := h
theorem L_iEnum {R : It → Hp → Prop} (h : tr σ H fun vs H1 => ∃ a xs, vs = [.ref a] ∧ SqL K H1 a xs ∧ R (Ite K a) H1) : iEnum K tr σ H R := h
theorem L_iStr {R : It → Hp → Prop} (h : te σ H fun v H1 => ∃ x, v = .str x ∧ R (Its x) H1) : iStr te σ H R := h
theorem L_iRng3 {R : It → Hp → Prop} (h : tr σ H fun vs H1 => ∃ (i j c : Int) (n : Nat), vs = [.int i, .int j, .int c] ∧ RgC i j c n ∧ R (Itc i c n) H1) : iRng3 tr σ H R := h
theorem L_rz {a b : Addr} {xs ys : List V} {R : Addr → Addr → Prop} (h1 : SqL K H a xs) (h2 : SqL K H b ys) (q : R a b) : ∃ a' b' xs ys, [V.ref a, V.ref b] = [.ref a', .ref b'] ∧ SqL K H a' xs ∧ SqL K H b' ys ∧ R a' b' := ⟨a, b, xs, ys, rfl, h1, h2, q⟩
theorem L_re {a : Addr} {xs : List V} {R : Addr → Prop} (h1 : SqL K H a xs) (q : R a) : ∃ a' xs, [V.ref a] = [.ref a'] ∧ SqL K H a' xs ∧ R a' := ⟨a, xs, rfl, h1, q⟩
theorem L_rs {z : Str} {R : Str → Prop} (q : R z) : ∃ x, V.str z = .str x ∧ R x := ⟨z, rfl, q⟩
theorem L_r3 {i j c : Int} {n : Nat} {R : Int → Int → Nat → Prop} (h : RgC i j c n) (q : R i c n) : ∃ (i' j' c' : Int) (n : Nat), [V.int i, V.int j, V.int c] = [.int i', .int j', .int c'] ∧ RgC i' j' c' n ∧ R i' c' n := ⟨i, j, c, n, rfl, h, q⟩
theorem L_lc {wi : TI} {vs : List Nat} (h : wi σ H fun J H1 => ∀ D, H1 D = none → ∃ W : Nat → Nat → Hp → Prop, (∃ m, W 0 m (upd H1 D (.lst []))) ∧ ∀ i m H, W i m H →
  (J.stop i H ∧ Q (.ref D) H) ∨ (J.go i H ∧ ∃ Nx : Hp → Prop, (∀ H', Nx H' → ∃ m', m' < m ∧ W (i + 1) m' H') ∧ ∀ x H', J.yld i H x H' → g x (wipe σ vs) H' fun σ2 H2 => wipe σ2 vs = wipe σ vs ∧ tt σ2 H2 fun b H3 =>
    if b = true then te σ2 H3 fun y H4 => ∃ acc, H4 D = some (.lst acc) ∧ acc.length < sizeLine ∧ Nx (upd H4 D (.lst (acc ++ [y]))) else Nx H3)) : tLc wi g tt te vs σ H Q := h
theorem fm_succ (f : Nat → Option V) (i : Nat) : (List.range (i + 1)).filterMap f = (List.range i).filterMap f ++ (match f i with | some y => [y] | none => []) := by
  rw [List.range_succ, List.filterMap_append]
  cases h : f i <;> simp [h]
theorem fm_len (f : Nat → Option V) (i : Nat) : ((List.range i).filterMap f).length ≤ i := by
  have := List.length_filterMap_le f (List.range i)
  simpa using this
/-- a comprehension whose things are told one by one: f i is what turn i gives, none where its test is false -/
theorem lc_fm {J : It} {n : Nat} {G : Hp → Prop} {Y : Nat → Hp → V → Hp → Prop} (w : L2.Walk J n G Y) {vs : List Nat} {Qd : Addr → Hp → Prop} (f : Nat → Option V) (hn : n ≤ 1000000) (hG : ∀ H', Same H H' → G H')
    (hs : ∀ i x H2 H' (R : V → Hp → Prop) (R' : Hp → Prop), i < n → Same H H2 → Y i H2 x H' → (∀ y H4, f i = some y → Same H2 H4 → R y H4) → (∀ H3, f i = none → Same H2 H3 → R' H3) →
      g x (wipe σ vs) H' fun σ2 H2 => wipe σ2 vs = wipe σ vs ∧ tt σ2 H2 fun b H3 => if b = true then te σ2 H3 R else R' H3)
    (q : ∀ p H', H p = none → Same H H' → H' p = some (.lst ((List.range n).filterMap f)) → Qd p H') :
    ∀ D, H D = none → ∃ W : Nat → Nat → Hp → Prop, (∃ m, W 0 m (upd H D (.lst []))) ∧ ∀ i m H, W i m H →
      (J.stop i H ∧ Qd D H) ∨ (J.go i H ∧ ∃ Nx : Hp → Prop, (∀ H', Nx H' → ∃ m', m' < m ∧ W (i + 1) m' H') ∧ ∀ x H', J.yld i H x H' → g x (wipe σ vs) H' fun σ2 H2 => wipe σ2 vs = wipe σ vs ∧ tt σ2 H2 fun b H3 =>
        if b = true then te σ2 H3 fun y H4 => ∃ acc, H4 D = some (.lst acc) ∧ acc.length < sizeLine ∧ Nx (upd H4 D (.lst (acc ++ [y]))) else Nx H3) := by
  intro D hD
  refine lc_it w (fun i H2 => Same H H2 ∧ H2 D = some (.lst ((List.range i).filterMap f))) ⟨same_new hD, upd_same⟩ (fun i H2 _ p => hG H2 p.1) ?_ (fun H2 p => q D H2 hD p.1 p.2)
  intro i x H2 H' hi ⟨p1, p2⟩ y
  refine hs i x H2 H' _ _ hi p1 y (fun y H4 e s => ?_) (fun H3 e s => ?_)
  · refine ⟨_, s _ _ p2, sz_lt (by have := fm_len f i; omega), ?_, ?_⟩
    · intro b o hb
      rw [upd_ne (ne_of_none hb hD)]
      exact s _ _ (p1 _ _ hb)
    · rw [fm_succ, e]; exact upd_same
  · refine ⟨p1.trans s, ?_⟩
    rw [fm_succ, e, List.append_nil]
    exact s _ _ p2
theorem fm_map {α : Type} (f : Nat → α) (h : α → V) (n : Nat) : (List.range n).filterMap (fun i => some (h (f i))) = ((List.range n).map f).map h := by
  rw [List.map_map]
  induction n with
  | zero => rfl
  | succ n ih => rw [fm_succ (fun i => some (h (f i))), ih, List.range_succ, List.map_append]; rfl
theorem rgC_up {i j c : Int} (hc : 0 < c) (hc2 : c < 1000000) (hi : -1000000000 ≤ i ∧ i ≤ 1000000000) (hj : -1000000000 ≤ j ∧ j ≤ 1000000000) : RgC i j c (if i < j then ((j - i - 1) / c + 1).toNat else 0) := by
  have e : Builtin.Range.rangeSize i j c = ((if i < j then ((j - i - 1) / c + 1).toNat else 0 : Nat) : Int) := by
    unfold Builtin.Range.rangeSize
    rw [if_pos (by omega)]
    split
    · have : 0 ≤ (j - i - 1) / c := Int.ediv_nonneg (by omega) (by omega)
      omega
    · rfl
  refine ⟨by omega, by omega, ?_, e⟩
  unfold Builtin.Range.small
  rw [e]
  have hz : ((if i < j then ((j - i - 1) / c + 1).toNat else 0 : Nat) : Int) * c ≤ 4000000000 ∧ ((if i < j then ((j - i - 1) / c + 1).toNat else 0 : Nat) : Int) ≤ 4000000000 ∧ 0 ≤ ((if i < j then ((j - i - 1) / c + 1).toNat else 0 : Nat) : Int) := by
    split
    · have h0 : 0 ≤ (j - i - 1) / c := Int.ediv_nonneg (by omega) (by omega)
      have h1 : (j - i - 1) / c * c ≤ j - i - 1 := Int.ediv_mul_le _ (by omega)
      have h2 : (j - i - 1) / c ≤ j - i - 1 := Int.ediv_le_self _ (by omega)
      have h3 : (((j - i - 1) / c + 1).toNat : Int) = (j - i - 1) / c + 1 := by omega
      rw [h3, Int.add_mul]
      omega
    · simp
  generalize ((if i < j then ((j - i - 1) / c + 1).toNat else 0 : Nat) : Int) = n at *
  simp only [Builtin.Range.rangeFitsLong, Bool.and_eq_true, Bool.or_eq_true, decide_eq_true_eq, beq_iff_eq]
  refine ⟨by omega, .inr ?_⟩
  rw [if_pos (by omega), Bool.and_eq_true, decide_eq_true_eq, decide_eq_true_eq]
  omega
/-- what making an instance asks -/
def MakeP (C : Addr) (sp : Sp) (E : XK) (vs : List V) (H : Hp) (Q : VK) : Prop := ∀ x dx, H x = none → H dx = none → dx ≠ x → sp (.ref x :: vs) (upd (upd H dx (.own x)) x (.ins C dx [])) (fun v H2 => v = .non ∧ Q (.ref x) H2) E
theorem L_make {C : Addr} {sp : Sp} {E : XK} (h : tr σ H fun vs H1 => MakeP C sp E vs H1 Q) : tMake C sp [] E tr σ H Q := by
  unfold tMake
  simp only [List.append_nil]
  exact h
/-- a new instance: all that stood stands -/
def NewI (H : Hp) (C : Addr) (fs : List (Str × V)) (Q : VK) : Prop := ∀ p H' dx, H p = none → Same H H' → H' p = some (.ins C dx fs) → Q (.ref p) H'
theorem L_gTup {n : Nat} {t : TGs} {a : Addr} {xs : List V} {Q : L2.St → Hp → Prop} (h : SqT K H a xs) (hn : xs.length = n) (q : t xs σ H Q) : gTup K n t (.ref a) σ H Q := ⟨a, xs, rfl, h, hn, q⟩
theorem L_gLst {n : Nat} {t : TGs} {a : Addr} {xs : List V} {Q : L2.St → Hp → Prop} (h : SqL K H a xs) (hn : xs.length = n) (q : t xs σ H Q) : gLst K n t (.ref a) σ H Q := ⟨a, xs, rfl, h, hn, q⟩
theorem L_gCons {v : V} {r : List V} {t : TG} {u : TGs} {Q : L2.St → Hp → Prop} (q : t v σ H fun σ' H' => u r σ' H' Q) : gCons t u (v :: r) σ H Q := ⟨v, r, rfl, q⟩
theorem L_gNil {Q : L2.St → Hp → Prop} (q : Q σ H) : gNil [] σ H Q := ⟨rfl, q⟩
theorem L_sub {to ti : TE} {t : TSet} {v : V} {Q : L2.St → Hp → Prop} (h : to σ H fun o H1 => ti σ H1 fun i H2 => t o i v H2 fun H3 => Q σ H3) : gSub to ti t v σ H Q := h
theorem L_setL {p : Addr} {xs : List V} {k : Int} {j : Nat} {v : V} {Q : Hp → Prop} (h : H p = some (.lst xs)) (hj : ixN xs.length k = some j) (q : Q (upd H p (.lst (xs.set j v)))) : rSetL (.ref p) (.int k) v H Q := ⟨p, xs, k, j, rfl, rfl, h, hj, q⟩
theorem ixN_of {n : Nat} {k : Int} (h0 : 0 ≤ k) (h : k < n) : ixN n k = some k.toNat := by
  unfold ixN
  rw [if_pos h0, if_pos h]
theorem L_sFld {f : Str} {ta tv : TE} {N B C' : L2.St → Hp → Prop} {R : VK} (h : tv σ H fun y H1 => ta σ H1 fun x H2 => ∃ a C dx fs, x = .ref a ∧ H2 a = some (.ins C dx fs) ∧ Cls K C ∧ NoAttr K C f ∧ fs.length < 1000 ∧ N σ (upd H2 a (.ins C dx (putF f y fs)))) : sFld K ta tv f ⟨N, R, B, C'⟩ σ H := h
theorem L_sFldv {a C dx : Addr} {fs : List (Str × V)} {f : Str} {Q : Addr → Addr → Addr → List (Str × V) → Prop} (h : H a = some (.ins C dx fs)) (cl : Cls K C) (n : NoAttr K C f) (l : fs.length < 1000) (q : Q a C dx fs) :
    ∃ a' C dx fs, V.ref a = V.ref a' ∧ H a' = some (.ins C dx fs) ∧ Cls K C ∧ NoAttr K C f ∧ fs.length < 1000 ∧ Q a' C dx fs := ⟨a, C, dx, fs, rfl, h, cl, n, l, q⟩
theorem L_repL {a : Addr} {xs : List V} {k : Int} (h : H a = some (.lst xs)) (h1 : -(2 ^ 63) ≤ k) (h2 : k < 2 ^ 63) (h3 : xs.length * k.toNat ≤ sizeLine) (q : ∀ p, H p = none → Q (.ref p) (upd H p (.lst (List.replicate k.toNat xs).flatten))) : aMul (.ref a) (.int k) H Q := .inr ⟨a, k, xs, rfl, rfl, h, h1, h2, h3, q⟩
theorem atI_int {xs : List V} {k : Int} {v : V} (h0 : 0 ≤ k) (h : xs[k.toNat]? = some v) : atI xs k = some v := by
  obtain ⟨j, rfl⟩ : ∃ j : Nat, k = (j : Int) := ⟨k.toNat, by omega⟩
  exact atI_nat h
theorem atI_ints {xs : List Int} {k : Int} (h0 : 0 ≤ k) (h : k < xs.length) : atI (xs.map V.int) k = some (.int (xs.getD k.toNat 0)) := by
  refine atI_int h0 ?_
  have hl : k.toNat < xs.length := by omega
  rw [List.getElem?_map, List.getElem?_eq_getElem hl]
  simp [List.getD, List.getElem?_eq_getElem hl]
theorem L_nw {xs : List V} {R : Prop} (q : R) (hl : xs.length ≤ 1000000 := by simp) : xs.length ≤ sizeLine ∧ R := ⟨sz_dec hl, q⟩
end
theorem fm_succ' {α : Type} (f : Nat → Option α) (i : Nat) : (List.range (i + 1)).filterMap f = (List.range i).filterMap f ++ (match f i with | some y => [y] | none => []) := by
  rw [List.range_succ, List.filterMap_append]
  cases h : f i <;> simp [h]
theorem fm_len' {α : Type} (f : Nat → Option α) (i : Nat) : ((List.range i).filterMap f).length ≤ i := by
  have := List.length_filterMap_le f (List.range i)
  simpa using this
/-! ### data as trees -/
mutual
theorem Dp_same {K : PySem.W.Frag} {H H' : Hp} (e : Same H H') : ∀ (d : PyData) {v : V}, Dp K H v d → Dp K H' v d
  | .none, _, h => by cases h; exact .non
  | .bool b, _, h => by cases h; exact .bl b
  | .int i, _, h => by cases h; exact .int i
  | .str x, _, h => by cases h; exact .str x
  | .list ds, _, h => by cases h with | lst hs ha => exact .lst (e.seq hs) (DpAll_same e ds ha)
  | .tuple ds, _, h => by cases h with | tup hs ha => exact .tup (e.seqT hs) (DpAll_same e ds ha)
  | .dict _, _, h => by cases h
theorem DpAll_same {K : PySem.W.Frag} {H H' : Hp} (e : Same H H') : ∀ (ds : List PyData) {vs : List V}, DpAll K H vs ds → DpAll K H' vs ds
  | [], _, h => by cases h; exact .nil
  | d :: ds, _, h => by cases h with | cons h1 h2 => exact .cons (Dp_same e d h1) (DpAll_same e ds h2)
end
section
variable {K : PySem.W.Frag} {H H' : Hp} {v : V} {vs : List V} {d : PyData} {ds : List PyData}
theorem _root_.L2.Dp.same (h : Dp K H v d) (e : Same H H') : Dp K H' v d := Dp_same e d h
theorem _root_.L2.DpAll.same (h : DpAll K H vs ds) (e : Same H H') : DpAll K H' vs ds := DpAll_same e ds h
theorem _root_.L2.DpAll.len : ∀ {ds : List PyData} {vs : List V}, DpAll K H vs ds → vs.length = ds.length
  | [], _, h => by cases h; rfl
  | d :: ds, _, h => by cases h with | cons h1 h2 => rw [List.length_cons, List.length_cons, h2.len]
theorem _root_.L2.DpAll.at : ∀ {ds : List PyData} {vs : List V} {i : Nat}, DpAll K H vs ds → ds[i]? = some d → ∃ v, vs[i]? = some v ∧ Dp K H v d
  | [], _, i, h, e => by simp at e
  | c :: ds, _, 0, h, e => by
    cases h with
    | cons h1 h2 =>
      rename_i v vs
      have : c = d := by simpa using e
      subst this
      exact ⟨v, by simp, h1⟩
  | c :: ds, _, i + 1, h, e => by
    cases h with
    | cons h1 h2 =>
      obtain ⟨v, q1, q2⟩ := h2.at (i := i) (by simpa using e)
      exact ⟨v, by simpa using q1, q2⟩
theorem _root_.L2.DpAll.of : ∀ {ds : List PyData} {vs : List V} {i : Nat}, DpAll K H vs ds → vs[i]? = some v → ∃ d, ds[i]? = some d ∧ Dp K H v d
  | [], _, i, h, e => by cases h; simp at e
  | c :: ds, _, 0, h, e => by
    cases h with
    | cons h1 h2 =>
      rename_i w vs
      have : w = v := by simpa using e
      subst this
      exact ⟨c, by simp, h1⟩
  | c :: ds, _, i + 1, h, e => by
    cases h with
    | cons h1 h2 =>
      obtain ⟨d, q1, q2⟩ := h2.of (i := i) (by simpa using e)
      exact ⟨d, by simpa using q1, q2⟩
theorem _root_.L2.DpAll.app : ∀ {ds es : List PyData} {vs us : List V}, DpAll K H vs ds → DpAll K H us es → DpAll K H (vs ++ us) (ds ++ es)
  | [], _, _, _, h, g => by cases h; exact g
  | d :: ds, _, _, _, h, g => by cases h with | cons h1 h2 => exact .cons h1 (h2.app g)
theorem _root_.L2.DpAll.snoc (h : DpAll K H vs ds) (g : Dp K H v d) : DpAll K H (vs ++ [v]) (ds ++ [d]) := h.app (.cons g .nil)
theorem dp_ints : ∀ (ns : List Int), DpAll K H (ns.map V.int) (ns.map PyData.int)
  | [] => .nil
  | n :: ns => .cons (.int n) (dp_ints ns)
theorem dp_strs : ∀ (ns : List Str), DpAll K H (ns.map V.str) (ns.map PyData.str)
  | [] => .nil
  | n :: ns => .cons (.str n) (dp_strs ns)
theorem of_ints : ∀ {ns : List Int} {vs : List V}, DpAll K H vs (ns.map PyData.int) → vs = ns.map V.int
  | [], _, h => by cases h; rfl
  | n :: ns, _, h => by
    cases h with
    | cons h1 h2 => cases h1; rw [of_ints h2]; rfl
theorem of_strs : ∀ {ns : List Str} {vs : List V}, DpAll K H vs (ns.map PyData.str) → vs = ns.map V.str
  | [], _, h => by cases h; rfl
  | n :: ns, _, h => by
    cases h with
    | cons h1 h2 => cases h1; rw [of_strs h2]; rfl
theorem of_tup (h : Dp K H v (.tuple ds)) : ∃ a xs, v = .ref a ∧ SqT K H a xs ∧ DpAll K H xs ds := by
  cases h with | tup h1 h2 => exact ⟨_, _, rfl, h1, h2⟩
theorem of_lst (h : Dp K H v (.list ds)) : ∃ a xs, v = .ref a ∧ SqL K H a xs ∧ DpAll K H xs ds := by
  cases h with | lst h1 h2 => exact ⟨_, _, rfl, h1, h2⟩
theorem of_int {i : Int} (h : Dp K H v (.int i)) : v = .int i := by cases h; rfl
theorem of_str {i : Str} (h : Dp K H v (.str i)) : v = .str i := by cases h; rfl
theorem of_bl {i : Bool} (h : Dp K H v (.bool i)) : v = .bl i := by cases h; rfl
theorem of_non (h : Dp K H v .none) : v = .non := by cases h; rfl
theorem of_t2 {d e : PyData} (h : Dp K H v (.tuple [d, e])) : ∃ a x y, v = .ref a ∧ SqT K H a [x, y] ∧ Dp K H x d ∧ Dp K H y e := by
  obtain ⟨a, xs, rfl, h1, h2⟩ := of_tup h
  cases h2 with
  | cons p1 p2 => cases p2 with | cons p3 p4 => cases p4; exact ⟨a, _, _, rfl, h1, p1, p3⟩
theorem of_t3 {d e f : PyData} (h : Dp K H v (.tuple [d, e, f])) : ∃ a x y z, v = .ref a ∧ SqT K H a [x, y, z] ∧ Dp K H x d ∧ Dp K H y e ∧ Dp K H z f := by
  obtain ⟨a, xs, rfl, h1, h2⟩ := of_tup h
  cases h2 with
  | cons p1 p2 => cases p2 with | cons p3 p4 => cases p4 with | cons p5 p6 => cases p6; exact ⟨a, _, _, _, rfl, h1, p1, p3, p5⟩
theorem of_t4 {d e f g : PyData} (h : Dp K H v (.tuple [d, e, f, g])) : ∃ a x y z w, v = .ref a ∧ SqT K H a [x, y, z, w] ∧ Dp K H x d ∧ Dp K H y e ∧ Dp K H z f ∧ Dp K H w g := by
  obtain ⟨a, xs, rfl, h1, h2⟩ := of_tup h
  cases h2 with
  | cons p1 p2 => cases p2 with | cons p3 p4 => cases p4 with | cons p5 p6 => cases p6 with | cons p7 p8 => cases p8; exact ⟨a, _, _, _, _, rfl, h1, p1, p3, p5, p7⟩
end
/-- the part of a heap at which P holds -/
noncomputable def rs (P : Addr → Prop) (H : Hp) : Hp := fun a => @ite _ (P a) (Classical.propDecidable _) (H a) none
theorem rs_at {P : Addr → Prop} {H : Hp} {a : Addr} {o : HO} (p : P a) (h : H a = some o) : rs P H a = some o := by unfold rs; rw [if_pos p]; exact h
theorem rs_of {P : Addr → Prop} {H : Hp} {a : Addr} {o : HO} (h : rs P H a = some o) : P a ∧ H a = some o := by
  unfold rs at h
  split at h
  · rename_i p; exact ⟨p, h⟩
  · cases h
theorem rs_same {P P' : Addr → Prop} {H H' : Hp} (h : ∀ a o, P a → H a = some o → P' a ∧ H' a = some o) : Same (rs P H) (rs P' H') := fun a o e => by
  obtain ⟨p, q⟩ := rs_of e
  obtain ⟨p', q'⟩ := h a o p q
  exact rs_at p' q'
theorem rs_sub {P : Addr → Prop} {H : Hp} : Same (rs P H) H := fun a o e => (rs_of e).2
theorem rs_in {P : Addr → Prop} {H H' : Hp} (h : ∀ a o, P a → H a = some o → H' a = some o) : Same (rs P H) H' := fun a o e => h a o (rs_of e).1 (rs_of e).2
theorem rs_all {P : Addr → Prop} {H H' : Hp} (h : ∀ a o, H a = some o → P a ∧ H' a = some o) : Same H (rs P H') := fun a o e => rs_at (h a o e).1 (h a o e).2
/-- a list that changes: what stood ahead of it stands -/
theorem same_mut {H H' : Hp} {a : Addr} {o : HO} (e : Same H H') (h : H a = none) : Same H (upd H' a o) := fun b o' q => by
  rw [upd_ne (fun z => by rw [z, h] at q; cases q)]; exact e b o' q
section
variable {K : PySem.W.Frag} {σ : L2.St} {H : Hp} {g : TG} {tt : TT} {te : TE} {tb : TS} {D : Ends} {x y : V} {Q : VK}
theorem L_rlD {v : V} {ds : List PyData} {R : Addr → Prop} (h : Dp K H v (.list ds)) (q : ∀ a, v = .ref a → R a) : ∃ b, v = V.ref b ∧ (∃ xs, SqL K H b xs) ∧ R b := by
  obtain ⟨a, xs, rfl, h1, h2⟩ := of_lst h
  exact ⟨a, rfl, ⟨xs, h1⟩, q a rfl⟩
/-- for x in a list of data -/
theorem for_dp {a : Addr} {ds : List PyData} (h : Dp K H (.ref a) (.list ds)) (Pv : Nat → L2.St → Hp → Prop) (h0 : Pv 0 σ H) (hG : ∀ i σ' H', i ≤ ds.length → Pv i σ' H' → Same H H')
    (hs : ∀ i d x σ' H', i < ds.length → ds[i]? = some d → Pv i σ' H' → Dp K H' x d → g x σ' H' fun σ2 H2 => tb { D with nx := Pv (i + 1), ct := Pv (i + 1), bk := D.nx } σ2 H2) (hd : ∀ σ' H', Pv ds.length σ' H' → D.nx σ' H') :
    ∃ W : Nat → Nat → L2.St → Hp → Prop, (∃ m, W 0 m σ H) ∧ ∀ i m σ H, W i m σ H →
      ((Itl K a).stop i H ∧ D.nx σ H) ∨ ((Itl K a).go i H ∧ ∃ N : L2.St → Hp → Prop, (∀ σ' H', N σ' H' → ∃ m', m' < m ∧ W (i + 1) m' σ' H') ∧ ∀ x H', (Itl K a).yld i H x H' → g x σ H' fun σ2 H2 => tb { D with nx := N, ct := N, bk := D.nx } σ2 H2) := by
  obtain ⟨a', xs, ea, h1, h2⟩ := of_lst h
  cases ea
  have hl := h2.len
  refine for_it walk_list Pv h0 (fun i σ' H' hi p => (hG i σ' H' (by omega) p).seq h1) (fun i x σ' H' H'' hi p ⟨e1, e2⟩ => ?_) (fun σ' H' p => hd σ' H' (by rw [← hl]; exact p))
  subst e1
  obtain ⟨d, e3, e4⟩ := h2.of e2
  exact hs i d x σ' _ (by omega) e3 p (e4.same (hG i σ' _ (by omega) p))
/-- a comprehension: what turn i gives is told as data, or none; the new list's things stand apart from it -/
theorem lc_dp {J : It} {n : Nat} {G : Hp → Prop} {Y : Nat → Hp → V → Hp → Prop} (w : L2.Walk J n G Y) {vs : List Nat} {Qd : Addr → Hp → Prop} (f : Nat → Option PyData) (hn : n ≤ 1000000) (hG : ∀ H', Same H H' → G H')
    (hs : ∀ i x p H2 H' (R : V → Hp → Prop) (R' : Hp → Prop), i < n → H p = none → Same H H2 → (∃ o, H2 p = some o) → Y i H2 x H' → (∀ y d H4, f i = some d → Same H2 H4 → Dp K (rs (· ≠ p) H4) y d → R y H4) → (∀ H3, f i = none → Same H2 H3 → R' H3) →
      g x (wipe σ vs) H' fun σ2 H2 => wipe σ2 vs = wipe σ vs ∧ tt σ2 H2 fun b H3 => if b = true then te σ2 H3 R else R' H3)
    (q : ∀ p H' vs, H p = none → Same H H' → H' p = some (.lst vs) → DpAll K (rs (· ≠ p) H') vs ((List.range n).filterMap f) → Qd p H') :
    ∀ D, H D = none → ∃ W : Nat → Nat → Hp → Prop, (∃ m, W 0 m (upd H D (.lst []))) ∧ ∀ i m H, W i m H →
      (J.stop i H ∧ Qd D H) ∨ (J.go i H ∧ ∃ Nx : Hp → Prop, (∀ H', Nx H' → ∃ m', m' < m ∧ W (i + 1) m' H') ∧ ∀ x H', J.yld i H x H' → g x (wipe σ vs) H' fun σ2 H2 => wipe σ2 vs = wipe σ vs ∧ tt σ2 H2 fun b H3 =>
        if b = true then te σ2 H3 fun y H4 => ∃ acc, H4 D = some (.lst acc) ∧ acc.length < sizeLine ∧ Nx (upd H4 D (.lst (acc ++ [y]))) else Nx H3) := by
  intro D hD
  refine lc_it w (fun i H2 => Same H H2 ∧ ∃ us, H2 D = some (.lst us) ∧ DpAll K (rs (· ≠ D) H2) us ((List.range i).filterMap f)) ⟨same_new hD, [], upd_same, .nil⟩ (fun i H2 _ p => hG H2 p.1) ?_ (fun H2 ⟨p1, us, p2, p3⟩ => q D H2 us hD p1 p2 p3)
  rintro i x H2 H' hi ⟨p1, us, p2, p3⟩ y
  refine hs i x D H2 H' _ _ hi hD p1 ⟨_, p2⟩ y (fun y d H4 e s dy => ?_) (fun H3 e s => ?_)
  · have e4 : Same (rs (· ≠ D) H2) (rs (· ≠ D) H4) := rs_same fun a o h1 h2 => ⟨h1, s _ _ h2⟩
    have e5 : Same (rs (· ≠ D) H4) (rs (· ≠ D) (upd H4 D (.lst (us ++ [y])))) := rs_same fun a o h1 h2 => ⟨h1, by rw [upd_ne h1]; exact h2⟩
    refine ⟨us, s _ _ p2, sz_lt (by have := p3.len; have := fm_len' f i; omega), same_mut (p1.trans s) hD, _, upd_same, ?_⟩
    rw [fm_succ', e]
    exact ((p3.same e4).same e5).snoc (dy.same e5)
  · refine ⟨p1.trans s, us, s _ _ p2, ?_⟩
    rw [fm_succ', e, List.append_nil]
    exact p3.same (rs_same fun a o h1 h2 => ⟨h1, s _ _ h2⟩)
end
/-! ### defs that may raise -/
structure MetX (P : Program) (w : World) (K : PySem.W.Frag) (mg : Str → Option Value) (base : Heap) (k : Nat) (C : Addr) (m : Str) (sp : Sp) : Prop where
  ex : ∃ (f : Addr) (fd : FuncData) (ps : List Str), Cls K C ∧ Meth K C m f ∧ FnOk P w K mg base (L2.CX P w) k f fd ps sp ∧ Binds K fd ps []
structure MakX (P : Program) (w : World) (K : PySem.W.Frag) (mg : Str → Option Value) (base : Heap) (k : Nat) (x : Str) (C : Addr) (sp : Sp) : Prop where
  ex : ∃ (f : Addr) (fd : FuncData) (ps : List Str), Mk K C f ∧ FnOk P w K mg base (L2.CX P w) k f fd ps sp ∧ mg x = some (.ref C) ∧ Binds K fd ps []
section
variable {P : Program} {w : World} {K : PySem.W.Frag} {mg : Str → Option Value} {base : Heap}
theorem MethAt.metX {C : Addr} {m qual : Str} {st : Stmt} {N ps : List Str} {k : Nat} {sp : Sp} (c : Cls K C) (d : MethAt K C m qual st ps) (S : FnScope N ps (defScope st)) (len : ∀ vs H Q E, sp vs H Q E → vs.length = ps.length)
    (hbody : ∀ (f : Addr) (cdv : Value) (A : Around) (outer : List Env) (s : Shared) (H : Hp) (vs : List V) (Q : VK) (E : XK), Room k (A.deeper (envOfC qual (defScope st) s.heap.objs.size f cdv)) → sp vs H Q E →
      ∃ t, PSs (cxOf (L2.CX P w) P w K mg base N qual (defScope st) f cdv A outer s H E) (defBody st) t ∧ t { nx := fun _ H' => Q .non H', rt := Q } (start N vs) H) : MetX P w K mg base (k + 1) C m sp := by
  obtain ⟨f, fd, F, hm, b⟩ := d.ex
  exact ⟨f, fd, ps, c, hm, F.okX S len (hbody f), b⟩
theorem InitAt.makX {x : Str} {C : Addr} {qual : Str} {st : Stmt} {N ps : List Str} {k : Nat} {sp : Sp} (hx : mg x = some (.ref C)) (d : InitAt K C qual st ps) (S : FnScope N ps (defScope st)) (len : ∀ vs H Q E, sp vs H Q E → vs.length = ps.length)
    (hbody : ∀ (f : Addr) (cdv : Value) (A : Around) (outer : List Env) (s : Shared) (H : Hp) (vs : List V) (Q : VK) (E : XK), Room k (A.deeper (envOfC qual (defScope st) s.heap.objs.size f cdv)) → sp vs H Q E →
      ∃ t, PSs (cxOf (L2.CX P w) P w K mg base N qual (defScope st) f cdv A outer s H E) (defBody st) t ∧ t { nx := fun _ H' => Q .non H', rt := Q } (start N vs) H) : MakX P w K mg base (k + 1) x C sp := by
  obtain ⟨f, fd, F, hm, b⟩ := d.ex
  exact ⟨f, fd, ps, hm, F.okX S len (hbody f), hx, b⟩
end
/-- where no exception is wanted -/
theorem passN {X : Cx} (σ : L2.St) : PassesAt (L2.CX X.prog X.w) X σ ((fun _ => E0) σ) := fun pins H s e s' I c => passL pins σ H s e s' I c
/-- x.m(..), C(..), where what is raised is wished for at the caller's slots -/
def tMethE (C : Addr) (m : Str) (sp : Sp) (E : L2.St → XK) (ta : TE) (t : TA) : TE := fun σ H Q => ta σ H fun x H1 => ∃ a dx fs, x = .ref a ∧ H1 a = some (.ins C dx fs) ∧ fs.lookup m = none ∧ t σ H1 fun vs H2 => sp (x :: vs) H2 Q (E σ)
def tMakeE (C : Addr) (sp : Sp) (E : L2.St → XK) (t : TA) : TE := fun σ H Q => t σ H fun vs H1 => ∀ x dx, H1 x = none → H1 dx = none → dx ≠ x →
  sp (.ref x :: vs) (upd (upd H1 dx (.own x)) x (.ins C dx [])) (fun v H2 => v = .non ∧ Q (.ref x) H2) (E σ)
section
variable {X : Cx} {CX : CXT} {k j : Nat} {f C : Addr} {fd : FuncData} {ps : List Str} {x m : Str} {sp : Sp} {p pos apos : Pos} {e o : Expr} {es : List Expr} {ta : TE} {t : TA} {E : L2.St → XK}
theorem run_makeS {pins : List (Addr × Obj)} {σ : L2.St} {H : Hp} {s : Shared} {Q : VK} {us : List Value} {vs : List V} (M : Mk X.K C f) (F : FnOk X.prog X.w X.K X.mg X.base CX k f fd ps sp) (hr : Room (k + 1) X.A) (hb : Binds X.K fd ps [])
    (hx : PassesAt CX X σ (E σ)) (I : Inv X pins σ H s) (r : Vals vs us)
    (h : ∀ x dx, H x = none → H dx = none → dx ≠ x → sp (.ref x :: vs) (upd (upd H dx (.own x)) x (.ins C dx [])) (fun v H2 => v = .non ∧ Q (.ref x) H2) (E σ)) :
    wpAny (model X.prog X.w) X.A (call (.ref C) us) (EP X pins σ Q) X.xe s := by
  -- the new object's place, its dict's place
  obtain ⟨dn, hdn⟩ : ∃ dn, dn = s.heap.objs.size := ⟨_, rfl⟩
  have fresh1 : H dn = none := I.hok.fresh (Nat.le_of_eq hdn.symm)
  have fresh2 : H (dn + 1) = none := I.hok.fresh (Nat.le_succ_of_le (Nat.le_of_eq hdn.symm))
  have asked := h (dn + 1) dn fresh2 fresh1 (Nat.ne_of_lt (Nat.lt_succ_self _))
  have J := Inv.made (C := C) I
  rw [← hdn] at J
  have args : Vals (V.ref (dn + 1) :: vs) (Value.ref (dn + 1) :: us) := .cons rfl r
  have many : (Value.ref (dn + 1) :: us).length = ps.length := args.length.symm.trans (F.len _ _ _ _ asked)
  have bound := hb _ (Value.ref (dn + 1) :: us) J.kIn (by rw [List.append_nil]; exact many)
  rw [List.append_nil] at bound
  subst hdn
  refine wpAny_call (make_map (f := f) I.kIn M.makes M.init (beq_iff_eq.mp M.fn) ?_)
  refine codeAny_mono (F.run _ X.stack _ _ ⟨_, []⟩ _ _ _ (E σ) (hr.make C us []) (J.env0.make C us []) bound args asked) fun out s' ho => ?_
  match out, ho with
  | .error e, ho => exact hx pins _ _ e s' J ho
  | .ok (.ret u), ho =>
    obtain ⟨v, H', J', rel, hv, rest⟩ := J.after ho
    cases hv
    exact ⟨rel, .ref (s.heap.objs.size + 1), H', J', rfl, rest⟩
  | .ok .next, ho => exact ho.elim
  | .ok .brk, ho => exact ho.elim
  | .ok .cont, ho => exact ho.elim
theorem pe_xS (c : CalX X.prog X.w X.K X.mg X.base k x sp) (hr : Room j X.A) (hk : k ≤ j) (hg : Gl X x) (hx : ∀ σ, PassesAt (L2.CX X.prog X.w) X σ (E σ)) (ha : PA X (e :: es) t)
    (hdb : (x == ("__debug__" : Str)) = false := by decide) (he : starEach (e :: es) X.env = (false, eval e X.env) :: starEach es X.env := by rfl) (hpl : (backTo pos (starEach es X.env)).any (·.1) = false := by rfl) :
    PE X (.Call (.Name x p) (e :: es) [] pos) (tCallS sp E t) := by
  obtain ⟨f, fd, ps, F, hm, kp, b⟩ := c.ex
  exact pe_callS F (hr.mono hk) hg hm kp b hx ha hdb he hpl
theorem pe_xMk (c : MakX X.prog X.w X.K X.mg X.base k x C sp) (hr : Room j X.A) (hk : k + 1 ≤ j) (hg : Gl X x) (hx : ∀ σ, PassesAt (L2.CX X.prog X.w) X σ (E σ)) (ha : PA X (e :: es) t)
    (hdb : (x == ("__debug__" : Str)) = false := by decide) (he : starEach (e :: es) X.env = (false, eval e X.env) :: starEach es X.env := by rfl) (hpl : (backTo pos (starEach es X.env)).any (·.1) = false := by rfl) :
    PE X (.Call (.Name x p) (e :: es) [] pos) (tMakeE C sp E t) := by
  obtain ⟨f, fd, ps, M, F, hm, hb⟩ := c.ex
  refine ⟨fun pins s σ H Q I h => ?_⟩
  refine wpAny_Call_Name_kw (ld_glob I hg hm ?_ hdb)
  refine PySem.W.callWith_K (h₀ := X.base) I.ok.mod.kin M.kp (thn (ha.run pos pins s σ H _ I h) fun us s1 ⟨vs, H1, I1, r, q⟩ => ⟨I1.kIn, ?_⟩) he hpl
  exact run_makeS M F (hr.mono hk) hb (hx σ) I1 r q
theorem pe_xMt {pl : Sem Bool} (c : MetX X.prog X.w X.K X.mg X.base k C m sp) (hr : Room j X.A) (hk : k ≤ j) (hx : ∀ σ, PassesAt (L2.CX X.prog X.w) X σ (E σ)) (he : PE X o ta) (ha : PA X (e :: es) t)
    (hst : starEach (e :: es) X.env = (false, eval e X.env) :: starEach es X.env := by rfl) (hpl : (backTo pos (starEach es X.env)).any (·.1) = false := by rfl)
    (ht : eval (.Call (.Attribute o m apos) (e :: es) [] pos) X.env = (do
      let ov ← eval o X.env
      standAt apos.atName
      let (f, first) ← holding [ov] (getMethod ov m pl)
      callWith pos f first (backTo pos (starEach (e :: es) X.env)) (backToKw pos (keywordEach [] X.env))) := by rfl) :
    PE X (.Call (.Attribute o m apos) (e :: es) [] pos) (tMethE C m sp E ta t) := by
  obtain ⟨f, fd, ps, hc, hm, F, hb⟩ := c.ex
  refine ⟨fun pins s σ H Q I h => ?_⟩
  refine PySem.W.methodCall_KW (pl := pl) (thn (he.run pins s σ H _ I h) fun u s1 ⟨x, H1, I1, rx, a, dx, fs, ex, ea, l, q⟩ => ?_) ht
  subst ex
  obtain rfl : u = Value.ref a := rx
  refine getmeth_ok I1 ea hc hm l ?_
  refine PySem.W.callWith_K (first := [.ref a]) (h₀ := X.base) I.ok.mod.kin hm.kp (thn (ha.run pos pins s1 σ H1 _ I1 q) fun us s2 ⟨vs, H2, I2, r, q2⟩ => ⟨I2.kIn, ?_⟩) hst hpl
  exact run_fnS (us := .ref a :: us) (vs := .ref a :: vs) F (hr.mono hk) hb (hx σ) I2 (.cons rfl r) q2
theorem pe_xMt0 {pl : Sem Bool} (c : MetX X.prog X.w X.K X.mg X.base k C m sp) (hr : Room j X.A) (hk : k ≤ j) (hx : ∀ σ, PassesAt (L2.CX X.prog X.w) X σ (E σ)) (he : PE X o ta)
    (ht : eval (.Call (.Attribute o m apos) [] [] pos) X.env = (do
      let ov ← eval o X.env
      standAt apos.atName
      let (f, first) ← holding [ov] (getMethod ov m pl)
      callWith pos f first (backTo pos (starEach [] X.env)) (backToKw pos (keywordEach [] X.env))) := by rfl) :
    PE X (.Call (.Attribute o m apos) [] [] pos) (tMethE C m sp E ta tNil) := by
  obtain ⟨f, fd, ps, hc, hm, F, hb⟩ := c.ex
  refine ⟨fun pins s σ H Q I h => ?_⟩
  refine PySem.W.methodCall_KW (pl := pl) (thn (he.run pins s σ H _ I h) fun u s1 ⟨x, H1, I1, rx, a, dx, fs, ex, ea, l, q⟩ => ?_) ht
  subst ex
  obtain rfl : u = Value.ref a := rx
  refine getmeth_ok I1 ea hc hm l ?_
  exact PySem.W.callWith_K0 (first := [.ref a]) I1.kIn hm.kp (run_fnS (us := [.ref a]) (vs := [.ref a]) F (hr.mono hk) hb (hx σ) I1 (.cons rfl .nil) q)
end
/-- an own exception class that is raised; one that is caught -/
structure ExcAt (K : PySem.W.Frag) (C : Addr) : Prop where
  x : PySem.W.excIn K C [.type "ValueError", .type "Exception", .type "BaseException", .type "object"] "ValueError.__new__" = true
  k : PySem.W.keepIn K (.ref C) = true
  b : PySem.W.subIn K (.ref C) (.type "BaseException") = some true
  t : PySem.W.typeIn K (.ref C) = some (.type "type")
structure ExcK (K : PySem.W.Frag) (C : Addr) : Prop where
  b : PySem.W.subIn K (.ref C) (.type "BaseException") = some true
  i : PySem.W.isClsIn K C = true
  t : PySem.W.typeIn K (.ref C) = some (.type "type")
theorem ExcK.exm {K : PySem.W.Frag} {C D : Addr} {r : Bool} (c : ExcK K C) (h : PySem.W.subIn K (.ref D) (.ref C) = some r) : PySem.W.exmOne K (.ref D) (.ref C) = some r := by
  have e1 : (PySem.W.subIn K (.ref C) (.type "BaseException") == some true) = true := by rw [c.b] <;> rfl
  have e2 : ((PySem.W.clsIn K C).isSome && PySem.W.typeIn K (.ref C) == some (.type "type")) = true := by
    have h2' : (PySem.W.clsIn K C).isSome = true := c.i
    rw [h2', c.t] <;> rfl
  show (if (PySem.W.subIn K (.ref C) (.type "BaseException") == some true) = true then (if ((PySem.W.clsIn K C).isSome && PySem.W.typeIn K (.ref C) == some (.type "type")) = true then PySem.W.subIn K (.ref D) (.ref C) else none) else none) = some r
  rw [if_pos e1, if_pos e2]
  exact h
/-- C() -/
theorem pmk_own0 {X : Cx} {C : Addr} {x : Str} {p pos : Pos} (c : ExcAt X.K C) (gC : X.mg x = some (.ref C)) (hg : Gl X x) (hdb : (x == ("__debug__" : Str)) = false := by decide) :
    PMk X (.Call (.Name x p) [] [] pos) (fun _ H Q => Q (.ref C) none H) := by
  intro pins s σ H Q I h
  refine wpAny_Call_Name_kw (ld_glob I hg gC ?_ hdb)
  refine PySem.W.callWith_K0 I.kIn c.k ?_
  obtain ⟨bm, N, nm, qn, bs, hdct, sn, sub, ab, col, dd, k0, k1, k2, k3, k5, mN, hC, hN, hni, T⟩ := exc_obj I.kIn c.x
  refine wpAny_call_exc_subT PySem.F.excBase_ValueError T hC hN hni (fun h' e hm => ?_) (Nat.zero_le _)
  exact mk_of I hm (raises_own c.b c.t) h (I.hok.gone hm.new)
section
variable {K : PySem.W.Frag} {σ : L2.St} {H : Hp} {ta : TE} {tr : TA} {Q : VK} {E : L2.St → XK} {C : Addr} {m : Str} {sp : Sp}
theorem L_callS (h : tr σ H fun vs H1 => sp vs H1 Q (E σ)) : tCallS sp E tr σ H Q := h
theorem L_methE (h : ta σ H fun x H1 => ∃ a dx fs, x = .ref a ∧ H1 a = some (.ins C dx fs) ∧ fs.lookup m = none ∧ tr σ H1 fun vs H2 => sp (x :: vs) H2 Q (E σ)) : tMethE C m sp E ta tr σ H Q := h
theorem L_makeE (h : tr σ H fun vs H1 => MakeP C sp (E σ) vs H1 Q) : tMakeE C sp E tr σ H Q := h
theorem L_meth {E : XK} (h : ta σ H fun x H1 => ∃ a dx fs, x = .ref a ∧ H1 a = some (.ins C dx fs) ∧ fs.lookup m = none ∧ tr σ H1 fun vs H2 => sp (x :: vs) H2 Q E) : tMeth C m sp [] E ta tr σ H Q := by
  unfold tMeth
  simp only [List.append_nil]
  exact h
theorem L_methv {a dx : Addr} {fs : List (Str × V)} {R : Prop} (h : H a = some (.ins C dx fs)) (l : fs.lookup m = none) (q : R) : ∃ a' dx fs, V.ref a = V.ref a' ∧ H a' = some (.ins C dx fs) ∧ fs.lookup m = none ∧ R := ⟨a, dx, fs, rfl, h, l, q⟩
theorem L_only {c : Value} {ts : Addr → Value → Option Addr → TS} {Wout : WX} {D : Ends} {cls : Value} {d : Option Addr} (h : PySem.W.exmOne K cls c = some true) (q : ∀ a, H a = none → ts a cls d D σ H) : wOnly K c ts Wout D cls d σ H := ⟨true, h, fun _ => q, fun z => nomatch z⟩
end
/-- no whole number: another kind of thing, or a truth -/
def NotW (K : PySem.W.Frag) (H : Hp) (v : V) : Prop := (∃ b, v = .bl b) ∨ ∃ a, TyX K H v (.type a) ∧ kitB a "int" = some false
/-- what is_whole denies -/
def BadW (K : PySem.W.Frag) (H : Hp) (v : V) (lo hi : Int) : Prop := NotW K H v ∨ ∃ t, v = .int t ∧ ¬ (lo ≤ t ∧ t ≤ hi)
section
variable {K : PySem.W.Frag} {H : Hp}
theorem notw_non : NotW K H .non := .inr ⟨_, .base .non, by decide +kernel⟩
theorem notw_bl {b : Bool} : NotW K H (.bl b) := .inl ⟨b, rfl⟩
theorem notw_str {z : Str} : NotW K H (.str z) := .inr ⟨_, .base (.str z), by decide +kernel⟩
theorem notw_lst {a : Addr} {xs : List V} (h : H a = some (.lst xs)) : NotW K H (.ref a) := .inr ⟨_, .base (.lst h), by decide +kernel⟩
theorem notw_tup {a : Addr} {xs : List V} (h : H a = some (.tup xs)) : NotW K H (.ref a) := .inr ⟨_, .base (.tup h), by decide +kernel⟩
theorem notw_dK {a : Addr} {xs : List (Key × V)} (h : H a = some (.dK xs)) : NotW K H (.ref a) := .inr ⟨_, .base (.dK h), by decide +kernel⟩
theorem badw_int {t lo hi : Int} (h : ¬ (lo ≤ t ∧ t ≤ hi)) : BadW K H (.int t) lo hi := .inr ⟨t, rfl, h⟩
theorem NotW.bad {v : V} {lo hi : Int} (h : NotW K H v) : BadW K H v lo hi := .inl h
end
section
variable {K : PySem.W.Frag} {H H' : Hp}
theorem tyx_T {a : Addr} {xs : List V} (h : SqT K H a xs) : TyX K H (.ref a) (.type "tuple") := by
  rcases h with (h | ⟨o, h⟩) | ⟨o, _, _, h, c, _⟩
  · exact .base (.tup h)
  · exact .fTuple h
  · exact .kTuple h c
theorem tyx_L {a : Addr} {xs : List V} (h : SqL K H a xs) : TyX K H (.ref a) (.type "list") := by
  rcases h with (h | ⟨o, h⟩) | ⟨o, _, _, h, c, _⟩
  · exact .base (.lst h)
  · exact .base (.frz h)
  · exact .kList h c
variable {σ : L2.St} {Q : VK}
theorem L_sort2 {a : Addr} {x y : Int} (h : SqL K H a [V.int x, V.int y]) (q : ∀ p, H p = none → Q (.ref p) (upd H p (.lst [V.int (min x y), V.int (max x y)]))) : rSorted K [.ref a] H Q := by
  refine ⟨a, [x, y], rfl, h, by simp, fun ns p hp hs hn => ?_⟩
  have hl := hp.length_eq
  match ns, hl with
  | [u, v], _ =>
    have hle : u ≤ v := by simpa using hs
    have hm : (u = x ∧ v = y) ∨ (u = y ∧ v = x) := by
      have h1 : u ∈ [x, y] := hp.mem_iff.mp (by simp)
      have h2 : v ∈ [x, y] := hp.mem_iff.mp (by simp)
      have h3 : x ∈ [u, v] := hp.mem_iff.mpr (by simp)
      have h4 : y ∈ [u, v] := hp.mem_iff.mpr (by simp)
      simp only [List.mem_cons, List.not_mem_nil, or_false] at h1 h2 h3 h4
      rcases h1 with h1 | h1 <;> rcases h2 with h2 | h2 <;> rcases h3 with h3 | h3 <;> rcases h4 with h4 | h4 <;> omega
    have e : [u, v] = [min x y, max x y] := by
      rcases hm with ⟨rfl, rfl⟩ | ⟨rfl, rfl⟩
      · rw [Int.min_eq_left hle, Int.max_eq_right hle]
      · rw [Int.min_eq_right hle, Int.max_eq_left hle]
    rw [e]
    exact q p hn
theorem L_list1 {a : Addr} {xs : List V} (h : SqL K H a xs) (q : ∀ l, H l = none → Q (.ref l) (upd H l (.lst xs))) : aList1 K [.ref a] H Q := ⟨a, xs, rfl, .inl h, q⟩
theorem L_tuple1 {a : Addr} {xs : List V} (h : SqL K H a xs) (q : ∀ l, H l = none → Q (.ref l) (upd H l (.tup xs))) : aTuple1 K [.ref a] H Q := ⟨a, xs, rfl, .inl ⟨h, q⟩⟩
theorem eqv_same {d : PyData} (h : SeqAt.shaped d = true) : PyData.eqv d d = true := SeqAt.eqv_refl d (SeqAt.canLay_of_shaped h)
theorem L_eqR {x y : V} {d : PyData} (hx : Dp K H x d) (hy : Dp K H y d) (s : SeqAt.shaped d = true) (q : Q (.bl true) H) : aEq K x y H Q := L_eqD hx hy s s (by rw [eqv_same s]; exact q)
theorem L_neR {x y : V} {d : PyData} (hx : Dp K H x d) (hy : Dp K H y d) (s : SeqAt.shaped d = true) (q : Q (.bl false) H) : aNe K x y H Q := L_neD hx hy s s (by rw [eqv_same s]; exact q)
theorem L_zipA {a b : Addr} {xs ys : List V} {R : Addr → Addr → Prop} (h1 : SqL K H a xs) (h2 : SqL K H b ys) (q : R a b) : ∃ a' b' xs ys, [V.ref a, V.ref b] = [.ref a', .ref b'] ∧ SqL K H a' xs ∧ SqL K H b' ys ∧ R a' b' := ⟨a, b, xs, ys, rfl, h1, h2, q⟩
end
/-- data that == may be asked of, at most n deep -/
structure Shp (n : Nat) (d : PyData) : Prop where
  c : d.canLay0 = true
  d : d.depth ≤ n
theorem Shp.ok {n : Nat} {d : PyData} (h : Shp n d) (hn : n ≤ 64 := by decide) : SeqAt.shaped d = true := by
  unfold SeqAt.shaped
  rw [h.c, decide_eq_true (Nat.le_trans h.d hn)]; rfl
theorem shp_int {n : Nat} {i : Int} : Shp n (.int i) := ⟨by simp [PyData.canLay0], by simp [PyData.depth]⟩
theorem shp_bl {n : Nat} {i : Bool} : Shp n (.bool i) := ⟨by simp [PyData.canLay0], by simp [PyData.depth]⟩
theorem shp_non {n : Nat} : Shp n .none := ⟨by simp [PyData.canLay0], by simp [PyData.depth]⟩
theorem shp_str {n : Nat} {z : Str} (h : PyData.strOk z = true) : Shp n (.str z) := ⟨by simpa [PyData.canLay0] using h, by simp [PyData.depth]⟩
theorem shp_all {n : Nat} : ∀ {ds : List PyData}, (∀ d ∈ ds, Shp n d) → PyData.canLayAll0 ds = true ∧ PyData.depthAll ds ≤ n
  | [], _ => ⟨by simp [PyData.canLayAll0], by simp [PyData.depthAll]⟩
  | d :: ds, h => by
    have h1 := h d (List.mem_cons_self ..)
    have h2 := shp_all fun x hx => h x (List.mem_cons_of_mem _ hx)
    exact ⟨by simp [PyData.canLayAll0, h1.c, h2.1], by simp only [PyData.depthAll]; exact Nat.max_le.mpr ⟨h1.d, h2.2⟩⟩
theorem shp_lst {n : Nat} {ds : List PyData} (h : ∀ d ∈ ds, Shp n d) : Shp (n + 1) (.list ds) := ⟨by simp only [PyData.canLay0]; exact (shp_all h).1, by simp only [PyData.depth]; have := (shp_all h).2; omega⟩
theorem shp_tup {n : Nat} {ds : List PyData} (h : ∀ d ∈ ds, Shp n d) : Shp (n + 1) (.tuple ds) := ⟨by simp only [PyData.canLay0]; exact (shp_all h).1, by simp only [PyData.depth]; have := (shp_all h).2; omega⟩
theorem shp_nil {n : Nat} : ∀ d ∈ ([] : List PyData), Shp n d := fun _ h => nomatch h
theorem shp_cons {n : Nat} {d : PyData} {ds : List PyData} (h : Shp n d) (t : ∀ d ∈ ds, Shp n d) : ∀ x ∈ d :: ds, Shp n x := fun x hx => by
  rcases List.mem_cons.mp hx with rfl | hx
  · exact h
  · exact t x hx
theorem shp_map {n : Nat} {α : Type} {f : α → PyData} {l : List α} (h : ∀ a ∈ l, Shp n (f a)) : ∀ d ∈ l.map f, Shp n d := fun d hd => by
  obtain ⟨a, ha, rfl⟩ := List.mem_map.mp hd
  exact h a ha
theorem shp_ints {n : Nat} {l : List Int} : Shp (n + 1) (.list (l.map .int)) := shp_lst (shp_map fun _ _ => shp_int)
theorem _root_.L2.Dp.ints {K : PySem.W.Frag} {H : Hp} {a : Addr} {ns : List Int} (h : SqL K H a (ns.map V.int)) : Dp K H (.ref a) (.list (ns.map .int)) := .lst h (dp_ints ns)
section
variable {K : PySem.W.Frag} {H : Hp} {Q : VK}
theorem L_powE {i j n : Int} (h : CPow i j) (e : i ^ j.toNat = n) (q : Q (.int n) H) : rI CPow (fun i j => .int (i ^ j.toNat)) (.int i) (.int j) H Q := ⟨i, j, rfl, rfl, h, by subst e; exact q⟩
/-- one of some ints -/
theorem L_menu {ns : List Int} {p : Addr} {i : Int} (h : SqL K H p (ns.map V.int)) (h0 : 0 ≤ i) (h1 : i < ns.length) (q : ∀ v ∈ ns, Q (.int v) H) : rIx K (.ref p) (.int i) H Q := by
  have hl : i.toNat < ns.length := by omega
  refine L_ixL h (atI_ints h0 h1) (q _ ?_)
  rw [List.getD_eq_getElem?_getD, List.getElem?_eq_getElem hl]
  exact List.getElem_mem hl
/-- an item of a list of ints, some property of all its items kept -/
theorem L_ixP {ns : List Int} {p : Addr} {i : Int} {P : Int → Prop} (h : SqL K H p (ns.map V.int)) (hP : ∀ v ∈ ns, P v) (h0 : 0 ≤ i) (h1 : i < ns.length) (q : ∀ v, P v → Q (.int v) H) : rIx K (.ref p) (.int i) H Q :=
  L_menu h h0 h1 fun v hv => q v (hP v hv)
end
theorem cdiv_lit {i j : Int} (h : 0 < j ∧ j < 1000000000000) : CDivW i j := (bd_64 (by omega)).cdiv h.1
theorem cpow_lit {i j : Int} (h : 0 ≤ j ∧ j ≤ 1000 ∧ -1000000 < i ∧ i < 1000000) : CPow i j := by
  have e : (2 : Nat) ^ 64 = 18446744073709551616 := by decide
  exact ⟨h.1, by omega, by omega⟩
theorem same_newE {H Hn : Hp} {p : Addr} {o : HO} (e : upd H p o = Hn) (h : H p = none) : Same H Hn := e ▸ same_new h
theorem upd_at {H Hn : Hp} {p : Addr} {o : HO} (e : upd H p o = Hn) : Hn p = some o := e ▸ upd_same
section
variable {K : PySem.W.Frag} {H H' : Hp} {p q : Addr} {us xs : List V} {ds : List PyData} {d : PyData} {y : V} {o : HO}
/-- a list grows: its things stand apart from it -/
theorem dp_grow (hdp : DpAll K (rs (· ≠ p) H) us ds) (s : Same H H') (hy : Dp K (rs (· ≠ p) H') y d) : DpAll K (rs (· ≠ p) (upd H' p o)) (us ++ [y]) (ds ++ [d]) :=
  (hdp.same (rs_same fun a u na ha => ⟨na, by rw [upd_ne na]; exact s _ _ ha⟩)).snoc (hy.same (rs_same fun a u na ha => ⟨na, by rw [upd_ne na]; exact ha⟩))
theorem dp_tupN (h : H q = some (.tup xs)) (n : q ≠ p) (ha : DpAll K (rs (· ≠ p) H) xs ds) : Dp K (rs (· ≠ p) H) (.ref q) (.tuple ds) := .tup (.of (rs_at n h)) ha
theorem dp_lstN (h : H q = some (.lst xs)) (n : q ≠ p) (ha : DpAll K (rs (· ≠ p) H) xs ds) : Dp K (rs (· ≠ p) H) (.ref q) (.list ds) := .lst (.of (rs_at n h)) ha
/-- data that stood ahead of p -/
theorem dp_old {H0 : Hp} (h : Dp K H0 y d) (n : H0 p = none) (s : Same H0 H) : Dp K (rs (· ≠ p) H) y d := h.same (rs_all fun a u ha => ⟨fun z => (by rw [z, n] at ha; cases ha), s _ _ ha⟩)
theorem dpA_old {H0 : Hp} (h : DpAll K H0 us ds) (n : H0 p = none) (s : Same H0 H) : DpAll K (rs (· ≠ p) H) us ds := h.same (rs_all fun a u ha => ⟨fun z => (by rw [z, n] at ha; cases ha), s _ _ ha⟩)
theorem dp_whole (h : DpAll K (rs (· ≠ p) H) us ds) (e : H p = some (.lst us)) : Dp K H (.ref p) (.list ds) := .lst (.of e) (h.same rs_sub)
theorem ne_new (h : H p = none) (h' : ∃ o, H q = some o) : p ≠ q := fun z => by
  obtain ⟨o, e⟩ := h'
  rw [z, e] at h; cases h
end
theorem fm_get {α β : Type} (g : α → β) : ∀ (l : List α), (List.range l.length).filterMap (fun i => l[i]?.map g) = l.map g
  | [] => rfl
  | a :: l => by
    have ih := fm_get g l
    rw [List.length_cons, List.range_succ_eq_map]
    simp only [List.filterMap_cons, List.getElem?_cons_zero, Option.map_some, List.filterMap_map, Function.comp_def, List.getElem?_cons_succ, List.map_cons]
    rw [ih]
theorem sum_take {α : Type} {l : List α} {f : α → Int} {i : Nat} {x : α} (h : l[i]? = some x) : ((l.take (i + 1)).map f).sum = ((l.take i).map f).sum + f x := by
  rw [List.take_succ, h]
  simp
theorem sum_takeAll {α : Type} {l : List α} {f : α → Int} {n : Nat} (h : l.length ≤ n) : ((l.take n).map f).sum = (l.map f).sum := by rw [List.take_of_length_le h]
/-! ### loops, the ends told one by one -/
section
variable {K : PySem.W.Frag} {σ : L2.St} {H : Hp} {g : TG} {tb : TS} {N : L2.St → Hp → Prop} {R : VK}
/-- what a for asks behind its iterable -/
abbrev ForT (J : It) (σ : L2.St) (H : Hp) (g : TG) (tb : TS) (N : L2.St → Hp → Prop) (R : VK) : Prop :=
  ∃ W : Nat → Nat → L2.St → Hp → Prop, (∃ m, W 0 m σ H) ∧ ∀ i m σ H, W i m σ H →
      (J.stop i H ∧ N σ H) ∨ (J.go i H ∧ ∃ M : L2.St → Hp → Prop, (∀ σ' H', M σ' H' → ∃ m', m' < m ∧ W (i + 1) m' σ' H') ∧ ∀ x H', J.yld i H x H' → g x σ H' fun σ2 H2 => tb ⟨M, R, N, M⟩ σ2 H2)
theorem f_it {J : It} {n : Nat} {G : Hp → Prop} {Y : Nat → Hp → V → Hp → Prop} (w : L2.Walk J n G Y) (Pv : Nat → L2.St → Hp → Prop) (h0 : Pv 0 σ H) (hG : ∀ i σ H, i ≤ n → Pv i σ H → G H)
    (hs : ∀ i x σ H H', i < n → Pv i σ H → Y i H x H' → g x σ H' fun σ2 H2 => tb ⟨Pv (i + 1), R, N, Pv (i + 1)⟩ σ2 H2) (hd : ∀ σ H, Pv n σ H → N σ H) : ForT J σ H g tb N R :=
  for_it (D := ⟨N, R, N, N⟩) w Pv h0 hG hs hd
theorem f_range {lo : Int} {n : Nat} (Pv : Nat → L2.St → Hp → Prop) (h0 : Pv 0 σ H)
    (hs : ∀ i σ H, i < n → Pv i σ H → g (.int (lo + i)) σ H fun σ2 H2 => tb ⟨Pv (i + 1), R, N, Pv (i + 1)⟩ σ2 H2) (hd : ∀ σ H, Pv n σ H → N σ H) : ForT (Itr lo n) σ H g tb N R :=
  for_range (D := ⟨N, R, N, N⟩) Pv h0 hs hd
theorem f_rangeC {lo c : Int} {n : Nat} (Pv : Nat → L2.St → Hp → Prop) (h0 : Pv 0 σ H)
    (hs : ∀ i σ H, i < n → Pv i σ H → g (.int (lo + (i : Nat) * c)) σ H fun σ2 H2 => tb ⟨Pv (i + 1), R, N, Pv (i + 1)⟩ σ2 H2) (hd : ∀ σ H, Pv n σ H → N σ H) : ForT (Itc lo c n) σ H g tb N R :=
  for_rangeC (D := ⟨N, R, N, N⟩) Pv h0 hs hd
theorem f_dp {a : Addr} {ds : List PyData} (h : Dp K H (.ref a) (.list ds)) (Pv : Nat → L2.St → Hp → Prop) (h0 : Pv 0 σ H) (hG : ∀ i σ' H', i ≤ ds.length → Pv i σ' H' → Same H H')
    (hs : ∀ i d x σ' H', i < ds.length → ds[i]? = some d → Pv i σ' H' → Dp K H' x d → g x σ' H' fun σ2 H2 => tb ⟨Pv (i + 1), R, N, Pv (i + 1)⟩ σ2 H2) (hd : ∀ σ' H', Pv ds.length σ' H' → N σ' H') : ForT (Itl K a) σ H g tb N R :=
  for_dp (D := ⟨N, R, N, N⟩) h Pv h0 hG hs hd
end
section
variable {σ σ' : L2.St} {H : Hp} {i : Nat} {v x : V} {B C : L2.St → Hp → Prop} {N : L2.St → Hp → Prop} {R : VK} {te : TE}
theorem L_gnameE {Q : L2.St → Hp → Prop} (e : σ.set i (some v) = σ') (h : Q σ' H) : gName i v σ H Q := by subst e; exact h
end
section
variable {K : PySem.W.Frag} {H H' : Hp} {σ : L2.St} {Q : VK} {te : TE} {tl th : TO}
theorem TyX_same {v : V} {t : Value} (e : Same H H') (h : TyX K H v t) : TyX K H' v t := by
  cases h with
  | base h =>
    refine .base ?_
    cases h with
    | non => exact .non
    | bl x => exact .bl x
    | int x => exact .int x
    | str x => exact .str x
    | flt x => exact .flt x
    | lst h => exact .lst (e _ _ h)
    | frz h => exact .frz (e _ _ h)
    | tup h => exact .tup (e _ _ h)
    | dK h => exact .dK (e _ _ h)
    | dT h => exact .dT (e _ _ h)
    | ins h cl ha hn htk hm => exact .ins (e _ _ h) cl ha hn htk hm
  | byt b => exact .byt b
  | set h => exact .set (e _ _ h)
  | kList h c => exact .kList h c
  | kTuple h c => exact .kTuple h c
  | kDict h c => exact .kDict h c
  | fTuple h => exact .fTuple (e _ _ h)
  | fDict h => exact .fDict (e _ _ h)
theorem NotW.same {v : V} (h : NotW K H v) (e : Same H H') : NotW K H' v := by
  rcases h with h | ⟨a, h1, h2⟩
  · exact .inl h
  · exact .inr ⟨a, TyX_same e h1, h2⟩
theorem BadW.same {v : V} {lo hi : Int} (h : BadW K H v lo hi) (e : Same H H') : BadW K H' v lo hi := by
  rcases h with h | h
  · exact .inl (h.same e)
  · exact .inr h
theorem L_sl {r : V → Option Int → Option Int → Hp → VK → Prop} (h : te σ H fun x H1 => tl σ H1 fun l H2 => th σ H2 fun u H3 => r x l u H3 Q) : L2.tSl r te tl th σ H Q := h
theorem L_noPart {R : Option Int → Hp → Prop} (h : R none H) : tNoPart σ H R := h
theorem L_part {t : TE} {R : Option Int → Hp → Prop} (h : t σ H fun x H1 => ∃ i, x = .int i ∧ R (some i) H1) : tPart t σ H R := h
theorem L_ki {i : Int} {R : Int → Prop} (h : R i) : ∃ j, V.int i = V.int j ∧ R j := ⟨i, rfl, h⟩
theorem L_slL {a : Addr} {xs : List V} {lo hi : Option Int} (h : SqL K H a xs) (q : ∀ p, H p = none → Q (.ref p) (upd H p (.lst (cutV xs lo hi)))) : rSlL K (.ref a) lo hi H Q := ⟨a, xs, rfl, h, q⟩
end
def cutG {α : Type} (xs : List α) (lo hi : Option Int) : List α := (xs.drop (HT.sIx xs.length 0 lo)).take (HT.sIx xs.length xs.length hi - HT.sIx xs.length 0 lo)
theorem cutV_map {α : Type} (f : α → V) (xs : List α) (lo hi : Option Int) : cutV (xs.map f) lo hi = (cutG xs lo hi).map f := by
  unfold cutV cutG
  rw [List.length_map, List.map_take, List.map_drop]
theorem cutG_mem {α : Type} {xs : List α} {lo hi : Option Int} {x : α} (h : x ∈ cutG xs lo hi) : x ∈ xs := List.mem_of_mem_drop (List.mem_of_mem_take h)
theorem cutG_len {α : Type} (xs : List α) (lo hi : Option Int) : (cutG xs lo hi).length ≤ xs.length := by
  unfold cutG
  rw [List.length_take, List.length_drop]
  omega
section
variable {K : PySem.W.Frag} {H : Hp} {Q : VK}
/-- one of some things -/
theorem L_menuV {xs : List V} {p : Addr} {i : Int} (h : SqL K H p xs) (h0 : 0 ≤ i) (h1 : i < xs.length) (q : ∀ v ∈ xs, Q v H) : rIx K (.ref p) (.int i) H Q := by
  have hl : i.toNat < xs.length := by omega
  exact L_ixL h (atI_int h0 (List.getElem?_eq_getElem hl)) (q _ (List.getElem_mem hl))
end
theorem hpL {K : PySem.W.Frag} {H : Hp} {a : Addr} {xs : List V} (h : H a = some (.lst xs)) : SqL K H a xs := .of h
theorem hpT {K : PySem.W.Frag} {H : Hp} {a : Addr} {xs : List V} (h : H a = some (.tup xs)) : SqT K H a xs := .of h
theorem bd_mod {x n : Int} (h : 0 < n ∧ n < 18446744073709551616) : Bd 64 (x % n) := bd_64 (by
  have h1 := Int.emod_nonneg x (show n ≠ 0 by omega)
  have h2 := Int.emod_lt_of_pos x h.1
  omega)
theorem hp_from {H0 H : Hp} {p : Addr} {o : HO} (h : H0 p = some o) (e : Same H0 H) : H p = some o := e _ _ h
theorem same_via {H H1 H2 : Hp} (b : Same H1 H2) (a : Same H H1) : Same H H2 := a.trans b
theorem same_upd' {H H' : Hp} {a : Addr} {o : HO} (h : H' a = none) (e : Same H H') : Same H (upd H' a o) := same_upd e h
theorem same_mut' {H H' : Hp} {a : Addr} {o : HO} (h : H a = none) (e : Same H H') : Same H (upd H' a o) := same_mut e h
section
variable {K : PySem.W.Frag} {H : Hp} {σ : L2.St} {Q : VK}
theorem L_clear {a : Addr} {xs : List V} (h : H a = some (.lst xs)) (q : Q .non (upd H a (.lst []))) : rClear (.ref a) [] H Q := ⟨a, xs, rfl, rfl, h, q⟩
theorem L_dnew (h : ∀ p, H p = none → Q (.ref p) (upd H p (.dK []))) : tDNewK σ H Q := h
/-- no list -/
def NotL (K : PySem.W.Frag) (H : Hp) (v : V) : Prop := ∃ a, TyX K H v (.type a) ∧ kitB a "list" = some false
theorem notl_tup {a : Addr} {xs : List V} (h : SqT K H a xs) : NotL K H (.ref a) := ⟨_, tyx_T h, by decide +kernel⟩
theorem notl_non : NotL K H .non := ⟨_, .base .non, by decide +kernel⟩
theorem notl_int {i : Int} : NotL K H (.int i) := ⟨_, .base (.int i), by decide +kernel⟩
theorem notl_bl {i : Bool} : NotL K H (.bl i) := ⟨_, .base (.bl i), by decide +kernel⟩
theorem notl_str {i : Str} : NotL K H (.str i) := ⟨_, .base (.str i), by decide +kernel⟩
theorem notl_dK {a : Addr} {xs : List (Key × V)} (h : H a = some (.dK xs)) : NotL K H (.ref a) := ⟨_, .base (.dK h), by decide +kernel⟩
theorem NotL.same {H' : Hp} {v : V} (h : NotL K H v) (e : Same H H') : NotL K H' v := by
  obtain ⟨a, h1, h2⟩ := h
  exact ⟨a, TyX_same e h1, h2⟩
end
theorem rep1 (x : Int) : ∀ n : Nat, (List.replicate n [V.int x]).flatten = (List.replicate n x).map V.int
  | 0 => rfl
  | n + 1 => by rw [List.replicate_succ, List.flatten_cons, rep1 x n]; rfl
section
variable {K : PySem.W.Frag} {H : Hp} {Q : VK}
theorem L_neB {i j : Bool} (q : Q (.bl (!decide (i = j))) H) : aNe K (.bl i) (.bl j) H Q := .inl ⟨rfl, by rw [show decide (V.bl i = V.bl j) = decide (i = j) by simp]; exact q⟩
end
/-! ### for x in xs: check(x) -/
section
variable {K : PySem.W.Frag} {σ : L2.St} {H : Hp} {N : L2.St → Hp → Prop} {R : VK} {a : Addr} {xs : List V} {sp : Sp} {ES : L2.St → XK} {i : Nat} {c : Value}
theorem set_self (σ : L2.St) (i : Nat) (hi : i < σ.length) : ∃ v, σ = σ.set i v := ⟨σ[i], by simp⟩
theorem L_forChk (hL : SqL K H a xs) (hi : i < σ.length) (hok : ∀ x ∈ xs, ∀ Q E, Q .non H → sp [x] H Q E) (q : ∀ v, N (σ.set i v) H) : ForT (Itl K a) σ H (gName i) (tDrop (tCallS sp ES (tCons (tVar i) tNil))) N R := by
  refine f_it walk_list (fun _ σ' H' => H' = H ∧ ∃ v, σ' = σ.set i v) ⟨rfl, set_self σ i hi⟩ (fun _ _ _ _ p => p.1 ▸ hL) ?_ ?_
  · rintro j x σ' H' H'' hj ⟨rfl, v, rfl⟩ ⟨rfl, e⟩
    refine L_gname (L_drop (L_callS (L_cons (L_var (v := x) ?_ (L_nil (hok x (List.mem_of_getElem? e) _ _ ?_))))))
    · simp [hi]
    · exact ⟨rfl, some x, by rw [List.set_set]⟩
  · rintro σ' H' ⟨rfl, v, rfl⟩
    exact q v
theorem L_forChkX (hL : SqL K H a xs) (hi : i < σ.length) (hx : ∀ x ∈ xs, (∀ Q E, Q .non H → sp [x] H Q E) ∨ ∀ Q E, E c none H → sp [x] H Q E) (hb : ∃ x ∈ xs, ∀ Q E, E c none H → sp [x] H Q E) (q : ∀ v, ES (σ.set i v) c none H) :
    ForT (Itl K a) σ H (gName i) (tDrop (tCallS sp ES (tCons (tVar i) tNil))) N R := by
  obtain ⟨x0, hx0, hb0⟩ := hb
  obtain ⟨j0, hj0⟩ := List.mem_iff_getElem?.mp hx0
  refine f_it walk_list (fun j σ' H' => H' = H ∧ (∃ v, σ' = σ.set i v) ∧ ∃ k x, j ≤ k ∧ xs[k]? = some x ∧ ∀ Q E, E c none H → sp [x] H Q E) ⟨rfl, set_self σ i hi, j0, x0, Nat.zero_le _, hj0, hb0⟩ (fun _ _ _ _ p => p.1 ▸ hL) ?_ ?_
  · rintro j x σ' H' H'' hj ⟨rfl, ⟨v, rfl⟩, k, y, hk, hy, hby⟩ ⟨rfl, e⟩
    refine L_gname (L_drop (L_callS (L_cons (L_var (v := x) ?_ (L_nil ?_)))))
    · simp [hi]
    · by_cases hc : ∀ Q E, E c none H'' → sp [x] H'' Q E
      · exact hc _ _ (by rw [List.set_set]; exact q _)
      · refine (hx x (List.mem_of_getElem? e)).resolve_right hc _ _ ⟨rfl, ⟨some x, by rw [List.set_set]⟩, k, y, ?_, hy, hby⟩
        rcases Nat.lt_or_eq_of_le hk with hlt | rfl
        · exact hlt
        · rw [e] at hy
          cases hy
          exact absurd hby hc
  · rintro σ' H' ⟨rfl, ⟨v, rfl⟩, k, y, hk, hy, hby⟩
    have := (List.getElem?_eq_some_iff.mp hy).1
    omega
end
theorem L_bm0 {K : PySem.W.Frag} {σ : L2.St} {H : Hp} {Q : VK} {te : TE} {T : String} {r : V → List V → Hp → VK → Prop} (h : te σ H fun x H1 => tyV K T x H1 ∧ r x [] H1 Q) : tBM0 K T r te σ H Q := h
/-- what an expression's ways have in common -/
theorem L_via {P : VK → Prop} {Q : VK} (R : V → Hp → Prop) (key : ∀ Q : VK, (∀ v H', R v H' → Q v H') → P Q) (q : ∀ v H', R v H' → Q v H') : P Q := key Q q
section
variable {K : PySem.W.Frag} {H : Hp} {σ : L2.St} {Q : VK} {ta tb : TE}
theorem L_disp1 (h : ∀ p, H p = none → ta σ (upd H p (.dK [])) fun k H1 => tb σ H1 fun v H2 => H2 p = some (.dK []) ∧ ∃ kvs : List (Key × V), [(k, v)] = kvs.map (fun kv => (kV kv.1, kv.2)) ∧ kvs.length ≤ 15 ∧ Q (.ref p) (upd H2 p (.dK (mergeK [] kvs)))) : tDisp [(ta, tb)] σ H Q := h
theorem L_dispE1 {p : Addr} {k v : V} (kk : Key) (e : k = kV kk) (h : H p = some (.dK [])) (q : Q (.ref p) (upd H p (.dK [(kk, v)]))) : H p = some (.dK []) ∧ ∃ kvs : List (Key × V), [(k, v)] = kvs.map (fun kv => (kV kv.1, kv.2)) ∧ kvs.length ≤ 15 ∧ Q (.ref p) (upd H p (.dK (mergeK [] kvs))) :=
  ⟨h, [(kk, v)], by rw [e]; rfl, by simp, q⟩
/-- a sign of a text -/
theorem L_ixSany {z : Str} {i : Int} (hz : z.length ≤ 1000000) (h0 : 0 ≤ i) (h1 : i < z.length) (q : ∀ a ∈ z.cps.toList, Q (.str ⟨#[a]⟩) H) : rIx K (.str z) (.int i) H Q := by
  have hl : i.toNat < z.cps.toList.length := by
    have e : z.cps.toList.length = z.length := by rw [Array.length_toList]; rfl
    omega
  have h3 : z.cps.toList[i.toNat]? = some z.cps.toList[i.toNat] := List.getElem?_eq_getElem hl
  refine L_ixS (sz_dec hz) (a := z.cps.toList[i.toNat]) ?_ (q _ (List.getElem_mem hl))
  obtain ⟨j, rfl⟩ : ∃ j : Nat, i = (j : Int) := ⟨i.toNat, by omega⟩
  exact atI_nat h3
theorem L_inR {i lo hi : Int} {a : Addr} (h : H a = some (.rng lo hi)) (q : Q (.bl (decide (lo ≤ i ∧ i < hi))) H) : (∃ i' a' lo hi, V.int i = V.int i' ∧ V.ref a = V.ref a' ∧ H a' = some (.rng lo hi) ∧ Q (.bl (decide (lo ≤ i' ∧ i' < hi))) H) := ⟨i, a, lo, hi, rfl, rfl, h, q⟩
theorem L_rng2 {i j : Int} (q : ∀ p, H p = none → Q (.ref p) (upd H p (.rng i j))) : (∃ i' j', [V.int i, V.int j] = [V.int i', V.int j'] ∧ ∀ p, H p = none → Q (.ref p) (upd H p (.rng i' j'))) := ⟨i, j, rfl, q⟩
/-- no text -/
def NotS (K : PySem.W.Frag) (H : Hp) (v : V) : Prop := ∃ a, TyX K H v (.type a) ∧ kitB a "str" = some false
theorem nots_tup {a : Addr} {xs : List V} (h : SqT K H a xs) : NotS K H (.ref a) := ⟨_, tyx_T h, by decide +kernel⟩
theorem nots_lst {a : Addr} {xs : List V} (h : SqL K H a xs) : NotS K H (.ref a) := ⟨_, tyx_L h, by decide +kernel⟩
theorem nots_non : NotS K H .non := ⟨_, .base .non, by decide +kernel⟩
theorem nots_int {i : Int} : NotS K H (.int i) := ⟨_, .base (.int i), by decide +kernel⟩
theorem nots_bl {i : Bool} : NotS K H (.bl i) := ⟨_, .base (.bl i), by decide +kernel⟩
theorem nots_dK {a : Addr} {xs : List (Key × V)} (h : H a = some (.dK xs)) : NotS K H (.ref a) := ⟨_, .base (.dK h), by decide +kernel⟩
theorem NotS.same {H' : Hp} {v : V} (h : NotS K H v) (e : Same H H') : NotS K H' v := by
  obtain ⟨a, h1, h2⟩ := h
  exact ⟨a, TyX_same e h1, h2⟩
end
theorem len1 (a : Nat) : (⟨#[a]⟩ : Str).length = 1 := rfl
theorem str_len_append (a b : Str) : (a ++ b).length = a.length + b.length := Array.size_append
theorem str_len {z : Str} : z.cps.toList.length = z.length := by rw [Array.length_toList]; rfl
theorem one_lt {c d : Nat} : ([c] : List Nat) < [d] ↔ c < d := by
  rw [List.cons_lt_cons_iff]
  constructor
  · rintro (h | ⟨_, h⟩)
    · exact h
    · exact absurd h (List.not_lt_nil _)
  · exact .inl
theorem str_app_list (a b : Str) : (a ++ b).cps.toList = a.cps.toList ++ b.cps.toList := Array.toList_append
theorem eqv_nil {ds : List PyData} : PyData.eqv (.list ds) (.list []) = ds.isEmpty := by
  cases ds <;> simp [PyData.eqv, PyData.eqvAll]
theorem strOk_of {z : Str} (h : ∀ c ∈ z.cps.toList, c < 1114112) : PyData.strOk z = true := by
  show (z.cps.all (· < 0x110000)) = true
  rw [← Array.all_toList, List.all_eq_true]
  intro c hc
  exact decide_eq_true (h c hc)
theorem L_nnT {A B : Prop} (a : A) : if (!!true) = true then A else B := L_T a
theorem L_nnF {A B : Prop} (b : B) : if (!!false) = true then A else B := L_F b
theorem bd_128 {i : Int} (h : -340282366920938463463374607431768211456 < i ∧ i < 340282366920938463463374607431768211456) : Bd 128 i := by
  unfold Bd
  have : (2 : Nat) ^ 128 = 340282366920938463463374607431768211456 := by decide
  omega
/-! ### an exception that was caught, held by a name beyond the clause -/
/-- an exception of the class cls at a, its own dict d -/
def ExI (cls : Value) (d : Option Addr) (a : Addr) : HO := .ext fun h => ∃ (oe : Obj) (vs : Array Value), h.get? a = some oe ∧ Zc cls d oe ∧ oe.data = .fields vs
section
variable {X : Cx} {pins : List (Addr × Obj)} {σ : L2.St} {H : Hp} {s : Shared}
theorem track {a : Addr} {d : Option Addr} {cls : Value} {oe : Obj} {vs : Array Value} (I : Inv X pins σ H s) (na : H a = none) (he : s.heap.get? a = some oe) (z : Zc cls d oe) (hd : oe.data = .fields vs) (n0 : X.s_0.heap.get? a = none)
    (nL : a ≠ X.env.locals) (np : ∀ p ∈ X.pn ++ pins, p.1 ≠ a) : Inv X pins σ (upd H a (ExI cls d a)) s where
  ok := I.ok
  os := I.os
  bare := I.bare
  base := {
    keep := I.base.keep
    slot := I.base.slot
    free := fun b o e n hx => by
      rw [upd_ne (fun z => by rw [z, n0] at e; cases e)]
      exact I.base.free b o e n hx
    there := I.base.there
    tups := fun b xs q => by
      have t := I.base.tups b xs q
      rw [upd_ne (ne_of_none t na)]; exact t
    frzs := fun b o u q => by
      have t := I.base.frzs b o u q
      rw [upd_ne (ne_of_none t na)]; exact t
    tbls := fun b ps q => by
      obtain ⟨more, t⟩ := I.base.tbls b ps q
      exact ⟨more, by rw [upd_ne (ne_of_none t na)]; exact t⟩ }
  loc := I.loc
  cell := I.cell
  free := by rw [upd_ne nL.symm]; exact I.free
  freeC := fun x c e => by
    obtain ⟨v, o, ho, hc⟩ := I.cell x c e
    rw [upd_ne (fun z => by rw [z, he] at ho; cases ho; rw [hd] at hc; cases hc)]
    exact I.freeC x c e
  pin := fun p hp => by
    obtain ⟨h1, h2, h3⟩ := I.pin p hp
    exact ⟨h1, by rw [upd_ne (np p hp)]; exact h2, h3⟩
  hok := fun b o e => by
    by_cases hb : b = a
    · cases hb
      rw [upd_same] at e
      cases e
      exact ⟨⟨oe, vs, he, z, hd⟩, ⟨oe, he⟩, fun _ _ ⟨o1, v1, q, r⟩ k => ⟨o1, v1, k o1 q, r⟩⟩
    · rw [upd_ne hb] at e
      exact (I.hok b o e).stay (fun _ _ _ q => q) (fun c q => by rw [upd_ne (ne_of_none q na)]; exact q) fun c xs q => by rw [upd_ne (ne_of_none q na)]; exact q
  len := I.len
end
/-- what 'except x as n' wishes of an exception, which is tracked behind the suite -/
def wAsT (K : PySem.W.Frag) (c : Value) (i : Nat) (ts : Addr → Value → Option Addr → TS) (Wout : WX) (D : Ends) : WX := fun cls d σ H =>
  ∃ b, PySem.W.exmOne K cls c = some b ∧
    (b = true → ∀ a, H a = none → ts a cls d ⟨fun σ' H' => H' a = none → D.nx (σ'.set i none) (upd H' a (ExI cls d a)), D.rt, fun σ' H' => D.bk (σ'.set i none) H', fun σ' H' => D.ct (σ'.set i none) H'⟩ (σ.set i (some (.ref a))) H) ∧
    (b = false → Wout cls d σ H)
section
variable {X : Cx} {x n : Str} {c : Value} {i : Nat} {body suite : List Stmt} {b₀ : Stmt} {np pos pos' : Pos} {tb : WX → TS} {ts : Addr → Value → Option Addr → TS} {Wout : WX}
theorem ps_try_asT (hs : X.stack = X.env :: X.outer) (hf : X.env.frame = some X.env.locals) (hN : X.N.Nodup) (hi : X.N[i]? = some n) (hln : X.env.kindOf n = some .local) (hex : X.ex = []) (hc : Names X x c) (tk : Takes X Wout)
    (hb : ∀ (W : WX) (pn : List (Addr × Obj)) (xe : Value → Shared → Prop), Takes (X.tr pn xe) W → PassesOwn (model X.prog X.w) X.A X.env xe → PSs (X.tr pn xe) body (tb W))
    (hsu : ∀ (a : Addr) (oe : Obj) (cls : Value) (d : Option Addr) (pn : List (Addr × Obj)), Zc cls d oe → (∃ vs, oe.data = .fields vs) → PSs (X.suite a ((a, oe) :: pn)) (b₀ :: suite) (ts a cls d)) :
    PS X (.Try body [.ExceptHandler (some (.Name x np)) (some n) (b₀ :: suite) pos'] [] [] pos) (fun D σ H => tb (wAsT X.K c i ts Wout D) D σ H) := by
  constructor
  intro pins s0 σ0 H0 D I0 start
  have okX := I0.ok
  have frames : X.A.frames = some (X.env :: X.outer) := by
    rw [okX.frames, hs]
  apply wpAny_Try_except
  -- what is raised in the body is looked at by the clause
  let look : Value → Shared → Prop := fun e t1 => wpAny (model X.prog X.w) X.A (noteFrame e X.env) (fun _ t2 => wpAny (model X.prog X.w) X.A (setFlight e none)
    (fun _ t3 => wpAny (model X.prog X.w) X.A (handleBy e X.env [.ExceptHandler (some (.Name x np)) (some n) (b₀ :: suite) pos']) (SP X pins D) X.xe t3) X.xe t2) X.xe t1
  have caught : Takes (X.tr (X.pn ++ pins) look) (wAsT X.K c i ts Wout D) := by
    intro u s' air
    obtain ⟨a, B, sI, pins', σ', H', cls, d, rfl, K', nb, up, sky, na, os, ag, b, exm, yes, no⟩ := air
    have K0 : Inv X pins σ' H' sI := K'.ofTry okX
    have sky1 : Sky B (X.env :: X.outer) a (Zc cls d) X.env.locals s'.heap := hs ▸ sky
    show wpAny (model X.prog X.w) X.A (noteFrame (.ref a) X.env) _ _ _
    apply Sky.land Zc.steady frames hf sky1
    intro h3 fl3 up3
    have J3 : Inv X pins σ' H' { s' with heap := h3 } := K0.landed nb fl3.1 (up.trans up3) os ag
    obtain ⟨oe3, vs3, at3, z3, data3⟩ := fl3.there
    have offFrames : a ∉ frs (X.env :: X.outer) := fun hm => by
      obtain ⟨_, o', there', hnf⟩ := fl3.2.2.1.mem hm
      rw [at3] at there'
      cases there'
      exact hnf _ data3
    have nL : a ≠ X.env.locals := fun e => offFrames (List.mem_filterMap.mpr ⟨X.env, List.mem_cons_self, by rw [hf, e]⟩)
    have nF : a ∉ X.fs := fun hm => by
      obtain ⟨e, he, q⟩ := List.mem_filterMap.mp hm
      exact offFrames (List.mem_filterMap.mpr ⟨e, List.mem_cons_of_mem _ he, q⟩)
    -- a is new: it stood neither at the try's entry nor at the def's
    have newB : B.get? a = none := fl3.2.1
    have newI : sI.heap.get? a = none := by
      cases q : sI.heap.get? a with
      | none => rfl
      | some o =>
        have := nb a o q (by rw [hs]; exact offFrames)
        rw [newB] at this
        cases this
    have new0 : X.s_0.heap.get? a = none := by
      cases q : X.s_0.heap.get? a with
      | none => rfl
      | some o =>
        obtain ⟨o', q'⟩ := K0.base.there a o q (by rw [hex]; exact List.not_mem_nil)
        rw [newI] at q'
        cases q'
    have apart : ∀ p ∈ X.pn ++ pins, p.1 ≠ a := fun p hp e => by
      have := (K0.pin p hp).1
      rw [e, newI] at this
      cases this
    have S3 := J3.suite at3 data3 na nL nF
    apply wpAny_handleBy_cons _ (by intro q; cases q)
    apply codeAny_handlers_test
    have tyA : PySem.W.Looks (model X.prog X.w) h3 (typeOf (.ref a)) cls := fun A Q E t k q => wpAny_typeOf_ref (k _ _ at3) (by rw [z3.1]; exact q)
    have matched := PySem.W.exm_one (M := model X.prog X.w) (J3.kIn) tyA exm
    have named : ∀ {Q : Value → Shared → Prop} {E : Value → Shared → Prop}, Q c { s' with heap := h3 } → wpAny (model X.prog X.w) (X.A.mark (some (.ref a))) (eval (.Name x np) X.env) Q E { s' with heap := h3 } := by
      intro Q E q
      obtain ⟨hg, hdbg, hm⟩ := hc
      rcases hm with hm | ⟨hm, hv, hnn⟩
      · exact ld_glob (X := X.suite a ((a, oe3) :: (X.pn ++ pins))) S3 hg hm q hdbg
      · exact ld_blt (X := X.suite a ((a, oe3) :: (X.pn ++ pins))) S3 hg hm hv q hnn hdbg
    apply named
    apply matched.here
    cases b with
    | true =>
      apply codeAny_handlers_suite_as
      apply HandSPX.lands_againZ fl3
      intro h4 fl4 up4
      have J4 : Inv X pins σ' H' { s' with heap := h4 } := K0.landed nb fl4.1 ((up.trans up3).trans up4) os ag
      obtain ⟨oe4, vs4, at4, z4, data4⟩ := fl4.there
      have S4 := J4.suite at4 data4 na nL nF
      refine store_ok (X := X.suite a ((a, oe4) :: (X.pn ++ pins))) (v := .ref a) S4 hN hi (.inl hln) rfl (fun s5 S5 => ?_) (.inr hln)
      refine wpAny_mono ((hsu a oe4 cls d (X.pn ++ pins) z4 ⟨_, data4⟩).run [] s5 _ H' _ S5 (yes rfl a na)) (fun f s6 hsp => ?_) (fun _ _ z => z.elim)
      -- out of the suite, the exception still pinned
      have out : ∀ {σ6 : L2.St} {H6 : Hp} {Q : Shared → Prop}, Inv (X.suite a ((a, oe4) :: (X.pn ++ pins))) [] σ6 H6 s6 → (∀ s7, Inv X pins (σ6.set i none) H6 s7 → H6 a = none → s7.heap.get? a = some oe4 → Q s7) →
          wpAny (model X.prog X.w) X.A (do bindName X.env n .none; unbindBehindTheSuite X.env n pos') (fun _ s7 => Q s7) X.xe s6 := fun {σ6 H6 Q} S6 hq => by
        have P6 : Inv X ((a, oe4) :: pins) σ6 H6 s6 := { S6.unsuite okX with
          pin := fun p hp => S6.pin p (by
            rcases List.mem_append.mp hp with hp | hp
            · exact List.mem_append_left _ (List.mem_cons_of_mem _ (List.mem_append_left _ hp))
            · rcases List.mem_cons.mp hp with e | hp
              · rw [e]; exact List.mem_append_left _ List.mem_cons_self
              · exact List.mem_append_left _ (List.mem_cons_of_mem _ (List.mem_append_right _ hp))) }
        refine gone_ok P6 hN hi hln fun s7 P7 => ?_
        have pinned := P7.pin (a, oe4) (List.mem_append_right _ List.mem_cons_self)
        refine hq s7 { P7 with pin := fun p hp => P7.pin p ?_ } pinned.2.1 pinned.1
        rcases List.mem_append.mp hp with hp | hp
        · exact List.mem_append_left _ hp
        · exact List.mem_append_right _ (List.mem_cons_of_mem _ hp)
      match f, hsp with
      | .next, ⟨σ6, H6, S6, q6⟩ => exact out S6 fun s7 J7 n6 a6 => ⟨_, _, track J7 n6 a6 z4 data4 new0 nL apart, q6 n6⟩
      | .brk, ⟨σ6, H6, S6, q6⟩ => exact out S6 fun s7 J7 _ _ => ⟨_, _, J7, q6⟩
      | .cont, ⟨σ6, H6, S6, q6⟩ => exact out S6 fun s7 J7 _ _ => ⟨_, _, J7, q6⟩
      | .ret u, ⟨v6, σ6, H6, S6, r6, q6⟩ => exact out S6 fun s7 J7 _ _ => ⟨_, _, _, J7, r6, q6⟩
    | false =>
      show wpAny _ X.A (handleBy (.ref a) X.env []) _ _ _
      apply wpAny_handleBy_nil
      obtain ⟨_, _, _, oe, vs, T, oT, ts', he, hz, hd, h1, hr⟩ := id fl3
      unfold PySem.passOn
      refine wpAny_bind (wpAny_field he hd h1 ?_)
      rw [if_neg (show ¬ ((Value.ref T == Value.none) = true) from by simp)]
      have on : wpAny (model X.prog X.w) X.A (setFlight (.ref a) X.env.frame) (fun _ s4 => wpAny (model X.prog X.w) X.A (throw (.ref a) : Sem Flow) (SP X pins D) X.xe s4) X.xe { s' with heap := h3 } := by
        rw [hf]
        apply HandSPX.setFlight_upZ fl3
        intro h4 held4 up4
        apply wpAny_throw
        apply tk
        exact ⟨a, B, sI, pins, σ', H', cls, d, rfl, K0, nb, (up.trans up3).trans up4, .inr (.inr (by rw [hs]; exact held4)), na, os, ag, no rfl⟩
      first
        | exact wpAny_bind (wpAny_pure (wpAny_bind on))
        | exact wpAny_bind on
  refine wpAny_mono ((hb (wAsT X.K c i ts Wout D) (X.pn ++ pins) look caught PassesOwn.looking).run [] s0 σ0 H0 D (I0.toTry _) start) (fun f s1 hsp => ?_) (fun e s1 he => he)
  match f, hsp with
  | .next, ⟨σ1, H1, J1, q⟩ => exact wpAny_execs_nil ⟨σ1, H1, J1.ofTry okX, q⟩
  | .brk, ⟨σ1, H1, J1, q⟩ => exact ⟨σ1, H1, J1.ofTry okX, q⟩
  | .cont, ⟨σ1, H1, J1, q⟩ => exact ⟨σ1, H1, J1.ofTry okX, q⟩
  | .ret u, ⟨v, σ1, H1, J1, r, q⟩ => exact ⟨v, σ1, H1, J1.ofTry okX, r, q⟩
end
/-- isinstance of a caught exception that a name holds -/
def rIsX (K : PySem.W.Frag) : List V → Hp → VK → Prop := fun xs H Q => ∃ (a D : Addr) (c : V) (u : Value) (b : Bool), xs = [.ref a, c] ∧ H a = some (ExI (.ref D) none a) ∧ L2.ExcC K D ∧ ClsV c u ∧ PySem.W.kitOne K (.ref D) u = some b ∧ Q (.bl b) H
def rIsXT (K : PySem.W.Frag) : List V → Hp → VK → Prop := fun xs H Q => ∃ (a D tp : Addr) (cs : List V) (us : List Value) (b : Bool), xs = [.ref a, .ref tp] ∧ H a = some (ExI (.ref D) none a) ∧ L2.ExcC K D ∧ H tp = some (.tup cs) ∧ Paired ClsV cs us ∧ PySem.W.kitAny K (.ref D) us = some b ∧ Q (.bl b) H
section
variable {X : Cx} {pins : List (Addr × Obj)} {σ : L2.St} {H : Hp} {s : Shared}
theorem exI_at {a D : Addr} (I : Inv X pins σ H s) (h : H a = some (ExI (.ref D) none a)) : ∃ oe, PySem.W.InstAt s.heap a oe D none := by
  obtain ⟨⟨oe, vs, q1, ⟨q2, q3⟩, q4⟩, _⟩ := I.hok a _ h
  obtain ⟨oc, od, oda, osl⟩ := oe
  dsimp only at q2 q3 q4
  subst q2 q3 q4
  exact ⟨_, q1, rfl, rfl, trivial⟩
theorem call_isX : CallR X (.builtin "isinstance") (rIsX X.K) := by
  intro pins s σ H xs us Q I r h
  obtain ⟨a, D, c, u, b, rfl, hx, C, k, e, q⟩ := h
  obtain ⟨u1, u2, rfl, r1, r2⟩ := vals2 r
  cases r1
  cases k.eq r2
  obtain ⟨oe, J⟩ := exI_at I hx
  exact PySem.W.kia_one (PySem.W.handS_kitx_exc C.hg C.hk C.hs C.hd C.ha C.hn C.ht C.hm) I.kIn J e (fun z => nomatch z) fun tk => ⟨.bl b, H, I.tok tk, rfl, q⟩
theorem call_isXT : CallR X (.builtin "isinstance") (rIsXT X.K) := by
  intro pins s σ H xs us Q I r h
  obtain ⟨a, D, tp, cs, ws, b, rfl, hx, C, hT, k, e, q⟩ := h
  obtain ⟨u1, u2, rfl, r1, r2⟩ := vals2 r
  cases r1
  cases (show u2 = Value.ref tp from r2)
  obtain ⟨oe, J⟩ := exI_at I hx
  obtain ⟨_, its, rv, o, h1, h2, n, h3⟩ := (show ObjOk X.prog X.w H s.heap tp (.tup cs) from I.hok tp _ hT)
  have e3 := ClsV.all k rv
  subst e3
  obtain ⟨oc, od, dt, sl⟩ := o
  simp only at h2 h3
  subst h2 h3
  exact PySem.W.kia_tup (PySem.W.handS_kitx_exc C.hg C.hk C.hs C.hd C.ha C.hn C.ht C.hm) I.kIn J h1 e (fun z => nomatch z) fun tk => ⟨.bl b, H, I.tok tk, rfl, q⟩
end
section
variable {K : PySem.W.Frag} {H : Hp} {Q : VK} {C D : Addr} {b : Bool}
theorem kit_ref (hD : PySem.W.subIn K (.ref D) (.ref D) = some true) (k : ExcK K C) (h : PySem.W.subIn K (.ref D) (.ref C) = some b) : PySem.W.kitOne K (.ref D) (.ref C) = some b := by
  unfold PySem.W.kitOne
  by_cases e : D = C
  · subst e
    rw [hD] at h
    cases h
    rw [if_pos (by simp)]
  · rw [if_neg (by simpa using e)]
    have h2 : (PySem.W.clsIn K C).isSome = true := k.i
    show (if ((PySem.W.clsIn K C).isSome && PySem.W.typeIn K (.ref C) == some (.type "type")) = true then PySem.W.subIn K (.ref D) (.ref C) else none) = some b
    rw [if_pos (by rw [h2, k.t]; rfl)]
    exact h
theorem kit_typ {T : String} (hm : PySem.W.kitMeta T = true) (h : PySem.W.subIn K (.ref D) (.type T) = some b) : PySem.W.kitOne K (.ref D) (.type T) = some b := by
  unfold PySem.W.kitOne
  rw [if_neg (by simp)]
  show (if PySem.W.kitMeta T = true then PySem.W.subIn K (.ref D) (.type T) else none) = some b
  rw [if_pos hm]
  exact h
theorem L_isX {a : Addr} {c : V} {u : Value} (h : H a = some (ExI (.ref D) none a)) (C : L2.ExcC K D) (k : ClsV c u) (e : PySem.W.kitOne K (.ref D) u = some b) (q : Q (.bl b) H) : rIsX K [.ref a, c] H Q := ⟨a, D, c, u, b, rfl, h, C, k, e, q⟩
theorem L_isXT {a tp : Addr} {cs : List V} {us : List Value} (h : H a = some (ExI (.ref D) none a)) (C : L2.ExcC K D) (hT : H tp = some (.tup cs)) (k : Paired ClsV cs us) (e : PySem.W.kitAny K (.ref D) us = some b) (q : Q (.bl b) H) : rIsXT K [.ref a, .ref tp] H Q := ⟨a, D, tp, cs, us, b, rfl, h, C, hT, k, e, q⟩
theorem kit_none : ∀ {us : List Value}, (∀ u ∈ us, PySem.W.kitOne K (.ref D) u = some false) → PySem.W.kitAny K (.ref D) us = some false
  | [], _ => rfl
  | u :: us, h => by
    unfold PySem.W.kitAny
    rw [h u (List.mem_cons_self ..)]
    exact kit_none fun x hx => h x (List.mem_cons_of_mem _ hx)
theorem L_asT {c : Value} {i : Nat} {ts : Addr → Value → Option Addr → TS} {Wout : WX} {D : Ends} {σ : L2.St} {cls : Value} {d : Option Addr} (h : PySem.W.exmOne K cls c = some true)
    (q : ∀ a, H a = none → ts a cls d ⟨fun σ' H' => H' a = none → D.nx (σ'.set i none) (upd H' a (ExI cls d a)), D.rt, fun σ' H' => D.bk (σ'.set i none) H', fun σ' H' => D.ct (σ'.set i none) H'⟩ (σ.set i (some (.ref a))) H) : wAsT K c i ts Wout D cls d σ H :=
  ⟨true, h, fun _ => q, fun z => nomatch z⟩
end
/-! ### lists of numbers, and what is none -/
def BadNs (K : PySem.W.Frag) (H : Hp) (v : V) (lo hi : Int) : Prop := NotL K H v ∨ ∃ a xs, v = .ref a ∧ SqL K H a xs ∧ (24 < xs.length ∨ ((∀ x ∈ xs, (∃ t, x = .int t ∧ lo ≤ t ∧ t ≤ hi) ∨ BadW K H x lo hi) ∧ ∃ x ∈ xs, BadW K H x lo hi))
def GoodNs (K : PySem.W.Frag) (H : Hp) (v : V) (ts : List Int) (lo hi : Int) : Prop := ∃ a, v = .ref a ∧ SqL K H a (ts.map V.int) ∧ ts.length ≤ 24 ∧ ∀ t ∈ ts, lo ≤ t ∧ t ≤ hi
section
variable {K : PySem.W.Frag} {H H' : Hp} {v : V} {lo hi : Int} {ts : List Int}
theorem BadNs.same (h : BadNs K H v lo hi) (e : Same H H') : BadNs K H' v lo hi := by
  rcases h with h | ⟨a, xs, h1, h2, h3⟩
  · exact .inl (h.same e)
  · refine .inr ⟨a, xs, h1, e.seq h2, ?_⟩
    rcases h3 with h3 | ⟨h3, x, h4, h5⟩
    · exact .inl h3
    · exact .inr ⟨fun x hx => (h3 x hx).imp id fun b => b.same e, x, h4, h5.same e⟩
theorem GoodNs.same (h : GoodNs K H v ts lo hi) (e : Same H H') : GoodNs K H' v ts lo hi := by
  obtain ⟨a, h1, h2, h3, h4⟩ := h
  exact ⟨a, h1, e.seq h2, h3, h4⟩
theorem bad_one {a : Addr} {x : V} (h : H a = some (.lst [x])) (b : BadW K H x lo hi) : BadNs K H (.ref a) lo hi := .inr ⟨a, _, rfl, .of h, .inr ⟨fun y hy => by rw [List.mem_singleton.mp hy]; exact .inr b, x, List.mem_singleton.mpr rfl, b⟩⟩
theorem good_ns {a : Addr} (h : H a = some (.lst (ts.map V.int))) (hl : ts.length ≤ 24) (hb : ∀ t ∈ ts, lo ≤ t ∧ t ≤ hi) : GoodNs K H (.ref a) ts lo hi := ⟨a, rfl, .of h, hl, hb⟩
theorem int_of_mem {x : V} (h : x ∈ ts.map V.int) : ∃ t ∈ ts, x = .int t := by
  obtain ⟨t, h1, h2⟩ := List.mem_map.mp h
  exact ⟨t, h1, h2.symm⟩
theorem getD_of {i : Nat} {t : Int} (h : ts[i]? = some t) : ts.getD i 0 = t := by rw [List.getD_eq_getElem?_getD, h]; rfl
theorem fm_int {f : Nat → Option Int} {n : Nat} : (List.range n).filterMap (fun i => (f i).map V.int) = ((List.range n).filterMap f).map V.int := by
  rw [List.map_filterMap]
end
/-- pairs of ints as data -/
def d2 (r : Int × Int) : PyData := .tuple [.int r.1, .int r.2]
section
variable {K : PySem.W.Frag} {H : Hp} {v : V} {us : List V} {rows : List (Int × Int)}
theorem of_d2 {r : Int × Int} (h : Dp K H v (d2 r)) : ∃ a, v = .ref a ∧ SqT K H a [.int r.1, .int r.2] := by
  obtain ⟨a, x, y, rfl, h1, h2, h3⟩ := of_t2 h
  rw [of_int h2, of_int h3] at h1
  exact ⟨a, rfl, h1⟩
theorem hit2 (hA : DpAll K H us (rows.map d2)) {i : Nat} {x : V} (hx : us[i]? = some x) : ∃ r t, rows[i]? = some r ∧ x = V.ref t ∧ SqT K H t [.int r.1, .int r.2] := by
  obtain ⟨d, h1, h2⟩ := hA.of hx
  rw [List.getElem?_map] at h1
  obtain ⟨r, h3, rfl⟩ := Option.map_eq_some_iff.mp h1
  obtain ⟨t, rfl, h4⟩ := of_d2 h2
  exact ⟨r, t, h3, rfl, h4⟩
theorem shp_d2s : SeqAt.shaped (.list (rows.map d2)) = true := (shp_lst (n := 1) (shp_map fun r _ => shp_tup (n := 0) (shp_cons shp_int (shp_cons shp_int shp_nil)))).ok
end
theorem cutG_take {α : Type} (xs : List α) (n : Nat) : cutG xs none (some (n : Int)) = xs.take n := by
  unfold cutG
  rw [HT.sIx_none, HT.sIx_nat, List.drop_zero, Nat.sub_zero]
  rcases Nat.le_total n xs.length with h | h
  · rw [Nat.min_eq_left h]
  · rw [Nat.min_eq_right h, List.take_of_length_le (Nat.le_refl _), List.take_of_length_le h]
theorem cutG_drop {α : Type} (xs : List α) (n : Nat) : cutG xs (some (n : Int)) none = xs.drop n := by
  unfold cutG
  rw [HT.sIx_none, HT.sIx_nat]
  rcases Nat.le_total n xs.length with h | h
  · rw [Nat.min_eq_left h, List.take_of_length_le (by rw [List.length_drop]; exact Nat.le_refl _)]
  · rw [Nat.min_eq_right h, List.drop_of_length_le (Nat.le_refl _), List.drop_of_length_le h, List.take_nil]
theorem strOk_lit {z : Str} (h : PyData.strOk z = true) : PyData.strOk z = true := h
theorem dpa_app {K : PySem.W.Frag} {H : Hp} : ∀ {ds es : List PyData} {vs us : List V}, DpAll K H (vs ++ us) (ds ++ es) → vs.length = ds.length → DpAll K H vs ds ∧ DpAll K H us es
  | [], _, [], _, h, _ => ⟨.nil, h⟩
  | [], _, _ :: _, _, _, e => by simp at e
  | _ :: _, _, [], _, _, e => by simp at e
  | d :: ds, _, v :: vs, _, h, e => by
    cases h with
    | cons h1 h2 =>
      obtain ⟨a, b⟩ := dpa_app h2 (by simpa using e)
      exact ⟨.cons h1 a, b⟩
theorem nn_ints_or {K : PySem.W.Frag} {H : Hp} {x : V} {ts : List Int} {lo hi : Int} (hb : ∀ t ∈ ts, lo ≤ t ∧ t ≤ hi) (h : x ∈ ts.map V.int) : (∃ t, x = .int t ∧ lo ≤ t ∧ t ≤ hi) ∨ BadW K H x lo hi := by
  obtain ⟨t, ht, e⟩ := int_of_mem h
  exact .inl ⟨t, e, hb t ht⟩
theorem rep_len {α : Type} (xs : List α) : ∀ n : Nat, (List.replicate n xs).flatten.length = n * xs.length
  | 0 => by simp
  | n + 1 => by rw [List.replicate_succ, List.flatten_cons, List.length_append, rep_len xs n, Nat.succ_mul, Nat.add_comm]
/-! ### exceptions whose own __init__ asks their base's by its name -/
/-- S.__init__, S an own class, is ValueError's -/
structure BaseI (K : PySem.W.Frag) (S : Addr) : Prop where
  rd : PySem.W.readsIn K S (.type "type") = true
  ga : PySem.W.specialIn K (.ref S) "__getattribute__" = some (some (.builtin "type.__getattribute__"))
  vi : PySem.W.findCls K (.ref S) (.type "type") "__init__" = some (.val (.builtin "ValueError.__init__"))
structure XIniAt (K : PySem.W.Frag) (C : Addr) (qual : Str) (st : Stmt) (ps : List Str) : Prop where
  ex : ∃ (f : Addr) (fd : FuncData), Fun K "__init__" qual st f fd ∧ PySem.W.findIn K (.ref C) "__init__" = some (some (.ref f)) ∧ PySem.W.isFn K (.ref f) = true ∧ Binds K fd ps []
/-- an exception that may be made by its class's name -/
structure XMak (P : Program) (w : World) (K : PySem.W.Frag) (mg : Str → Option Value) (base : Heap) (k : Nat) (x : Str) (C : Addr) (sp : Sp) : Prop where
  ex : ∃ (f : Addr) (fd : FuncData) (ps : List Str), FnOk P w K mg base CX0 k f fd ps sp ∧ PySem.W.findIn K (.ref C) "__init__" = some (some (.ref f)) ∧ PySem.W.typeIn K (.ref f) = some (.type "function") ∧ mg x = some (.ref C) ∧ Binds K fd ps []
section
variable {P : Program} {w : World} {K : PySem.W.Frag} {mg : Str → Option Value} {base : Heap}
theorem XIniAt.xmak {x : Str} {C : Addr} {qual : Str} {st : Stmt} {N ps : List Str} {k : Nat} {sp : Sp} (hx : mg x = some (.ref C)) (d : XIniAt K C qual st ps) (S : FnScope N ps (defScope st)) (len : ∀ vs H Q E, sp vs H Q E → vs.length = ps.length)
    (hbody : ∀ (f : Addr) (cdv : Value) (A : Around) (outer : List Env) (s : Shared) (H : Hp) (vs : List V) (Q : VK) (E : XK), Room k (A.deeper (envOfC qual (defScope st) s.heap.objs.size f cdv)) → sp vs H Q E →
      ∃ t, PSs (cxOf CX0 P w K mg base N qual (defScope st) f cdv A outer s H E).nox (defBody st) t ∧ t { nx := fun _ H' => Q .non H', rt := Q } (start N vs) H) : XMak P w K mg base (k + 1) x C sp := by
  obtain ⟨f, fd, F, h1, h2, b⟩ := d.ex
  exact ⟨f, fd, ps, F.ok S len (hbody f), h1, beq_iff_eq.mp h2, hx, b⟩
end
section
variable {X : Cx} {k j : Nat} {C S : Addr} {x : Str} {sp : Sp} {p p1 p2 pos : Pos} {e : Expr} {es : List Expr} {ta : TA}
theorem pmk_x (c : XMak X.prog X.w X.K X.mg X.base k x C sp) (T : OexC X.K C) (hr : Room j X.A) (hk : k + 1 ≤ j) (hg : Gl X x) (ha : PA X (e :: es) ta)
    (hdb : (x == ("__debug__" : Str)) = false := by decide) (he : starEach (e :: es) X.env = (false, eval e X.env) :: starEach es X.env := by rfl) (hpl : (backTo pos (starEach es X.env)).any (·.1) = false := by rfl) :
    PMk X (.Call (.Name x p) (e :: es) [] pos) (tMkO C sp [] ta) := by
  obtain ⟨f, fd, ps, F, h1, h2, hm, b⟩ := c.ex
  exact pmk_oex T h1 h2 F (hr.mono hk) b .nil pass0 hg hm ha hdb he hpl
theorem pe_baseI {pl : Sem Bool} (hg : Gl X x) (hm : X.mg x = some (.ref S)) (B : BaseI X.K S) (ha : PA X (e :: es) ta)
    (hc : eval (.Call (.Attribute (.Name x p1) "__init__" p2) (e :: es) [] pos) X.env = (do
      let ov ← eval (.Name x p1) X.env
      standAt p2.atName
      let (f, first) ← holding [ov] (getMethod ov "__init__" pl)
      callWith pos f first (backTo pos (starEach (e :: es) X.env)) (backToKw pos (keywordEach [] X.env))) := by rfl)
    (hdb : (x == ("__debug__" : Str)) = false := by decide) (he : starEach (e :: es) X.env = (false, eval e X.env) :: starEach es X.env := by rfl) (hpl : (backTo pos (starEach es X.env)).any (·.1) = false := by rfl) :
    PE X (.Call (.Attribute (.Name x p1) "__init__" p2) (e :: es) [] pos) (tVeI X.K ta) := by
  constructor
  intro pins s σ H Q I h
  have asked : ∀ s1, Inv X pins σ H s1 → wpAny (model X.prog X.w) X.A (callWith pos (Value.builtin "ValueError.__init__") [] (backTo pos (starEach (e :: es) X.env)) []) (EP X pins σ Q) X.xe s1 := fun s1 I1 =>
    PyProof.Rows.callWith_method1 (thn (ha.run pos pins s1 σ H _ I1 h) fun us s2 ⟨vs, H2, I2, r, a, D, ws, evs, few, T, atA, q⟩ => by
      subst evs
      cases r with
      | @cons _ u0 _ ur r0 rr =>
        obtain rfl : u0 = Value.ref a := r0
        have few' : ur.length ≤ sizeLine := by
          have := Paired.length rr
          have := sizeLine_eq
          omega
        exact oinit_ok T I2 atA few' fun s3 I3 => ⟨.non, H2, I3, rfl, q⟩) he hpl
  refine PySem.W.methodCall_KW (ld_glob I hg hm ?_ hdb) hc
  refine PySem.W.method_cls I.kIn B.ga (PySem.W.cls_value I.kIn B.rd B.vi (by decide +kernel) ?_)
  exact asked _ (I.tok _)
end
section
variable {K : PySem.W.Frag} {σ : L2.St} {H : Hp} {D : Ends} {C a : Addr} {f : Str} {y : V} {ta : TA} {te to : TE}
theorem L_veI {R : Hp → Prop} {ws : List V} (T : OexC K C) (h : H a = some (exo a C none)) (l : ws.length ≤ 1000) (q : R H) : ∃ (a' C : Addr) (ws' : List V), V.ref a :: ws = .ref a' :: ws' ∧ ws'.length ≤ 1000 ∧ OexC K C ∧ H a' = some (exo a' C none) ∧ R H := ⟨a, C, ws, rfl, l, T, h, q⟩
theorem L_tveI {Q : VK} (h : ta σ H fun vs H1 => ∃ (a C : Addr) (ws : List V), vs = .ref a :: ws ∧ ws.length ≤ 1000 ∧ OexC K C ∧ H1 a = some (exo a C none) ∧ Q .non H1) : tVeI K ta σ H Q := h
theorem L_ost (h : te σ H fun y H1 => to σ H1 fun x H2 => ∃ a C : Addr, x = .ref a ∧ OexC K C ∧ PySem.W.findIn K (.ref C) f = some none ∧
  ((H2 a = some (exo a C none) ∧ ∀ dx, H2 dx = none → dx ≠ a → D.nx σ (upd (upd H2 dx (exd dx [(f, y)])) a (exo a C (some dx)))) ∨
    ∃ (dx : Addr) (fs : List (Str × V)), H2 a = some (exo a C (some dx)) ∧ H2 dx = some (exd dx fs) ∧ fs.length ≤ 900 ∧ D.nx σ (upd H2 dx (exd dx ((f, y) :: fs))))) : tOst K f to te D σ H := h
theorem L_ost1 {R : Hp → Prop} (T : OexC K C) (nf : PySem.W.findIn K (.ref C) f = some none) (h : H a = some (exo a C none)) (q : ∀ dx, H dx = none → dx ≠ a → R (upd (upd H dx (exd dx [(f, y)])) a (exo a C (some dx)))) :
    ∃ a' C : Addr, V.ref a = .ref a' ∧ OexC K C ∧ PySem.W.findIn K (.ref C) f = some none ∧
  ((H a' = some (exo a' C none) ∧ ∀ dx, H dx = none → dx ≠ a' → R (upd (upd H dx (exd dx [(f, y)])) a' (exo a' C (some dx)))) ∨
    ∃ (dx : Addr) (fs : List (Str × V)), H a' = some (exo a' C (some dx)) ∧ H dx = some (exd dx fs) ∧ fs.length ≤ 900 ∧ R (upd H dx (exd dx ((f, y) :: fs)))) := ⟨a, C, rfl, T, nf, .inl ⟨h, q⟩⟩
/-- what an __init__ with one field keeps -/
def XIni1 (C : Addr) (f : Str) (a : Addr) (v : V) (H : Hp) (Q : VK) : Prop := H a = some (exo a C none) ∧ ∀ d, H d = none → d ≠ a → Q .non (upd (upd H d (exd d [(f, v)])) a (exo a C (some d)))
/-- C(v) is raised -/
theorem L_mkO1 {sp : Sp} {E : XK} {v : V} (hs : ∀ a H Q E, XIni1 C f a v H Q → sp [.ref a, v] H Q E) (q : ∀ d, H d = none → E (.ref C) (some d) (upd H d (.xd [(f, v)]))) : [v].length ≤ 1000 ∧ ∀ a, H a = none → sp (.ref a :: ([v] ++ [])) (upd H a (exo a C none))
  (fun v H2 => v = .non ∧ ∃ (d : Addr) (fs : List (Str × V)), H2 a = some (exo a C (some d)) ∧ H2 d = some (exd d fs) ∧ H d = none ∧ E (.ref C) (some d) (upd (del H2 a) d (.xd fs))) (fun _ _ _ => False) := by
  refine ⟨by rw [List.length_singleton]; decide, fun a na => hs a _ _ _ ⟨upd_same, fun d nd ne => ⟨rfl, d, [(f, v)], upd_same, ?_, ?_, ?_⟩⟩⟩
  · rw [upd_ne ne, upd_same]
  · rw [upd_ne ne] at nd
    exact nd
  · rw [upd_ne ne] at nd
    have z : upd (del (upd (upd (upd H a (exo a C none)) d (exd d [(f, v)])) a (exo a C (some d))) a) d (.xd [(f, v)]) = upd H d (.xd [(f, v)]) := by
      funext b
      by_cases hb : b = d
      · rw [hb, upd_same, upd_same]
      · rw [upd_ne hb, upd_ne hb]
        by_cases ha : b = a
        · rw [ha, del_same, na]
        · rw [del_ne ha, upd_ne ha, upd_ne hb, upd_ne ha]
    rw [z]
    exact q d nd
theorem L_mkO {sp : Sp} {dvs : List V} {Q : XK} (h : ta σ H fun vs H1 => vs.length ≤ 1000 ∧ ∀ a, H1 a = none → sp (.ref a :: (vs ++ dvs)) (upd H1 a (exo a C none))
  (fun v H2 => v = .non ∧ ∃ (d : Addr) (fs : List (Str × V)), H2 a = some (exo a C (some d)) ∧ H2 d = some (exd d fs) ∧ H1 d = none ∧ Q (.ref C) (some d) (upd (del H2 a) d (.xd fs))) (fun _ _ _ => False)) : tMkO C sp dvs ta σ H Q := h
end
/-- isinstance(e, c) in e's own suite, whatever its dict -/
def rIsS (K : PySem.W.Frag) (a : Addr) (cls : Value) (d : Option Addr) : List V → Hp → VK → Prop := fun xs H Q => ∃ (D : Addr) (c : V) (u : Value) (b : Bool), xs = [.ref a, c] ∧ cls = .ref D ∧ (∀ dd, d = some dd → ∃ fs, H dd = some (.xd fs)) ∧ L2.ExcC K D ∧ ClsV c u ∧ PySem.W.kitOne K (.ref D) u = some b ∧ Q (.bl b) H
theorem call_isS {X : Cx} {a : Addr} {cls : Value} {d : Option Addr} {oe : Obj} {pn : List (Addr × Obj)} (hz : Zc cls d oe) (hf : ∃ vs, oe.data = .fields vs) : CallR (X.suite a ((a, oe) :: pn)) (.builtin "isinstance") (rIsS X.K a cls d) := by
  intro pins s σ H xs us Q I r h
  obtain ⟨D, c, u, b, rfl, rfl, hd, C, k, e, q⟩ := h
  obtain ⟨u1, u2, rfl, r1, r2⟩ := vals2 r
  cases r1
  cases k.eq r2
  obtain ⟨there, _⟩ := I.pin (a, oe) (List.mem_append_left _ List.mem_cons_self)
  obtain ⟨vs, data⟩ := hf
  have J : ∃ od, PySem.W.InstAt s.heap a oe D od := by
    have nc : PySem.W.notCls oe = true := by unfold PySem.W.notCls; rw [data] <;> rfl
    cases d with
    | none => exact ⟨none, there, hz.1, nc, by rw [hz.2]; exact True.intro⟩
    | some dd =>
      obtain ⟨fs, hdd⟩ := hd dd rfl
      obtain ⟨mA, ⟨o, es, ep, ho, _⟩, _⟩ := (show ObjOk X.prog X.w H s.heap dd (.xd fs) from I.hok dd _ hdd)
      exact ⟨some o, there, hz.1, nc, by rw [hz.2]; exact ho⟩
  obtain ⟨od, J⟩ := J
  obtain ⟨cd, hcd, _⟩ := PySem.W.any_some C.hd
  exact PySem.W.kia_one (PySem.W.kitx_exc (show (PySem.W.clsIn _ D).isSome = true by rw [hcd]; rfl) C.hg C.hk C.hs C.ha C.hn C.ht C.hm) I.kIn J e (fun z => nomatch z) fun tk => ⟨.bl b, H, I.tok tk, rfl, q⟩
theorem L_isS {K : PySem.W.Frag} {H : Hp} {Q : VK} {a D : Addr} {d : Option Addr} {c : V} {u : Value} {b : Bool} (hd : ∀ dd, d = some dd → ∃ fs, H dd = some (.xd fs)) (C : L2.ExcC K D) (k : ClsV c u) (e : PySem.W.kitOne K (.ref D) u = some b) (q : Q (.bl b) H) : rIsS K a (.ref D) d [.ref a, c] H Q := ⟨D, c, u, b, rfl, rfl, hd, C, k, e, q⟩
/-- one of two derivations -/
def tOrE (t1 t2 : TE) : TE := fun σ H Q => t1 σ H Q ∨ t2 σ H Q
theorem PE.or {X : Cx} {e : Expr} {t1 t2 : TE} (h1 : PE X e t1) (h2 : PE X e t2) : PE X e (tOrE t1 t2) :=
  ⟨fun pins s σ H Q I h => h.elim (fun h => h1.run pins s σ H Q I h) (fun h => h2.run pins s σ H Q I h)⟩
/-- what isinstance asks of an instance's own class; of the class it is asked of -/
structure InsC (K : PySem.W.Frag) (C : Addr) : Prop where
  ha : PySem.W.findIn K (.ref C) "__class__" = some (some (.builtin "object.__class__"))
  hn : PySem.W.specialIn K (.builtin "object.__class__") "__get__" = some (some (.builtin "getset_descriptor.__get__"))
  ht : PySem.W.takesIn K (.builtin "object.__class__") = some true
  hm : PySem.W.mroIn K C (.type "object") = some true
structure ClsT (K : PySem.W.Frag) (C : Addr) : Prop where
  i : PySem.W.isClsIn K C = true
  t : PySem.W.typeIn K (.ref C) = some (.type "type")
theorem tyx_I {K : PySem.W.Frag} {H : Hp} {a C dx : Addr} {fs : List (Str × V)} (h : H a = some (.ins C dx fs)) (cl : Cls K C) (c : InsC K C) : TyX K H (.ref a) (.ref C) := .base (.ins h cl c.ha c.hn c.ht c.hm)
theorem kit_own {K : PySem.W.Frag} {C D : Addr} {b : Bool} (hD : PySem.W.subIn K (.ref D) (.ref D) = some true) (k : ClsT K C) (h : PySem.W.subIn K (.ref D) (.ref C) = some b) : PySem.W.kitOne K (.ref D) (.ref C) = some b := by
  unfold PySem.W.kitOne
  by_cases e : D = C
  · subst e
    rw [hD] at h
    cases h
    rw [if_pos (by simp)]
  · rw [if_neg (by simpa using e)]
    have h2 : (PySem.W.clsIn K C).isSome = true := k.i
    show (if ((PySem.W.clsIn K C).isSome && PySem.W.typeIn K (.ref C) == some (.type "type")) = true then PySem.W.subIn K (.ref D) (.ref C) else none) = some b
    rw [if_pos (by rw [h2, k.t]; rfl)]
    exact h
theorem kit_not {K : PySem.W.Frag} {T : String} {C : Addr} {b : Bool} (k : ClsT K C) (h : PySem.W.subIn K (.type T) (.ref C) = some b) : PySem.W.kitOne K (.type T) (.ref C) = some b := by
  unfold PySem.W.kitOne
  rw [if_neg (by simp)]
  have h2 : (PySem.W.clsIn K C).isSome = true := k.i
  show (if ((PySem.W.clsIn K C).isSome && PySem.W.typeIn K (.ref C) == some (.type "type")) = true then PySem.W.subIn K (.type T) (.ref C) else none) = some b
  rw [if_pos (by rw [h2, k.t]; rfl)]
  exact h
theorem L_orl {t1 t2 : TE} {σ : L2.St} {H : Hp} {Q : VK} (h : t1 σ H Q) : tOrE t1 t2 σ H Q := .inl h
theorem L_orr {t1 t2 : TE} {σ : L2.St} {H : Hp} {Q : VK} (h : t2 σ H Q) : tOrE t1 t2 σ H Q := .inr h
theorem L_xf {a C : Addr} {cls : Value} {d : Option Addr} {f : Str} {te : TE} {σ : L2.St} {H : Hp} {Q : VK} (h : te σ H fun x H1 => x = .ref a ∧ cls = .ref C ∧ ∃ (dd : Addr) (fs : List (Str × V)) (v : V), d = some dd ∧ H1 dd = some (.xd fs) ∧ fs.lookup f = some v ∧ Q v H1) : tXf a cls d C f te σ H Q := h
theorem ExcC.xf {K : PySem.W.Frag} {C : Addr} (c : L2.ExcC K C) : XfC K C := ⟨c.hg, c.hk, c.hs, c.hd⟩
theorem L_isC {K : PySem.W.Frag} {H : Hp} {Q : VK} {x : V} {T : Value} {C : Addr} {b : Bool} (ty : TyX K H x T) (e : PySem.W.kitOne K T (.ref C) = some b) (q : Q (.bl b) H) : rIsi K [x, .ref C] H Q := ⟨x, .ref C, T, .ref C, b, rfl, .own C, ty, e, q⟩
theorem L_str1 {H : Hp} {Q : VK} {t : Int} (h : 0 ≤ t ∧ t ≤ 1000) (q : Q (.str (toString t)) H) : aStr1 [.int t] H Q := ⟨t, rfl, by have := Nat.log2_le_self t.natAbs; omega, q⟩
theorem str_short : ∀ t : Int, 0 ≤ t → t ≤ 100 → (↑(toString t) : Str).length ≤ 3 := by
  have h : ∀ n ∈ List.range 101, (↑(toString ((n : Nat) : Int)) : Str).length ≤ 3 := by decide +kernel
  intro t h0 h1
  have := h t.toNat (List.mem_range.mpr (by omega))
  rwa [Int.toNat_of_nonneg h0] at this

/-! ### exceptions held as values -/
/-- at a: an exception of the own class D, not raised; fs: its own fields -/
def XVal (H : Hp) (a D : Addr) (fs : List (Str × V)) : Prop := (fs = [] ∧ H a = some (ExI (.ref D) none a)) ∨ ∃ d, H a = some (exo a D (some d)) ∧ H d = some (exd d fs)
theorem XVal.same {H H' : Hp} {a D : Addr} {fs : List (Str × V)} (h : XVal H a D fs) (s : Same H H') : XVal H' a D fs := by
  rcases h with ⟨h1, h2⟩ | ⟨d, h1, h2⟩
  · exact .inl ⟨h1, s _ _ h2⟩
  · exact .inr ⟨d, s _ _ h1, s _ _ h2⟩
theorem xval_inst {X : Cx} {pins : List (Addr × Obj)} {σ : L2.St} {H : Hp} {s : Shared} {a D : Addr} {fs : List (Str × V)} (I : Inv X pins σ H s) (h : XVal H a D fs) : ∃ oe od, PySem.W.InstAt s.heap a oe D od := by
  rcases h with ⟨_, h⟩ | ⟨d, h1, h2⟩
  · obtain ⟨oe, J⟩ := exI_at I h
    exact ⟨oe, none, J⟩
  · obtain ⟨t1, ho⟩ := exo_at I.hok h1
    obtain ⟨mA, ⟨o, _, _, hd, _⟩, _⟩ := exd_at I.hok h2
    exact ⟨_, some o, ho, rfl, rfl, hd⟩
def rIsV (K : PySem.W.Frag) : List V → Hp → VK → Prop := fun xs H Q => ∃ (a D : Addr) (fs : List (Str × V)) (c : V) (u : Value) (b : Bool), xs = [.ref a, c] ∧ XVal H a D fs ∧ L2.ExcC K D ∧ ClsV c u ∧ PySem.W.kitOne K (.ref D) u = some b ∧ Q (.bl b) H
theorem call_isV {X : Cx} : CallR X (.builtin "isinstance") (rIsV X.K) := by
  intro pins s σ H xs us Q I r h
  obtain ⟨a, D, fs, c, u, b, rfl, hx, C, k, e, q⟩ := h
  obtain ⟨u1, u2, rfl, r1, r2⟩ := vals2 r
  cases r1
  cases k.eq r2
  obtain ⟨oe, od, J⟩ := xval_inst I hx
  obtain ⟨cd, hcd, _⟩ := PySem.W.any_some C.hd
  exact PySem.W.kia_one (PySem.W.kitx_exc (show (PySem.W.clsIn _ D).isSome = true by rw [hcd]; rfl) C.hg C.hk C.hs C.ha C.hn C.ht C.hm) I.kIn J e (fun z => nomatch z) fun tk => ⟨.bl b, H, I.tok tk, rfl, q⟩
theorem L_isV {K : PySem.W.Frag} {H : Hp} {Q : VK} {a D : Addr} {fs : List (Str × V)} {c : V} {u : Value} {b : Bool} (h : XVal H a D fs) (C : L2.ExcC K D) (k : ClsV c u) (e : PySem.W.kitOne K (.ref D) u = some b) (q : Q (.bl b) H) : rIsV K [.ref a, c] H Q := ⟨a, D, fs, c, u, b, rfl, h, C, k, e, q⟩
/-- e.f, e such a value -/
def tXv (K : PySem.W.Frag) (f : Str) (te : TE) : TE := fun σ H Q => te σ H fun x H1 => ∃ (a D d : Addr) (fs : List (Str × V)) (v : V), x = .ref a ∧ L2.ExcC K D ∧ PySem.W.findIn K (.ref D) f = some none ∧ H1 a = some (exo a D (some d)) ∧ H1 d = some (exd d fs) ∧ fs.lookup f = some v ∧ Q v H1
theorem L_xv {K : PySem.W.Frag} {f : Str} {te : TE} {σ : L2.St} {H : Hp} {Q : VK} (h : te σ H fun x H1 => ∃ (a D d : Addr) (fs : List (Str × V)) (v : V), x = .ref a ∧ L2.ExcC K D ∧ PySem.W.findIn K (.ref D) f = some none ∧ H1 a = some (exo a D (some d)) ∧ H1 d = some (exd d fs) ∧ fs.lookup f = some v ∧ Q v H1) : tXv K f te σ H Q := h
theorem pe_xv {X : Cx} {e : Expr} {te : TE} {f : Str} {pos : Pos} (he : PE X e te) (hb : attributeBase e f X.env (eval e X.env) = eval e X.env := by rfl) : PE X (.Attribute e f pos) (tXv X.K f te) := by
  constructor
  intro pins s σ H Q I h
  refine attr_of hb (thn (he.run pins s σ H _ I h) fun u s1 ⟨x, H1, I1, rx, a, D, d, fs, v, ex, C, nf, h1, h2, l, q⟩ => ?_)
  subst ex
  cases rx
  obtain ⟨t1, ho⟩ := exo_at I1.hok h1
  obtain ⟨mA, hns, rel⟩ := exd_at I1.hok h2
  obtain ⟨od, hod, hlk⟩ := lookIn_ns hns
  obtain ⟨w, hw, rw'⟩ := RelO.some_of (v := v) (o := mA f) (by rw [← l]; exact rel f)
  have J : PySem.W.InstAt s1.heap a _ D (some od) := ⟨ho, rfl, rfl, hod⟩
  exact HandSPX.exc_get I1.kIn J C.hg C.hk C.hs (PySem.W.findObj_own C.hd nf rfl (by rw [hlk, hw])) (handed_of rw') ⟨v, H1, I1.tok _, rw', q⟩
/-- C(), C without an own __init__ -/
def tMk0V (C : Addr) : TE := fun _ H Q => ∀ a, H a = none → Q (.ref a) (upd H a (ExI (.ref C) none a))
theorem pe_mk0V {X : Cx} {C : Addr} {x : Str} {p pos : Pos} (c : ExcAt X.K C) (gC : X.mg x = some (.ref C)) (hg : Gl X x) (hdb : (x == ("__debug__" : Str)) = false := by decide) : PE X (.Call (.Name x p) [] [] pos) (tMk0V C) := by
  constructor
  intro pins s σ H Q I h
  refine wpAny_Call_Name_kw (ld_glob I hg gC ?_ hdb)
  refine PySem.W.callWith_K0 I.kIn c.k ?_
  obtain ⟨bm, N, nm, qn, bs, hdct, sn, sub, ab, col, dd, k0, k1, k2, k3, k5, mN, hC, hN, hni, T⟩ := exc_obj I.kIn c.x
  refine wpAny_call_exc_subT PySem.F.excBase_ValueError T hC hN hni (fun h' a hm => ?_) (Nat.zero_le _)
  have na : H a = none := I.hok.gone hm.new
  obtain ⟨t, at_, _, _⟩ := hm.there
  refine ⟨.ref a, _, I.laidN (o := ExI (.ref C) none a) hm.keeps hm.new na ⟨⟨_, _, at_, ⟨rfl, rfl⟩, rfl⟩, ⟨_, at_⟩, fun _ _ ⟨o1, v1, z, r⟩ k => ⟨o1, v1, k o1 z, r⟩⟩, rfl, h a na⟩
/-- C(..), C with an own __init__ -/
def tMkV (C : Addr) (sp : Sp) (ta : TA) : TE := fun σ H Q => ta σ H fun vs H1 => vs.length ≤ 1000 ∧ ∀ a, H1 a = none → sp (.ref a :: vs) (upd H1 a (exo a C none)) (fun v H2 => v = .non ∧ Q (.ref a) H2) E0
theorem L_mkV {C : Addr} {sp : Sp} {ta : TA} {σ : L2.St} {H : Hp} {Q : VK} (h : ta σ H fun vs H1 => vs.length ≤ 1000 ∧ ∀ a, H1 a = none → sp (.ref a :: vs) (upd H1 a (exo a C none)) (fun v H2 => v = .non ∧ Q (.ref a) H2) E0) : tMkV C sp ta σ H Q := h
theorem L_mk0V {C : Addr} {σ : L2.St} {H : Hp} {Q : VK} (h : ∀ a, H a = none → Q (.ref a) (upd H a (ExI (.ref C) none a))) : tMk0V C σ H Q := h
theorem pe_mkV {X : Cx} {k j : Nat} {C : Addr} {x : Str} {sp : Sp} {p pos : Pos} {e : Expr} {es : List Expr} {ta : TA} (c : XMak X.prog X.w X.K X.mg X.base k x C sp) (T : OexC X.K C) (hr : Room j X.A) (hk : k + 1 ≤ j) (hg : Gl X x) (ha : PA X (e :: es) ta)
    (hdb : (x == ("__debug__" : Str)) = false := by decide) (he : starEach (e :: es) X.env = (false, eval e X.env) :: starEach es X.env := by rfl) (hpl : (backTo pos (starEach es X.env)).any (·.1) = false := by rfl) :
    PE X (.Call (.Name x p) (e :: es) [] pos) (tMkV C sp ta) := by
  obtain ⟨f, fd, ps, F, iC, tI, hm, hb⟩ := c.ex
  have room := hr.mono hk
  obtain ⟨nm, q, N, bs, bm, sn, sub, ab, col, dd, k0, k1, k2, k3, k5, hC, hbm⟩ := T.cls
  constructor
  intro pins s σ H Q I h
  refine wpAny_Call_Name_kw (ld_glob I hg hm ?_ hdb)
  refine PySem.W.callWith_K (h₀ := X.base) I.ok.mod.kin T.kC (thn (ha.run pos pins s σ H _ I h) fun us s1 ⟨vs, H1, I1, r1, hz, q1⟩ => ⟨I1.kIn, ?_⟩) he hpl
  show wpAny _ _ (call (.ref C) us) _ _ _
  have r1 : Vals vs us := r1
  have few : us.length ≤ sizeLine := by
    have z1 := Paired.length r1
    have z2 := sizeLine_eq
    omega
  obtain ⟨hp, g, dr, tk, os⟩ := s1
  -- the arguments' tuple and the exception's own place
  have old : ∀ b o, hp.get? b = some o → ((hp.push (PySem.W.kdv_tup us)).push (PySem.HandSPX.excO C hp.objs.size)).get? b = some o := fun b o z => Heap.get?_push_of_some _ (Heap.get?_push_of_some _ z)
  have here : ((hp.push (PySem.W.kdv_tup us)).push (PySem.HandSPX.excO C hp.objs.size)).get? (hp.objs.size + 1) = some (PySem.HandSPX.excO C hp.objs.size) := by heap_get
  have free : H1 (hp.objs.size + 1) = none := I1.hok.fresh (Nat.le_succ _)
  have J : Inv X pins σ (upd H1 (hp.objs.size + 1) (exo (hp.objs.size + 1) C none)) ⟨(hp.push (PySem.W.kdv_tup us)).push (PySem.HandSPX.excO C hp.objs.size), g, dr, tk, os⟩ :=
    I1.laid (t' := tk) old (Nat.le_succ _) (exo_ok here)
  have asked := q1 _ free
  have args : Vals (V.ref (hp.objs.size + 1) :: vs) (Value.ref (hp.objs.size + 1) :: us) := .cons rfl r1
  have many : (Value.ref (hp.objs.size + 1) :: us).length = ps.length := args.length.symm.trans (F.len _ _ _ _ asked)
  have bound := hb _ (Value.ref (hp.objs.size + 1) :: us) J.kIn (by rw [List.append_nil]; exact many)
  rw [List.append_nil] at bound
  refine wpAny_call (PySem.HandSPX.call_own PySem.F.excBase_ValueError (fun Y => PySem.HandSPX.refsVE_contains Y bm hbm) (I1.kIn _ _ hC) (PySem.W.looks_findIn I1.kIn iC) (fun self => PySem.W.bind_fn I1.kIn self tI) few ?_)
  refine codeAny_mono (F.run _ X.stack _ _ ⟨_, []⟩ _ _ _ E0 (room.make C us []) (J.env0.make C us []) bound args asked) fun out s' ho => ?_
  match out, ho with
  | .error e, ho => exact pass0 pins σ _ _ e s' J ho
  | .ok (.ret u), ho =>
    obtain ⟨v, H', J', rel, hv, rest⟩ := J.after ho
    cases hv
    exact ⟨rel, .ref (hp.objs.size + 1), H', J', rfl, rest⟩
  | .ok .next, ho => exact ho.elim
  | .ok .brk, ho => exact ho.elim
  | .ok .cont, ho => exact ho.elim
theorem L_dsetd {td ty tx : TE} {σ : L2.St} {H : Hp} {Q : VK} (h : td σ H fun x H1 => ∃ a, x = .ref a ∧ IsD H1 a ∧ ty σ H1 fun y H2 => tx σ H2 fun z H3 => ∃ (kvs : List (Key × V)) (k : Key), H3 a = some (.dK kvs) ∧ y = kV k ∧ kvs.length < sizeLine ∧
  (∀ v, valV kvs k = some v → Q v H3) ∧ (valV kvs k = none → Q z (upd H3 a (.dK (putK kvs k z))))) : tDSetd td ty tx σ H Q := h
/-! ### the tuples of a heap; fields changed by += -/
noncomputable def tp (H : Hp) : Hp := rs (fun b => ∃ xs, H b = some (.tup xs)) H
theorem tp_same {H H' : Hp} (h : ∀ b xs, H b = some (.tup xs) → H' b = some (.tup xs)) : Same (tp H) (tp H') := rs_same fun b o ⟨xs, e⟩ z => ⟨⟨xs, h b xs e⟩, by rw [e] at z; cases z; exact h b xs e⟩
theorem tp_upd {H : Hp} {a : Addr} {o : HO} (h : ∀ xs, H a ≠ some (.tup xs)) : Same (tp H) (tp (upd H a o)) := tp_same fun b xs e => by rw [upd_ne fun z => h xs (by rw [← z]; exact e)]; exact e
theorem tp_at {H : Hp} {b : Addr} {xs : List V} (h : H b = some (.tup xs)) : tp H b = some (.tup xs) := rs_at ⟨xs, h⟩ h
theorem tp_of {H H' : Hp} (e : Same H H') : Same (tp H) (tp H') := tp_same fun b xs z => e _ _ z
theorem L_fldaug {K : PySem.W.Frag} {σ : L2.St} {H : Hp} {N B C' : L2.St → Hp → Prop} {R : VK} {f : Str} {ta tv : TE} {rd : V → V → Hp → VK → Prop} (h : ta σ H fun x H1 => ∃ a C dx fs v, x = .ref a ∧ H1 a = some (.ins C dx fs) ∧ Cls K C ∧ NoAttr K C f ∧ fs.lookup f = some v ∧
  tv σ H1 fun y H2 => rd v y H2 fun z H3 => ∃ dx' fs', H3 a = some (.ins C dx' fs') ∧ fs'.length < 1000 ∧ N σ (upd H3 a (.ins C dx' (putF f z fs')))) : sFldAug K ta tv rd f ⟨N, R, B, C'⟩ σ H := h
theorem L_rAdd {H : Hp} {Q : VK} {i j : Int} (h : Q (.int (i + j)) H) : rAdd (.int i) (.int j) H Q := ⟨i, j, rfl, rfl, h⟩
theorem fm_flt {α β : Type} (c : α → Bool) (g : α → β) : ∀ l : List α, (List.range l.length).filterMap (fun i => (l[i]?).bind fun x => if c x = true then some (g x) else none) = (l.filter c).map g
  | [] => rfl
  | a :: l => by
    have ih := fm_flt c g l
    rw [List.length_cons, List.range_succ_eq_map]
    simp only [List.filterMap_cons, List.getElem?_cons_zero, Option.bind_some, List.filterMap_map, Function.comp_def, List.getElem?_cons_succ]
    rw [ih]
    cases h : c a
    · rw [List.filter_cons_of_neg (by simp [h])]; simp
    · rw [List.filter_cons_of_pos h]; simp
/-- t * n, t a text -/
def rRepS : R2 := fun x y H Q => ∃ (z : Str) (k : Int), x = .str z ∧ y = .int k ∧ MulOk z k ∧ Q (.str (Txt.mul z k)) H
theorem op_repS {X : Cx} : OpR X (binaryOp .Mult) rRepS := by
  intro pins s σ H x y v u Q I rx ry h
  obtain ⟨z, k, rfl, rfl, hz, q⟩ := h
  obtain ⟨t, rfl⟩ := rx
  obtain ⟨t', rfl⟩ := ry
  exact SB.mul hz fun t' tk => ⟨.str (Txt.mul z k), H, I.tok _, ⟨_, rfl⟩, q⟩
theorem L_repS0 {H : Hp} {Q : VK} {z : Str} {k : Int} (h : k = 0) (q : Q (.str Str.empty) H) : rRepS (.str z) (.int k) H Q := by
  subst h
  exact ⟨z, 0, rfl, rfl, ⟨by decide, fun h => absurd (by decide) h, fun h => absurd (by decide) h⟩, q⟩
theorem sqT_upd {K : PySem.W.Frag} {H : Hp} {p a : Addr} {us xs : List V} {o : HO} (hp : H p = some (.lst us)) (h : SqT K H a xs) : SqT K (upd H p o) a xs := by
  rcases h with (h | ⟨o', h⟩) | h
  · exact .inl (.inl (by rw [upd_ne fun z => by rw [z, hp] at h; cases h]; exact h))
  · exact .inl (.inr ⟨o', by rw [upd_ne fun z => by rw [z, hp] at h; cases h]; exact h⟩)
  · exact .inr h
theorem rep_map {α : Type} (f : α → V) (xs : List α) (n : Nat) : (List.replicate n (xs.map f)).flatten = ((List.replicate n xs).flatten).map f := by
  induction n with
  | zero => rfl
  | succ n ih => rw [List.replicate_succ, List.flatten_cons, List.replicate_succ, List.flatten_cons, List.map_append, ih]
theorem cutG_both {α : Type} (xs : List α) {a b : Nat} (h1 : a ≤ b) (h2 : b ≤ xs.length) : cutG xs (some (a : Int)) (some (b : Int)) = (xs.drop a).take (b - a) := by
  unfold cutG
  rw [HT.sIx_nat, HT.sIx_nat, Nat.min_eq_left h2, Nat.min_eq_left (Nat.le_trans h1 h2)]
/-! ### looks at a question's form, ahead of steps that show something -/
section
variable {K : PySem.W.Frag} {σ : L2.St} {H : Hp} {Q : VK} {x y v : V}
theorem G_mul (h : aMul x y H Q) : aMul x y H Q := h
theorem G_mod {g : Int → Int → V} (h : rI (fun _ j => 0 < j) g x y H Q) : rI (fun _ j => 0 < j) g x y H Q := h
theorem G_div {g : Int → Int → V} (h : rI CDivW g x y H Q) : rI CDivW g x y H Q := h
theorem G_pow {g : Int → Int → V} (h : rI CPow g x y H Q) : rI CPow g x y H Q := h
theorem G_ix {p : Addr} {i : Int} (h : rIx K (.ref p) (.int i) H Q) : rIx K (.ref p) (.int i) H Q := h
theorem G_len {p : Addr} (h : aLen K [.ref p] H Q) : aLen K [.ref p] H Q := h
theorem G_meth {a : Addr} {C : Addr} {m : Str} {R : Addr → Addr → List (Str × V) → Prop} (h : ∃ a' dx fs, V.ref a = V.ref a' ∧ H a' = some (.ins C dx fs) ∧ fs.lookup m = none ∧ R a' dx fs) : ∃ a' dx fs, V.ref a = V.ref a' ∧ H a' = some (.ins C dx fs) ∧ fs.lookup m = none ∧ R a' dx fs := h
theorem G_isi {i : Int} {n : String} (h : rIsi K [.int i, .ty n] H Q) : rIsi K [.int i, .ty n] H Q := h
theorem G_d {p : Prop} [Decidable p] {A B : Prop} (h : if decide p = true then A else B) : if decide p = true then A else B := h
theorem G_nd {p : Prop} [Decidable p] {A B : Prop} (h : if (!decide p) = true then A else B) : if (!decide p) = true then A else B := h
theorem G_gn {i : Nat} {N : L2.St → Hp → Prop} (h : gName i v σ H N) : gName i v σ H N := h
end
theorem inV_strs (n : Str) : ∀ ns : List Str, inV (.str n) (ns.map V.str) = decide (n ∈ ns)
  | [] => by simp [inV]
  | k :: ns => by
    have ih := inV_strs n ns
    unfold inV at ih ⊢
    rw [List.map_cons, List.any_cons, ih]
    by_cases e : n = k
    · subst e
      simp [eqV]
    · have e' : ¬ k = n := fun z => e z.symm
      simp [eqV, e, e']
theorem flat_strs : ∀ ns : List Str, (ns.map V.str).all flatV = true
  | [] => rfl
  | _ :: ns => by rw [List.map_cons, List.all_cons, flat_strs ns]; rfl
section
variable {K : PySem.W.Frag} {H : Hp} {Q : VK} {p : Addr} {z : Str} {ns : List Str}
theorem L_notInSs (h : SqL K H p (ns.map V.str)) (q : Q (.bl (!decide (z ∈ ns))) H) : aNotIn K (.str z) (.ref p) H Q := .inr ⟨p, _, rfl, .inl h, rfl, flat_strs _, by rw [if_pos rfl, inV_strs]; exact q⟩
theorem L_inSs (h : SqL K H p (ns.map V.str)) (q : Q (.bl (decide (z ∈ ns))) H) : aIn K (.str z) (.ref p) H Q := .inr ⟨p, _, rfl, .inl h, rfl, flat_strs _, by rw [if_neg (by decide), inV_strs]; exact q⟩
end
/-! ### dicts: in, not in, d[k] = v -/
section
variable {K : PySem.W.Frag} {σ : L2.St} {H : Hp} {Q : VK} {ty td tv : TE} {y v : V} {a : Addr} {k : Key} {kvs : List (Key × V)}
theorem L_din (h : ty σ H fun y H1 => td σ H1 fun x H2 => ∃ a o, x = .ref a ∧ DGet H2 a y o ∧ Q (.bl o.isSome) H2) : tDIn ty td σ H Q := h
theorem L_dnin (h : ty σ H fun y H1 => td σ H1 fun x H2 => ∃ a o, x = .ref a ∧ DGet H2 a y o ∧ Q (.bl (!o.isSome)) H2) : tDNotIn ty td σ H Q := h
theorem L_dget (h : td σ H fun x H1 => ty σ H1 fun y H2 => ∃ a v, x = .ref a ∧ DGet H2 a y (some v) ∧ Q v H2) : tDGet td ty σ H Q := h
theorem L_dinv {R : Option V → Prop} (e : y = kV k) (h : H a = some (.dK kvs)) (q : R (valV kvs k)) : ∃ a' o, V.ref a = .ref a' ∧ DGet H a' y o ∧ R o := ⟨a, _, rfl, by rw [e]; exact DGet.k h, q⟩
theorem L_dgetv {R : V → Prop} (e : y = kV k) (h : H a = some (.dK kvs)) (hv : valV kvs k = some v) (q : R v) : ∃ a' v, V.ref a = .ref a' ∧ DGet H a' y (some v) ∧ R v := ⟨a, v, rfl, by rw [e, ← hv]; exact DGet.k h, q⟩
theorem L_dput {N B C : L2.St → Hp → Prop} {R : VK} (h : tv σ H fun v H1 => td σ H1 fun x H2 => ty σ H2 fun y H3 => ∃ a H4, x = .ref a ∧ DPut H3 a y v H4 ∧ N σ H4) : sDPut td ty tv ⟨N, R, B, C⟩ σ H := h
theorem L_dputv {R : Hp → Prop} (e : y = kV k) (h : H a = some (.dK kvs)) (hl : kvs.length < 1000000) (q : R (upd H a (.dK (putK kvs k v)))) : ∃ a' H4, V.ref a = .ref a' ∧ DPut H a' y v H4 ∧ R H4 := ⟨a, _, rfl, by rw [e]; exact DPut.k h (sz_lt hl), q⟩
end
theorem putK_len {kvs : List (Key × V)} {k : Key} {v : V} : (putK kvs k v).length ≤ kvs.length + 1 := by
  unfold putK
  split
  · rw [List.length_map]; omega
  · rw [List.length_append, List.length_singleton]; omega
/-! ### a comprehension of new pairs of ints -/
def T2 (H : Hp) (v : V) (p : Int × Int) : Prop := ∃ t, v = .ref t ∧ H t = some (.tup [.int p.1, .int p.2])
theorem paired_imp2 {α β : Type} {F G : α → β → Prop} (h : ∀ a b, F a b → G a b) : ∀ {xs : List α} {ys : List β}, Paired F xs ys → Paired G xs ys
  | [], _, p => by cases p; exact .nil
  | x :: xs, _, p => by cases p with | cons h1 h2 => exact .cons (h _ _ h1) (paired_imp2 h h2)
theorem paired_app {α β : Type} {F : α → β → Prop} : ∀ {xs us : List α} {ys ws : List β}, Paired F xs ys → Paired F us ws → Paired F (xs ++ us) (ys ++ ws)
  | [], _, _, _, p, q => by cases p; exact q
  | x :: xs, _, _, _, p, q => by cases p with | cons h1 h2 => exact .cons h1 (paired_app h2 q)
section
variable {σ : L2.St} {H : Hp} {g : TG} {tt : TT} {te : TE}
theorem lc_pr {J : It} {n : Nat} {G : Hp → Prop} {Y : Nat → Hp → V → Hp → Prop} (w : L2.Walk J n G Y) {vs : List Nat} {Qd : Addr → Hp → Prop} (f : Nat → Option (Int × Int)) (hn : n ≤ 1000000) (hG : ∀ H', Same H H' → G H')
    (hs : ∀ i x H2 H' (R : V → Hp → Prop) (R' : Hp → Prop), i < n → Same H H2 → Y i H2 x H' → (∀ t p H4, f i = some p → Same H2 H4 → H4 t = some (.tup [.int p.1, .int p.2]) → R (.ref t) H4) → (∀ H3, f i = none → Same H2 H3 → R' H3) →
      g x (wipe σ vs) H' fun σ2 H2 => wipe σ2 vs = wipe σ vs ∧ tt σ2 H2 fun b H3 => if b = true then te σ2 H3 R else R' H3)
    (q : ∀ p H' vs, H p = none → Same H H' → H' p = some (.lst vs) → Paired (T2 H') vs ((List.range n).filterMap f) → Qd p H') :
    ∀ D, H D = none → ∃ W : Nat → Nat → Hp → Prop, (∃ m, W 0 m (upd H D (.lst []))) ∧ ∀ i m H, W i m H →
      (J.stop i H ∧ Qd D H) ∨ (J.go i H ∧ ∃ Nx : Hp → Prop, (∀ H', Nx H' → ∃ m', m' < m ∧ W (i + 1) m' H') ∧ ∀ x H', J.yld i H x H' → g x (wipe σ vs) H' fun σ2 H2 => wipe σ2 vs = wipe σ vs ∧ tt σ2 H2 fun b H3 =>
        if b = true then te σ2 H3 fun y H4 => ∃ acc, H4 D = some (.lst acc) ∧ acc.length < sizeLine ∧ Nx (upd H4 D (.lst (acc ++ [y]))) else Nx H3) := by
  intro D hD
  refine lc_it w (fun i H2 => Same H H2 ∧ ∃ us, H2 D = some (.lst us) ∧ Paired (T2 H2) us ((List.range i).filterMap f)) ⟨same_new hD, [], upd_same, .nil⟩ (fun i H2 _ p => hG H2 p.1) ?_ (fun H2 ⟨p1, us, p2, p3⟩ => q D H2 us hD p1 p2 p3)
  rintro i x H2 H' hi ⟨p1, us, p2, p3⟩ y
  refine hs i x H2 H' _ _ hi p1 y (fun t d H4 e s et => ?_) (fun H3 e s => ?_)
  · have e4 := s _ _ p2
    have ne : ∀ t o, H4 t = some o → (∀ l, o ≠ .lst l) → t ≠ D := fun t o h h' z => by rw [z, e4] at h; injection h with h; exact h' _ h.symm
    refine ⟨us, e4, sz_lt (by have := Paired.length p3; have := fm_len' f i; omega), same_mut (p1.trans s) hD, _, upd_same, ?_⟩
    rw [fm_succ', e]
    have up : ∀ v p, T2 H4 v p → T2 (upd H4 D (.lst (us ++ [.ref t]))) v p := fun v p h => by
      obtain ⟨t', h1, h2⟩ := h
      exact ⟨t', h1, by rw [upd_ne (ne t' _ h2 (fun _ z => by cases z))]; exact h2⟩
    exact paired_app (paired_imp2 (fun v p h => up v p (by obtain ⟨t', h1, h2⟩ := h; exact ⟨t', h1, s _ _ h2⟩)) p3) (.cons (up _ _ ⟨t, rfl, et⟩) .nil)
  · refine ⟨p1.trans s, us, s _ _ p2, ?_⟩
    rw [fm_succ', e, List.append_nil]
    exact paired_imp2 (fun v p ⟨t, h1, h2⟩ => ⟨t, h1, s _ _ h2⟩) p3
end
end Kt
set_option Elab.async false
set_option linter.all false
set_option maxRecDepth 100000
set_option maxHeartbeats 4000000
namespace My
open PySem PySem.Spec PyProof.Rows L2 Kt
/-! one step of a reading; a look at the heap -/
local macro_rules | `(tactic| walk_at "hp") => `(tactic| first
  | assumption
  | exact upd_same
  | (with_reducible apply hp_from; assumption; walk_at "sm"))
local macro_rules | `(tactic| walk_at "hpL") => `(tactic| first | assumption | (with_reducible apply hpL; walk_at "hp"))
local macro_rules | `(tactic| walk_at "hpT") => `(tactic| first | assumption | (with_reducible apply hpT; walk_at "hp"))
local macro_rules | `(tactic| walk_at "st1") => `(tactic| with_reducible first
  | refine L_var rfl ?_
  | refine L_cons ?_
  | refine L_nil ?_
  | refine L_c ?_
  | refine L_op ?_
  | refine L_seq ?_
  | refine L_asg ?_
  | (refine G_gn ?_; refine L_gnameE (by dsimp only [L2.wipe, List.foldl, List.set] <;> rfl) ?_)
  | refine L_k ?_
  | refine L_I0 ?_
  | refine L_addI ?_
  | refine L_tTest ?_
  | refine L_ifS ?_
  | refine L_next ?_
  | refine L_call ?_
  | refine L_callS ?_
  | refine L_T ?_
  | refine L_F ?_
  | refine L_nT ?_
  | refine L_nF ?_
  | refine L_cb ?_
  | refine L_ret ?_
  | refine L_eqI ?_
  | refine L_neI ?_
  | refine L_leI ?_
  | refine L_ltI ?_
  | refine L_or ?_
  | refine L_and ?_
  | refine L_not ?_
  | refine L_tB ?_
  | refine L_drop ?_
  | refine L_bm ?_
  | refine L_tup ?_
  | refine L_lst ?_
  | refine L_fld ?_
  | refine L_chain ?_
  | refine L_gname ?_
  | refine L_eqS ?_
  | refine L_neS ?_
  | refine L_eqB ?_
  | refine L_leS ?_
  | refine L_isN ?_
  | refine L_notN ?_
  | refine L_inC ?_
  | refine L_notInC ?_
  | refine L_un ?_
  | refine L_rU ?_
  | refine L_andV ?_
  | refine L_orV ?_
  | refine L_notV ?_
  | refine L_par ?_
  | refine L_par3 ?_
  | refine L_vs2 ?_
  | refine L_vs3 ?_
  | refine L_aug rfl ?_
  | refine L_ipI ?_
  | refine L_retN ?_
  | refine L_brk ?_
  | refine L_cont ?_
  | refine L_tru ?_
  | refine L_truB ?_
  | refine L_truI ?_
  | refine L_abs ?_
  | refine L_max2 ?_
  | refine L_min2 ?_
  | refine L_int1 ?_
  | refine L_int1B ?_
  | refine L_for ?_
  | refine L_iRng1 ?_
  | refine L_iRng2 ?_
  | refine L_iList ?_
  | refine L_iTup ?_
  | refine L_yes ?_
  | refine L_iZip ?_
  | refine L_iEnum ?_
  | refine L_iStr ?_
  | refine L_iRng3 ?_
  | refine L_lc ?_
  | refine L_make ?_
  | refine L_nnT ?_
  | refine L_nnF ?_
  | refine L_disp1 ?_
  | refine L_rng2 ?_
  | refine L_bm0 ?_
  | refine L_neB ?_
  | refine L_dnew ?_
  | refine L_sl ?_
  | refine L_noPart ?_
  | refine L_part ?_
  | refine L_ki ?_
  | refine L_methE ?_
  | refine L_meth ?_
  | refine L_makeE ?_
  | refine L_gCons ?_
  | refine L_gNil ?_
  | refine L_sub ?_
  | refine L_sFld ?_
  | refine L_din ?_
  | refine L_dnin ?_
  | refine L_dget ?_
  | refine L_dput ?_)
local macro_rules | `(tactic| walk_at "st") => `(tactic| first | walk_at "st1" | walk_at "op" | with_reducible refine L_ifE ?_)
local macro_rules | `(tactic| walk_at "stn") => `(tactic| repeat first | walk_at "st1" | walk_at "op")
local macro_rules | `(tactic| walk_at "sts") => `(tactic| repeat walk_at "st")
/-! the same, and what is shown by itself: sizes, bounds, what stands in the heap -/
local macro_rules | `(tactic| walk_at "bd") => `(tactic| first | exact bd_mod (by decide) | exact bd_64 (by decide) | exact bd_64 (by omega))
local macro_rules | `(tactic| walk_at "sa1") => `(tactic| first
  | walk_at "st"
  | (with_reducible refine G_mod ?_; with_reducible refine L_I (show _ < _ by first | decide | omega) ?_)
  | (with_reducible refine G_mul ?_; with_reducible refine L_mulI (Bd.cmul (n := 64) (m := 64) (by walk_at "bd") (by walk_at "bd")) ?_)
  | (with_reducible refine G_div ?_; with_reducible refine L_I (cdiv_lit (by first | decide | omega)) ?_)
  | (with_reducible refine G_pow ?_; with_reducible first
    | refine L_powE (i := 10) (j := 9) (n := 1000000000) (cpow_lit (by decide)) (by decide) ?_
    | refine L_powE (i := 10) (j := 6) (n := 1000000) (cpow_lit (by decide)) (by decide) ?_
    | refine L_powE (i := 10) (j := 10) (n := 10000000000) (cpow_lit (by decide)) (by decide) ?_
    | refine L_powE (i := 10) (j := 12) (n := 1000000000000) (cpow_lit (by decide)) (by decide) ?_
    | refine L_powE (i := 10) (j := 13) (n := 10000000000000) (cpow_lit (by decide)) (by decide) ?_
    | refine L_powE (i := 10) (j := 20) (n := 100000000000000000000) (cpow_lit (by decide)) (by decide) ?_
    | refine L_powE (i := 10) (j := 29) (n := 100000000000000000000000000000) (cpow_lit (by decide)) (by decide) ?_
    | refine L_powE (i := 10) (j := 30) (n := 1000000000000000000000000000000) (cpow_lit (by decide)) (by decide) ?_
    | refine L_powE (i := 10) (j := 39) (n := 1000000000000000000000000000000000000000) (cpow_lit (by decide)) (by decide) ?_
    | refine L_powE (i := 10) (j := 40) (n := 10000000000000000000000000000000000000000) (cpow_lit (by decide)) (by decide) ?_
    | refine L_powE (i := 10) (j := 60) (n := 1000000000000000000000000000000000000000000000000000000000000) (cpow_lit (by decide)) (by decide) ?_
    | refine L_powE (i := 2) (j := 3) (n := 8) (cpow_lit (by decide)) (by decide) ?_
    | refine L_powE (i := 2) (j := 40) (n := 1099511627776) (cpow_lit (by decide)) (by decide) ?_)
  | (with_reducible refine G_ix ?_; with_reducible first | refine L_ixT (by walk_at "hpT") (by with_unfolding_all rfl) ?_ | refine L_ixL (by walk_at "hpL") (by with_unfolding_all rfl) ?_)
  | (with_reducible refine G_len ?_; with_reducible first | refine L_lenL (by walk_at "hpL") ?_ | refine L_lenT (by walk_at "hpT") ?_)
  | walk_at "fd"
  | (with_reducible refine G_meth ?_; with_reducible refine L_methv (by walk_at "hp") (by with_unfolding_all rfl) ?_)
  | (with_reducible refine G_isi ?_; with_reducible first | refine L_isi (.base (.int _)) (b := true) (by decide +kernel) ?_ | refine L_isi (.base (.int _)) (b := false) (by decide +kernel) ?_)
  | (with_reducible refine G_d ?_; with_reducible first | refine L_dT (by first | assumption | omega) ?_ | refine L_dF (by first | assumption | omega) ?_)
  | (with_reducible refine G_nd ?_; with_reducible first | refine L_ndT (by first | assumption | omega) ?_ | refine L_ndF (by first | assumption | omega) ?_))
local macro_rules | `(tactic| walk_at "sa") => `(tactic| repeat walk_at "sa1")
/-! what stood stands -/
local macro_rules | `(tactic| walk_at "sm") => `(tactic| first
  | assumption
  | exact Same.refl _
  | (with_reducible apply same_upd'; assumption; walk_at "sm")
  | (with_reducible apply same_mut'; assumption; walk_at "sm")
  | (with_reducible apply same_via; assumption; walk_at "sm"))
/-! a new list or tuple: its place p, hp : H p = none, the heap behind it Hn, that all stands, what stands at p -/
local macro_rules | `(tactic| walk_at "nw") => `(tactic| (
  (refine L_new (by first | decide | exact sz_dec (by simp)) ?_)
  (intro p hp)
  (generalize hg : upd _ p _ = Hn)
  (have sn := same_newE hg hp)
  (have en := upd_at hg)
  (clear hg)))
/-! plain things as data -/
local macro_rules | `(tactic| walk_at "dpa") => `(tactic| first
  | exact .nil
  | (refine .cons (by first | exact .int _ | exact .str _ | exact .bl _ | exact .non | assumption) ?_; walk_at "dpa"))
local macro_rules | `(tactic| walk_at "nwp") => `(tactic| (
  (intro p hp)
  (generalize hg : upd _ p _ = Hn)
  (have sn := same_newE hg hp)
  (have en := upd_at hg)
  (clear hg)))

def top (i : Nat) : Stmt := PySem.Challenge.pw_fewspeak_k79_whole_stretches_of_means.main.body.getD i (.Pass ⟨0, 0, 0, 0⟩)
abbrev s_divisor : Stmt := top 4
abbrev s_share : Stmt := top 5
abbrev s_below : Stmt := top 6
abbrev s__law_cell : Stmt := top 19
abbrev s__law_mix : Stmt := top 20
abbrev s__law_row : Stmt := top 21
abbrev s__law_whole : Stmt := top 22
abbrev s_is_whole : Stmt := top 8
abbrev s_greatest_mean : Stmt := top 15
abbrev s__law_low : Stmt := top 23
abbrev s_is_answer : Stmt := top 13
abbrev s_look : Stmt := top 14
abbrev s_filled : Stmt := top 16
abbrev s_mean_stretch : Stmt := top 17
abbrev s__law_answers : Stmt := top 24
abbrev s__law_fraction : Stmt := top 26
abbrev s__law_filling : Stmt := top 25
abbrev s__law_none_above : Stmt := top 27
abbrev s_law : Stmt := top 28
theorem sc_divisor : FnScope ["one", "other"] ["one", "other"] (defScope s_divisor) := ⟨rfl, rfl, rfl, by decide +kernel, rfl, by decide +kernel, by decide +kernel⟩
theorem sc_share : FnScope ["top", "bottom", "many"] ["top", "bottom"] (defScope s_share) := ⟨rfl, rfl, rfl, by decide +kernel, rfl, by decide +kernel, by decide +kernel⟩
theorem sc_below : FnScope ["one", "other"] ["one", "other"] (defScope s_below) := ⟨rfl, rfl, rfl, by decide +kernel, rfl, by decide +kernel, by decide +kernel⟩
theorem sc__law_cell : FnScope ["_law_script", "_law_k"] ["_law_script", "_law_k"] (defScope s__law_cell) := ⟨rfl, rfl, rfl, by decide +kernel, rfl, by decide +kernel, by decide +kernel⟩
theorem sc__law_mix : FnScope ["_law_cell_here", "_law_k", "_law_number"] ["_law_cell_here", "_law_k"] (defScope s__law_mix) := ⟨rfl, rfl, rfl, by decide +kernel, rfl, by decide +kernel, by decide +kernel⟩
theorem sc__law_row : FnScope ["_law_cell_here", "_law_bit", "_law_many", "_law_most", "_law_row_here", "_law_k"] ["_law_cell_here", "_law_bit", "_law_many", "_law_most"] (defScope s__law_row) := ⟨rfl, rfl, rfl, by decide +kernel, rfl, by decide +kernel, by decide +kernel⟩
theorem sc__law_whole : FnScope ["_law_found"] ["_law_found"] (defScope s__law_whole) := ⟨rfl, rfl, rfl, by decide +kernel, rfl, by decide +kernel, by decide +kernel⟩
theorem sc_is_whole : FnScope ["thing", "low", "high"] ["thing", "low", "high"] (defScope s_is_whole) := ⟨rfl, rfl, rfl, by decide +kernel, rfl, by decide +kernel, by decide +kernel⟩
theorem sc_greatest_mean : FnScope ["rows", "weight", "value", "word", "counted", "top", "bottom", "at", "falling", "less", "row"] ["rows"] (defScope s_greatest_mean) := ⟨rfl, rfl, rfl, by decide +kernel, rfl, by decide +kernel, by decide +kernel⟩
theorem sc__law_low : FnScope ["_law_top", "_law_bottom", "_law_one", "_law_other"] ["_law_top", "_law_bottom"] (defScope s__law_low) := ⟨rfl, rfl, rfl, by decide +kernel, rfl, by decide +kernel, by decide +kernel⟩
theorem sc_is_answer : FnScope ["thing", "many"] ["thing", "many"] (defScope s_is_answer) := ⟨rfl, rfl, rfl, by decide +kernel, rfl, by decide +kernel, by decide +kernel⟩
theorem sc_look : FnScope ["answers", "many", "answer"] ["answers", "many"] (defScope s_look) := ⟨rfl, rfl, rfl, by decide +kernel, rfl, by decide +kernel, by decide +kernel⟩
theorem sc_filled : FnScope ["answers", "counted", "place", "answer", "counts"] ["answers", "counted", "place"] (defScope s_filled) := ⟨rfl, rfl, rfl, by decide +kernel, rfl, by decide +kernel, by decide +kernel⟩
theorem sc_mean_stretch : FnScope ["answers", "answer", "most", "least", "top", "bottom", "weight", "low", "high", "word"] ["answers"] (defScope s_mean_stretch) := ⟨rfl, rfl, rfl, by decide +kernel, rfl, by decide +kernel, by decide +kernel⟩
theorem sc__law_answers : FnScope ["_law_script", "_law_many", "_law_bit", "_law_row_here", "_law_heavy", "_law_far", "_law_words", "_law_found", "_law_k", "_law_ends"] ["_law_script"] (defScope s__law_answers) := ⟨rfl, rfl, rfl, by decide +kernel, rfl, by decide +kernel, by decide +kernel⟩
theorem sc__law_fraction : FnScope ["_law_found"] ["_law_found"] (defScope s__law_fraction) := ⟨rfl, rfl, rfl, by decide +kernel, rfl, by decide +kernel, by decide +kernel⟩
theorem sc__law_filling : FnScope ["_law_some", "_law_answers_here", "_law_due", "_law_top", "_law_bottom", "_law_value", "_law_answer"] ["_law_some", "_law_answers_here", "_law_due"] (defScope s__law_filling) := ⟨rfl, rfl, rfl, by decide +kernel, rfl, by decide +kernel, by decide +kernel⟩
theorem sc__law_none_above : FnScope ["_law_answers_here", "_law_mean", "_law_place", "_law_sign", "_law_total", "_law_answer", "_law_more"] ["_law_answers_here", "_law_mean", "_law_place", "_law_sign"] (defScope s__law_none_above) := ⟨rfl, rfl, rfl, by decide +kernel, rfl, by decide +kernel, by decide +kernel⟩
theorem sc_law : FnScope ["_law_script", "_law_answers_here", "_law_handed", "_law_told", "_law_least", "_law_most", "_law_lows", "_law_highs", "_law_kept", "_law_answer"] ["_law_script"] (defScope s_law) := ⟨rfl, rfl, rfl, by decide +kernel, rfl, by decide +kernel, by decide +kernel⟩
/-- what the top has written -/
structure Txt (K : PySem.W.Frag) (mg : Str → Option Value) : Prop where
  n_abs : mg "abs" = none
  n_len : mg "len" = none
  n_range : mg "range" = none
  n_bool : mg "bool" = none
  n_int : mg "int" = none
  n_isinstance : mg "isinstance" = none
  n_enumerate : mg "enumerate" = none
  n_sorted : mg "sorted" = none
  n_sum : mg "sum" = none
  n_tuple : mg "tuple" = none
  g_FAR : ∃ u, mg "FAR" = some u ∧ RelV (.int 1000000000) u
  g_MOST_WEIGHT : ∃ u, mg "MOST_WEIGHT" = some u ∧ RelV (.int 1000000) u
  n_list : mg "list" = none
  g_MOST_ANSWERS : ∃ u, mg "MOST_ANSWERS" = some u ∧ RelV (.int 24) u
  n_zip : mg "zip" = none
  d_divisor : DefAt K mg "divisor" s_divisor ["one", "other"]
  d_share : DefAt K mg "share" s_share ["top", "bottom"]
  d_below : DefAt K mg "below" s_below ["one", "other"]
  d__law_cell : DefAt K mg "_law_cell" s__law_cell ["_law_script", "_law_k"]
  d__law_mix : DefAt K mg "_law_mix" s__law_mix ["_law_cell_here", "_law_k"]
  d__law_row : DefAt K mg "_law_row" s__law_row ["_law_cell_here", "_law_bit", "_law_many", "_law_most"]
  d__law_whole : DefAt K mg "_law_whole" s__law_whole ["_law_found"]
  d_is_whole : DefAt K mg "is_whole" s_is_whole ["thing", "low", "high"]
  d_greatest_mean : DefAt K mg "greatest_mean" s_greatest_mean ["rows"]
  d__law_low : DefAt K mg "_law_low" s__law_low ["_law_top", "_law_bottom"]
  d_is_answer : DefAt K mg "is_answer" s_is_answer ["thing", "many"]
  d_look : DefAt K mg "look" s_look ["answers", "many"]
  d_filled : DefAt K mg "filled" s_filled ["answers", "counted", "place"]
  d_mean_stretch : DefAt K mg "mean_stretch" s_mean_stretch ["answers"]
  d__law_answers : DefAt K mg "_law_answers" s__law_answers ["_law_script"]
  d__law_fraction : DefAt K mg "_law_fraction" s__law_fraction ["_law_found"]
  d__law_filling : DefAt K mg "_law_filling" s__law_filling ["_law_some", "_law_answers_here", "_law_due"]
  d__law_none_above : DefAt K mg "_law_none_above" s__law_none_above ["_law_answers_here", "_law_mean", "_law_place", "_law_sign"]
  d_law : DefAt K mg "law" s_law ["_law_script"]
section
variable {P : Program} {w : World} {K : PySem.W.Frag} {mg : Str → Option Value} {base : Heap}
def gc (a b : Int) : Int := (Int.gcd a b : Nat)
theorem gc_step {a b : Int} (h : 0 < b) : gc b (a % b) = gc a b := by
  have e : Int.gcd (a % b) b = Int.gcd a b := by
    refine Int.gcd_left_eq_iff.mpr fun c hc => ?_
    have d : c ∣ b * (a / b) := Int.dvd_trans hc (Int.dvd_mul_right b (a / b))
    have e2 : a % b + b * (a / b) = a := Int.emod_add_mul_ediv a b
    constructor
    · intro h; rw [← e2]; exact Int.dvd_add h d
    · intro h
      have : a % b = a - b * (a / b) := by omega
      rw [this]; exact Int.dvd_sub h d
  unfold gc
  rw [Int.gcd_comm, e]
theorem gc_zero {a : Int} : (if a < 0 then -a else a) = gc a 0 := by
  unfold gc
  rw [Int.gcd_zero_right]
  omega
theorem gc_pos {a b : Int} (h : 0 < b) : 0 < gc a b := by
  unfold gc
  have : 0 < Int.gcd a b := Int.gcd_pos_of_ne_zero_right a (by omega)
  omega
theorem gc_le {a b : Int} (h : 0 < b) : gc a b ≤ b := Int.gcd_le_right a h
theorem gc_dl {a b : Int} : gc a b ∣ a := Int.gcd_dvd_left ..
theorem gc_dr {a b : Int} : gc a b ∣ b := Int.gcd_dvd_right ..
/-- lowest terms, for a bottom from 1 on -/
def low (t b : Int) : Int × Int := (t / gc t b, b / gc t b)
theorem low_pos {t b : Int} (h : 0 < b) : 1 ≤ (low t b).2 := by
  have g := gc_pos (a := t) h
  have := Int.ediv_pos_of_pos_of_dvd h (Int.le_of_lt g) (gc_dr (a := t) (b := b))
  show 1 ≤ b / gc t b
  omega
theorem low_gc {t b : Int} (h : 0 < b) : gc (low t b).1 (low t b).2 = 1 := by
  have g := gc_pos (a := t) h
  unfold low gc
  have hh : 0 < Int.gcd t b := Int.gcd_pos_of_ne_zero_right t (by omega)
  have := Int.gcd_ediv_gcd_ediv_gcd (i := t) (j := b) hh
  show ((Int.gcd (t / (Int.gcd t b : Nat)) (b / (Int.gcd t b : Nat)) : Nat) : Int) = 1
  rw [this]; rfl
theorem low_eq {t b : Int} (h : 0 < b) : (low t b).1 * b = t * (low t b).2 := by
  have g := gc_pos (a := t) h
  obtain ⟨u, hu⟩ := gc_dl (a := t) (b := b)
  obtain ⟨v, hv⟩ := gc_dr (a := t) (b := b)
  have e1 : t / gc t b = u := Int.ediv_eq_of_eq_mul_right (by omega) hu
  have e2 : b / gc t b = v := Int.ediv_eq_of_eq_mul_right (by omega) hv
  show t / gc t b * b = t * (b / gc t b)
  rw [e1, e2]
  calc u * b = u * (gc t b * v) := by rw [← hv]
    _ = (gc t b * u) * v := by rw [← Int.mul_assoc, Int.mul_comm u]
    _ = t * v := by rw [← hu]
theorem low_bd {n : Nat} {t b : Int} (h : 0 < b) (ht : Bd n t) (hb : Bd n b) : Bd n (low t b).1 ∧ Bd n (low t b).2 := by
  have g := gc_pos (a := t) h
  constructor
  · exact Nat.lt_of_le_of_lt (Int.natAbs_ediv_le_natAbs t _) ht
  · exact Nat.lt_of_le_of_lt (Int.natAbs_ediv_le_natAbs b _) hb
/-- what share tells -/
def shr (t b : Int) : Int × Int := if b < 0 then low (0 - t) (0 - b) else low t b
theorem shr_ok {t b : Int} (h : b ≠ 0) : 1 ≤ (shr t b).2 ∧ gc (shr t b).1 (shr t b).2 = 1 ∧ (shr t b).1 * b = t * (shr t b).2 := by
  unfold shr
  split
  · have hb : 0 < 0 - b := by omega
    refine ⟨low_pos hb, low_gc hb, ?_⟩
    have e := low_eq (t := 0 - t) hb
    rw [Int.mul_sub, Int.mul_zero, Int.sub_mul, Int.zero_mul] at e
    omega
  · have hb : 0 < b := by omega
    exact ⟨low_pos hb, low_gc hb, low_eq hb⟩
theorem shr_bd {n : Nat} {t b : Int} (h : b ≠ 0) (ht : Bd n t) (hb : Bd n b) : Bd n (shr t b).1 ∧ Bd n (shr t b).2 := by
  have e : ∀ z : Int, 0 - z = -z := fun z => by omega
  unfold shr
  split
  · rw [e, e]; exact low_bd (by omega) ht.neg hb.neg
  · exact low_bd (by omega) ht hb
theorem across {p q t b x y : Int} (hb : b ≠ 0) (e : p * b = t * q) (d : t * y = x * b) : p * y = x * q := by
  refine Int.eq_of_mul_eq_mul_right hb ?_
  calc p * y * b = (p * b) * y := by rw [Int.mul_assoc, Int.mul_comm y b, Int.mul_assoc]
    _ = (t * y) * q := by rw [e, Int.mul_assoc, Int.mul_comm q y, ← Int.mul_assoc]
    _ = x * q * b := by rw [d, Int.mul_assoc, Int.mul_comm b q, ← Int.mul_assoc]
def sp_divisor (K : PySem.W.Frag) (mg : Str → Option Value) : Sp := fun vs H Q _ => match vs with | [.int a, .int b] => 0 ≤ b ∧ Q (.int (gc a b)) H | _ => False
theorem q_divisor {H : Hp} {Q : VK} {E : XK} {a : Int} {b : Int} (q : 0 ≤ b ∧ Q (.int (gc a b)) H) : sp_divisor K mg [.int a, .int b] H Q E := q
local macro_rules | `(tactic| walk_at "op") => `(tactic| with_reducible refine q_divisor ?_)
theorem c_divisor (T : Txt K mg) : Cal P w K mg base 1 "divisor" (sp_divisor K mg) := by
  refine T.d_divisor.cal (k := 0) sc_divisor (by intro vs H Q E h; unfold sp_divisor at h; split at h <;> first | rfl | exact h.elim) fun f cdv A outer s H vs Q E hr h => ?_
  refine ⟨_, (pss_cons (ps_while PassesOwn.never (pt_cmpR (op_neA hr) (pv 1) pe_int (nomark _))
    (pss_one (ps_par (i := 0) (j := 1) rfl sc_divisor.nd rfl rfl (by decide) rfl rfl (pa_cons (pv 1) (pa_cons (pe_op op_mod (pv 0) (pv 1)) pa_nil)) (by rfl))))
    (pss_one (ps_ret (pe_callB call_absA (by rfl) T.n_abs (by decide +kernel) (pa_cons (pv 0) pa_nil))))), ?_⟩
  try simp only [cxOf_K, cxOf_K', cxOf_mg, cxOf_mg']
  unfold sp_divisor at h
  split at h
  case h_2 => exact h.elim
  rename_i a b
  rw [show L2.start ["one", "other"] [V.int a, V.int b] = [some (V.int a), some (V.int b)] from rfl]
  obtain ⟨hb, q⟩ := h
  walk_at "sts"
  refine L_while (fun m σ' H' => ∃ x y : Int, σ' = [some (.int x), some (.int y)] ∧ 0 ≤ y ∧ gc x y = gc a b ∧ m = y.toNat ∧ H' = H) ⟨_, a, b, rfl, hb, rfl, rfl, rfl⟩ ?_
  rintro m σ' H' ⟨x, y, rfl, hy, e, rfl, rfl⟩
  walk_at "sts"
  refine L_nd (fun c => ?_) (fun c => ?_)
  · refine L_N ?_
    walk_at "sts"
    refine L_I (by omega) ?_
    walk_at "sts"
    have h1 := Int.emod_nonneg x c
    have h2 := Int.emod_lt_of_pos x (show 0 < y by omega)
    exact ⟨(x % y).toNat, by omega, y, x % y, rfl, h1, (gc_step (by omega)).trans e, rfl, rfl⟩
  · subst c
    walk_at "sts"
    rw [gc_zero, e]
    exact q
def sp_share (K : PySem.W.Frag) (mg : Str → Option Value) : Sp := fun vs H Q _ => match vs with | [.int t, .int b] => b ≠ 0 ∧ Bd 2000 b ∧ NewT H [.int (shr t b).1, .int (shr t b).2] Q | _ => False
theorem q_share {H : Hp} {Q : VK} {E : XK} {t : Int} {b : Int} (q : b ≠ 0 ∧ Bd 2000 b ∧ NewT H [.int (shr t b).1, .int (shr t b).2] Q) : sp_share K mg [.int t, .int b] H Q E := q
local macro_rules | `(tactic| walk_at "op") => `(tactic| with_reducible refine q_share ?_)
theorem c_share (T : Txt K mg) : Cal P w K mg base 2 "share" (sp_share K mg) := by
  refine T.d_share.cal (k := 1) sc_share (by intro vs H Q E h; unfold sp_share at h; split at h <;> first | rfl | exact h.elim) fun f cdv A outer s H vs Q E hr h => ?_
  refine ⟨_, (pss_cons (ps_if (pt_cmpR op_ltA (pv 1) pe_int (nomark _))
    (pss_one (ps_par (i := 0) (j := 1) rfl sc_share.nd rfl rfl (by decide) rfl rfl (pa_cons (pe_op op_sub pe_int (pv 0)) (pa_cons (pe_op op_sub pe_int (pv 1)) pa_nil)) (by rfl)))
    pss_nil)
    (pss_cons (ps_set (i := 2) sc_share.nd rfl (.inl rfl) (pe_c (c_divisor T) hr (by decide) (by rfl) (pa_cons (pv 0) (pa_cons (pv 1) pa_nil))))
    (pss_one (ps_ret (pe_tup (pa_cons (pe_op op_fdivW (pv 0) (pv 2)) (pa_cons (pe_op op_fdivW (pv 1) (pv 2)) pa_nil))))))), ?_⟩
  try simp only [cxOf_K, cxOf_K', cxOf_mg, cxOf_mg']
  unfold sp_share at h
  split at h
  case h_2 => exact h.elim
  rename_i t b
  rw [show L2.start ["top", "bottom", "many"] [V.int t, V.int b] = [some (V.int t), some (V.int b), none] from rfl]
  obtain ⟨hb, hd, q⟩ := h
  have key : ∀ t' b' : Int, 0 < b' → Bd 2000 b' → low t' b' = shr t b → t / 1 = t → CDivW t' (gc t' b') := fun t' b' h0 h1 _ _ => by
    have g := gc_pos (a := t') h0
    have l := gc_le (a := t') h0
    refine Bd.cdiv (n := 2000) ?_ g
    unfold Bd at *
    omega
  walk_at "sts"
  refine L_d (fun c => ?_) (fun c => ?_)
  · walk_at "sts"
    have e : shr t b = low (0 - t) (0 - b) := if_pos c
    have hd' : Bd 2000 (0 - b) := by unfold Bd at *; omega
    refine ⟨by omega, ?_⟩
    walk_at "sts"
    refine L_I (key _ _ (by omega) hd' e.symm (by simp)) ?_
    walk_at "sts"
    refine L_I (key (0 - t) _ (by omega) hd' e.symm (by simp)) ?_
    walk_at "sts"
    rw [e] at q
    exact L_new (sz_dec (by show 2 ≤ 1000000; decide)) q.at
  · walk_at "sts"
    have e : shr t b = low t b := if_neg c
    refine ⟨by omega, ?_⟩
    walk_at "sts"
    refine L_I (key _ _ (by omega) hd e.symm (by simp)) ?_
    walk_at "sts"
    refine L_I (key t _ (by omega) hd e.symm (by simp)) ?_
    walk_at "sts"
    rw [e] at q
    exact L_new (sz_dec (by show 2 ≤ 1000000; decide)) q.at
/-- a fraction at a -/
def Fr2 (K : PySem.W.Frag) (H : Hp) (a : Addr) (x y : Int) : Prop := SqT K H a [.int x, .int y] ∧ 1 ≤ y ∧ Bd 210 x ∧ Bd 210 y
def sp_below (K : PySem.W.Frag) (mg : Str → Option Value) : Sp := fun vs H Q _ => match vs with | [.ref a, .ref b] => ∃ x y u v, Fr2 K H a x y ∧ Fr2 K H b u v ∧ Q (.bl (decide (x * v < u * y))) H | _ => False
theorem q_below {H : Hp} {Q : VK} {E : XK} {a : Addr} {b : Addr} (q : ∃ x y u v, Fr2 K H a x y ∧ Fr2 K H b u v ∧ Q (.bl (decide (x * v < u * y))) H) : sp_below K mg [.ref a, .ref b] H Q E := q
local macro_rules | `(tactic| walk_at "op") => `(tactic| with_reducible refine q_below ?_)
theorem c_below (T : Txt K mg) : Cal P w K mg base 1 "below" (sp_below K mg) := by
  refine T.d_below.cal (k := 0) sc_below (by intro vs H Q E h; unfold sp_below at h; split at h <;> first | rfl | exact h.elim) fun f cdv A outer s H vs Q E hr h => ?_
  refine ⟨_, (pss_one (ps_ret (pe_cmpR op_ltA (pe_op op_mulA (pe_ix ix_seq (pv 0) pe_int (fun _ _ => rfl)) (pe_ix ix_seq (pv 1) pe_int (fun _ _ => rfl))) (pe_op op_mulA (pe_ix ix_seq (pv 1) pe_int (fun _ _ => rfl)) (pe_ix ix_seq (pv 0) pe_int (fun _ _ => rfl))) (nomark _)))), ?_⟩
  try simp only [cxOf_K, cxOf_K', cxOf_mg, cxOf_mg']
  unfold sp_below at h
  split at h
  case h_2 => exact h.elim
  rename_i a b
  rw [show L2.start ["one", "other"] [V.ref a, V.ref b] = [some (V.ref a), some (V.ref b)] from rfl]
  obtain ⟨x, y, u, v, ⟨ha, h1, bx, by_⟩, ⟨hb, h2, bu, bv⟩, q⟩ := h
  walk_at "sts"
  refine L_ixT ha rfl ?_
  walk_at "sts"
  refine L_ixT hb rfl ?_
  refine L_mulI (bx.cmul bv) ?_
  walk_at "sts"
  refine L_ixT hb rfl ?_
  walk_at "sts"
  refine L_ixT ha rfl ?_
  refine L_mulI (bu.cmul by_) ?_
  walk_at "sts"
  exact q
/-! the greatest mean: weight, value, word -/
abbrev Rv := Int × Int × Str
def isY (r : Rv) : Bool := decide (r.2.2 = ("yes" : Str))
def isO (r : Rv) : Bool := decide (r.2.2 = ("open" : Str))
def OkV (r : Rv) : Prop := 1 ≤ r.1 ∧ r.1 ≤ 1000000 ∧ -1000000000 ≤ r.2.1 ∧ r.2.1 ≤ 1000000000 ∧ (r.2.2 = ("yes" : Str) ∨ r.2.2 = ("no" : Str) ∨ r.2.2 = ("open" : Str))
theorem yes_no : ¬ ("yes" : Str) = ("no" : Str) := by decide +kernel
theorem yes_open : ¬ ("yes" : Str) = ("open" : Str) := by decide +kernel
theorem no_yes : ¬ ("no" : Str) = ("yes" : Str) := by decide +kernel
theorem no_open : ¬ ("no" : Str) = ("open" : Str) := by decide +kernel
theorem open_yes : ¬ ("open" : Str) = ("yes" : Str) := by decide +kernel
theorem open_no : ¬ ("open" : Str) = ("no" : Str) := by decide +kernel
def le2 (a b : Int × Int) : Bool := decide (a.1 < b.1) || (decide (a.1 = b.1) && decide (a.2 ≤ b.2))
def opens (rows : List Rv) : List (Int × Int) := (List.range rows.length).filterMap fun (i : Nat) => (rows[i]?).bind fun r => if isO r = true then some (0 - r.2.1, (i : Int)) else none
def srt (l : List (Int × Int)) : List (Int × Int) := l.mergeSort le2
/-- top, bottom, who counts -/
abbrev Sm := Int × Int × List Bool
def stp (rows : List Rv) (s : Sm) (p : Int × Int) : Sm := match rows[p.2.toNat]? with
  | some r => if s.2.1 = 0 ∨ s.1 < r.2.1 * s.2.1 then (s.1 + r.1 * r.2.1, s.2.1 + r.1, s.2.2.set p.2.toNat true) else s
  | none => s
def st0 (rows : List Rv) : Sm := (((rows.filter isY).map fun r => r.1 * r.2.1).sum, ((rows.filter isY).map (·.1)).sum, rows.map isY)
def gm (rows : List Rv) : Sm := (srt (opens rows)).foldl (stp rows) (st0 rows)
def zs (f : Rv → Int) (rows : List Rv) (c : List Bool) : Int := ((rows.zip c).map fun z => if z.2 = true then f z.1 else 0).sum
theorem zs_set (f : Rv → Int) : ∀ (rows : List Rv) (c : List Bool) (i : Nat) (r : Rv), rows[i]? = some r → c[i]? = some false → zs f rows (c.set i true) = zs f rows c + f r
  | [], _, i, r, h, _ => by simp at h
  | _ :: _, [], i, r, _, h => by simp at h
  | x :: rows, b :: c, 0, r, h1, h2 => by
    simp at h1 h2
    subst h1 h2
    unfold zs
    simp
    omega
  | x :: rows, b :: c, i + 1, r, h1, h2 => by
    have ih := zs_set f rows c i r (by simpa using h1) (by simpa using h2)
    unfold zs at *
    rw [List.set_cons_succ, List.zip_cons_cons, List.zip_cons_cons, List.map_cons, List.map_cons, List.sum_cons, List.sum_cons, ih]
    omega
theorem zs_0 (f : Rv → Int) : ∀ rows : List Rv, zs f rows (rows.map isY) = ((rows.filter isY).map f).sum
  | [] => rfl
  | x :: rows => by
    have ih := zs_0 f rows
    unfold zs at *
    rw [List.map_cons, List.zip_cons_cons, List.map_cons, List.sum_cons, ih, List.filter_cons]
    cases h : isY x <;> simp
theorem zs_nn (f : Rv → Int) : ∀ (rows : List Rv) (c : List Bool), (∀ r ∈ rows, 0 ≤ f r) → 0 ≤ zs f rows c
  | [], _, _ => by simp [zs]
  | _ :: _, [], _ => by simp [zs]
  | x :: rows, b :: c, h => by
    have ih := zs_nn f rows c fun r hr => h r (List.mem_cons_of_mem _ hr)
    have h1 := h x (List.mem_cons_self ..)
    unfold zs at *
    rw [List.zip_cons_cons, List.map_cons, List.sum_cons]
    dsimp only
    split <;> omega
theorem zs_ge (f : Rv → Int) : ∀ (rows : List Rv) (c : List Bool) (i : Nat) (r : Rv), (∀ r ∈ rows, 0 ≤ f r) → rows[i]? = some r → c[i]? = some true → f r ≤ zs f rows c
  | [], _, i, r, _, h, _ => by simp at h
  | _ :: _, [], i, r, _, _, h => by simp at h
  | x :: rows, b :: c, 0, r, h, h1, h2 => by
    simp at h1 h2
    subst h1 h2
    have := zs_nn f rows c fun r hr => h r (List.mem_cons_of_mem _ hr)
    unfold zs at *
    simp
    omega
  | x :: rows, b :: c, i + 1, r, h, h1, h2 => by
    have ih := zs_ge f rows c i r (fun r hr => h r (List.mem_cons_of_mem _ hr)) (by simpa using h1) (by simpa using h2)
    have h3 := h x (List.mem_cons_self ..)
    unfold zs at *
    rw [List.zip_cons_cons, List.map_cons, List.sum_cons]
    dsimp only
    split <;> omega
/-- so far as the opens D are looked at -/
structure GI (rows : List Rv) (D : List (Int × Int)) (s : Sm) : Prop where
  len : s.2.2.length = rows.length
  t : s.1 = zs (fun r => r.1 * r.2.1) rows s.2.2
  b : s.2.1 = zs (fun r => r.1) rows s.2.2
  yes : ∀ (i : Nat) r, rows[i]? = some r → r.2.2 = ("yes" : Str) → s.2.2[i]? = some true
  no : ∀ (i : Nat) r, rows[i]? = some r → r.2.2 = ("no" : Str) → s.2.2[i]? = some false
  up : ∀ (i : Nat) r, rows[i]? = some r → r.2.2 = ("open" : Str) → s.2.2[i]? = some true → s.1 ≤ r.2.1 * s.2.1
  dn : ∀ (i : Nat) r, rows[i]? = some r → (∃ p ∈ D, p.2 = (i : Int)) → s.2.2[i]? = some false → r.2.1 * s.2.1 ≤ s.1
  un : ∀ (i : Nat) r, rows[i]? = some r → r.2.2 = ("open" : Str) → (∀ p ∈ D, p.2 ≠ (i : Int)) → s.2.2[i]? = some false
  pos : D ≠ [] → 0 < s.2.1
theorem gi0 {rows : List Rv} (ok : ∀ r ∈ rows, OkV r) : GI rows [] (st0 rows) where
  len := List.length_map ..
  t := (zs_0 _ rows).symm
  b := (zs_0 _ rows).symm
  yes := fun i r h e => by
    show (rows.map isY)[i]? = _
    rw [List.getElem?_map, h]
    show some (isY r) = _
    unfold isY
    rw [decide_eq_true e]
  no := fun i r h e => by
    show (rows.map isY)[i]? = _
    rw [List.getElem?_map, h]
    show some (isY r) = _
    unfold isY
    rw [e, decide_eq_false no_yes]
  up := fun i r h e c => by
    have : (rows.map isY)[i]? = some true := c
    rw [List.getElem?_map, h] at this
    have : some (isY r) = some true := this
    unfold isY at this
    rw [e, decide_eq_false open_yes] at this
    cases this
  dn := fun i r _ ⟨p, hp, _⟩ => nomatch hp
  un := fun i r h e _ => by
    show (rows.map isY)[i]? = _
    rw [List.getElem?_map, h]
    show some (isY r) = _
    unfold isY
    rw [e, decide_eq_false open_yes]
  pos := fun h => absurd rfl h
theorem GI.step {rows : List Rv} (ok : ∀ r ∈ rows, OkV r) {D : List (Int × Int)} {s : Sm} (g : GI rows D s) {i : Nat} {r : Rv} (hr : rows[i]? = some r) (ho : r.2.2 = ("open" : Str)) (hn : ∀ p ∈ D, p.2 ≠ (i : Int)) (hs : ∀ (j : Nat) r', rows[j]? = some r' → (∃ p ∈ D, p.2 = (j : Int)) → r.2.1 ≤ r'.2.1) (hD : ∀ (j : Nat) r', rows[j]? = some r' → s.2.2[j]? = some true → r'.2.2 = ("open" : Str) → ∃ p ∈ D, p.2 = (j : Int)) :
    GI rows (D ++ [(0 - r.2.1, (i : Int))]) (stp rows s (0 - r.2.1, (i : Int))) := by
  obtain ⟨o1, o2, o3, o4, _⟩ := ok r (List.mem_of_getElem? hr)
  have hf := g.un i r hr ho hn
  have hb0 : 0 ≤ s.2.1 := by rw [g.b]; exact zs_nn _ _ _ fun r' h' => by have := (ok r' h').1; omega
  have hlen := (List.getElem?_eq_some_iff.mp hf).1
  have mem : ∀ (j : Nat), (∃ p ∈ D ++ [(0 - r.2.1, (i : Int))], p.2 = (j : Int)) ↔ (∃ p ∈ D, p.2 = (j : Int)) ∨ j = i := fun j => by
    constructor
    · rintro ⟨p, hp, e⟩
      rcases List.mem_append.mp hp with hp | hp
      · exact .inl ⟨p, hp, e⟩
      · rw [List.mem_singleton.mp hp] at e
        exact .inr (by have : (i : Int) = (j : Int) := e; omega)
    · rintro (⟨p, hp, e⟩ | rfl)
      · exact ⟨p, List.mem_append_left _ hp, e⟩
      · exact ⟨_, List.mem_append_right _ (List.mem_singleton.mpr rfl), rfl⟩
  unfold stp
  rw [show ((0 - r.2.1, (i : Int)) : Int × Int).2.toNat = i from rfl, hr]
  dsimp only
  by_cases hc : s.2.1 = 0 ∨ s.1 < r.2.1 * s.2.1
  · rw [if_pos hc]
    have gd : ∀ j : Nat, j ≠ i → (s.2.2.set i true)[j]? = s.2.2[j]? := fun j hj => List.getElem?_set_ne (Ne.symm hj)
    have gi : (s.2.2.set i true)[i]? = some true := List.getElem?_set_self hlen
    have ne : ∀ (j : Nat) r', rows[j]? = some r' → r'.2.2 ≠ ("open" : Str) → j ≠ i := fun j r' h' e z => by
      rw [z, hr] at h'
      cases h'
      exact e ho
    have hD0 : s.2.1 = 0 → D = [] := fun h => by
      cases D with
      | nil => rfl
      | cons p D => have := g.pos (by simp); omega
    refine ⟨by rw [List.length_set]; exact g.len, ?_, ?_, ?_, ?_, ?_, ?_, ?_, fun _ => by show 0 < s.2.1 + r.1; omega⟩
    · show s.1 + r.1 * r.2.1 = _
      rw [zs_set _ _ _ _ _ hr hf, g.t]
    · show s.2.1 + r.1 = _
      rw [zs_set _ _ _ _ _ hr hf, g.b]
    · intro j r' h' e
      show (s.2.2.set i true)[j]? = _
      rw [gd j (ne j r' h' (by rw [e]; exact yes_open))]
      exact g.yes j r' h' e
    · intro j r' h' e
      show (s.2.2.set i true)[j]? = _
      rw [gd j (ne j r' h' (by rw [e]; exact no_open))]
      exact g.no j r' h' e
    · intro j r' h' e c
      show s.1 + r.1 * r.2.1 ≤ r'.2.1 * (s.2.1 + r.1)
      have c : (s.2.2.set i true)[j]? = some true := c
      by_cases hj : j = i
      · subst hj
        rw [hr] at h'
        cases h'
        rcases hc with hc | hc
        · have hD1 := hD0 hc
          have : s.1 = 0 := by
            have h2 : ∀ (j : Nat), s.2.2[j]? ≠ some true := fun j hj => by
              cases hrj : rows[j]? with
              | none =>
                have := List.getElem?_eq_none_iff.mp hrj
                have := (List.getElem?_eq_some_iff.mp hj).1
                have := g.len
                omega
              | some rj =>
                have h3 := zs_ge (fun r => r.1) rows s.2.2 j rj (fun r' h' => by have := (ok r' h').1; omega) hrj hj
                have h4 := (ok rj (List.mem_of_getElem? hrj)).1
                have h5 := g.b
                have h3 : rj.1 ≤ zs (fun r => r.1) rows s.2.2 := h3
                omega
            rw [g.t]
            have h3 : ∀ (rows : List Rv) (c : List Bool), (∀ j : Nat, c[j]? ≠ some true) → zs (fun r => r.1 * r.2.1) rows c = 0 := fun rows => by
              induction rows with
              | nil => intro c _; simp [zs]
              | cons x rows ih =>
                intro c hc
                cases c with
                | nil => simp [zs]
                | cons b c =>
                  have h1 := ih c fun j hj => hc (j + 1) (by simpa using hj)
                  have h2 : b = false := by
                    cases b with
                    | false => rfl
                    | true => exact absurd rfl (hc 0)
                  unfold zs at *
                  rw [List.zip_cons_cons, List.map_cons, List.sum_cons, h1, h2]
                  rfl
            exact h3 _ _ h2
          rw [hc, this, Int.zero_add, Int.zero_add, Int.mul_comm r.1]
          omega
        · rw [Int.mul_add, Int.mul_comm r.1]
          omega
      · rw [gd j hj] at c
        have h1 := g.up j r' h' e c
        have h2 := hs j r' h' (hD j r' h' c e)
        rw [Int.mul_add, Int.mul_comm r.1]
        have h3 : r.2.1 * r.1 ≤ r'.2.1 * r.1 := Int.mul_le_mul_of_nonneg_right h2 (by omega)
        omega
    · intro j r' h' hm c
      have c : (s.2.2.set i true)[j]? = some false := c
      rcases (mem j).mp hm with hm | rfl
      · by_cases hj : j = i
        · subst hj
          rw [gi] at c
          cases c
        · rw [gd j hj] at c
          have h1 := g.dn j r' h' hm c
          have h2 := hs j r' h' hm
          have hDne : D ≠ [] := by
            obtain ⟨p, hp, _⟩ := hm
            exact List.ne_nil_of_mem hp
          have hp := g.pos hDne
          rcases hc with hc | hc
          · omega
          · have h3 : r.2.1 * s.2.1 ≤ r'.2.1 * s.2.1 := Int.mul_le_mul_of_nonneg_right h2 (by omega)
            omega
      · rw [gi] at c
        cases c
    · intro j r' h' e hj
      show (s.2.2.set i true)[j]? = _
      have hji : j ≠ i := fun z => hj _ (List.mem_append_right _ (List.mem_singleton.mpr rfl)) (by rw [z])
      rw [gd j hji]
      exact g.un j r' h' e fun p hp => hj p (List.mem_append_left _ hp)
  · rw [if_neg hc]
    obtain ⟨h1, h2⟩ := not_or.mp hc
    refine ⟨g.len, g.t, g.b, g.yes, g.no, g.up, fun j r' h' hm c => ?_, fun j r' h' e hj => g.un j r' h' e fun p hp => hj p (List.mem_append_left _ hp), fun _ => by omega⟩
    rcases (mem j).mp hm with hm | rfl
    · exact g.dn j r' h' hm c
    · rw [hr] at h'
      cases h'
      omega
theorem opens_in {rows : List Rv} {p : Int × Int} (h : p ∈ opens rows) : ∃ (i : Nat) (r : Rv), rows[i]? = some r ∧ r.2.2 = ("open" : Str) ∧ p = (0 - r.2.1, (i : Int)) := by
  unfold opens at h
  obtain ⟨i, hi, e⟩ := List.mem_filterMap.mp h
  have hi := List.mem_range.mp hi
  rw [List.getElem?_eq_getElem hi, Option.bind_some] at e
  split at e
  · rename_i ho
    unfold isO at ho
    exact ⟨i, rows[i], List.getElem?_eq_getElem hi, of_decide_eq_true ho, (Option.some.inj e).symm⟩
  · cases e
theorem opens_mem {rows : List Rv} {i : Nat} {r : Rv} (h : rows[i]? = some r) (ho : r.2.2 = ("open" : Str)) : (0 - r.2.1, (i : Int)) ∈ opens rows := by
  unfold opens
  refine List.mem_filterMap.mpr ⟨i, List.mem_range.mpr (List.getElem?_eq_some_iff.mp h).1, ?_⟩
  rw [h, Option.bind_some, if_pos]
  unfold isO
  rw [decide_eq_true ho]
theorem fm_nodup (f : Nat → Option (Int × Int)) (hf : ∀ i p, f i = some p → p.2 = (i : Int)) : ∀ n, (((List.range n).filterMap f).map (·.2)).Nodup
  | 0 => List.nodup_nil
  | n + 1 => by
    have ih := fm_nodup f hf n
    rw [fm_succ', List.map_append, List.nodup_append]
    refine ⟨ih, ?_, fun a ha b hb => ?_⟩
    · cases f n <;> simp
    · cases e : f n with
      | none => rw [e] at hb; simp at hb
      | some p =>
        rw [e] at hb
        have hb : b = p.2 := by simpa using hb
        obtain ⟨q, hq, rfl⟩ := List.mem_map.mp ha
        obtain ⟨i, hi, e2⟩ := List.mem_filterMap.mp hq
        have := List.mem_range.mp hi
        rw [hb, hf n p e, hf i q e2]
        omega
theorem opens_nodup (rows : List Rv) : ((opens rows).map (·.2)).Nodup := fm_nodup _ (fun i p h => by
  cases e : rows[i]? with
  | none => rw [e] at h; cases h
  | some r =>
    rw [e, Option.bind_some] at h
    split at h
    · rw [← Option.some.inj h]
    · cases h) _
theorem le2_tr (a b c : Int × Int) (h1 : le2 a b = true) (h2 : le2 b c = true) : le2 a c = true := by
  unfold le2 at *
  simp only [Bool.or_eq_true, Bool.and_eq_true, decide_eq_true_eq] at *
  omega
theorem le2_tot (a b : Int × Int) : (le2 a b || le2 b a) = true := by
  unfold le2
  simp only [Bool.or_eq_true, Bool.and_eq_true, decide_eq_true_eq]
  omega
theorem srt_perm (l : List (Int × Int)) : (srt l).Perm l := List.mergeSort_perm l le2
theorem srt_sorted (l : List (Int × Int)) : (srt l).Pairwise fun a b => le2 a b = true := List.pairwise_mergeSort le2_tr le2_tot l
theorem srt_eq {l m : List (Int × Int)} (h1 : m.Pairwise fun a b => le2 a b = true) (h2 : m.Perm l) : m = srt l := by
  refine List.Perm.eq_of_pairwise (le := fun a b => le2 a b = true) (fun a b _ _ h3 h4 => ?_) h1 (srt_sorted l) (h2.trans (srt_perm l).symm)
  unfold le2 at h3 h4
  simp only [Bool.or_eq_true, Bool.and_eq_true, decide_eq_true_eq] at h3 h4
  exact Prod.ext (by omega) (by omega)
def sofar (rows : List Rv) (j : Nat) : Sm := ((srt (opens rows)).take j).foldl (stp rows) (st0 rows)
theorem gi_at {rows : List Rv} (ok : ∀ r ∈ rows, OkV r) : ∀ j, j ≤ (srt (opens rows)).length → GI rows ((srt (opens rows)).take j) (sofar rows j)
  | 0, _ => gi0 ok
  | j + 1, hj => by
    have g := gi_at ok j (by omega)
    obtain ⟨p, hp⟩ : ∃ p, (srt (opens rows))[j]? = some p := ⟨_, List.getElem?_eq_getElem (by omega)⟩
    have hform : ∀ q ∈ srt (opens rows), ∃ (i : Nat) (r : Rv), rows[i]? = some r ∧ r.2.2 = ("open" : Str) ∧ q = (0 - r.2.1, (i : Int)) := fun q hq => opens_in ((srt_perm _).mem_iff.mp hq)
    obtain ⟨i, r, hr, ho, rfl⟩ := hform p (List.mem_of_getElem? hp)
    have hnd : ((srt (opens rows)).map (·.2)).Nodup := (srt_perm _).map (·.2) |>.nodup_iff.mpr (opens_nodup rows)
    have hsd := srt_sorted (opens rows)
    have e : (srt (opens rows)).take (j + 1) = (srt (opens rows)).take j ++ [(0 - r.2.1, (i : Int))] := by rw [List.take_add_one, hp]; rfl
    have hsplit : srt (opens rows) = (srt (opens rows)).take (j + 1) ++ (srt (opens rows)).drop (j + 1) := (List.take_append_drop _ _).symm
    rw [e] at hsplit
    have hn : ∀ q ∈ (srt (opens rows)).take j, q.2 ≠ (i : Int) := fun q hq z => by
      rw [hsplit, List.map_append, List.map_append] at hnd
      have h1 := (List.nodup_append.mp (List.nodup_append.mp hnd).1).2.2 q.2 (List.mem_map_of_mem hq) (i : Int) (by simp)
      exact h1 z
    have hle : ∀ q ∈ (srt (opens rows)).take j, le2 q (0 - r.2.1, (i : Int)) = true := fun q hq => by
      rw [hsplit] at hsd
      exact (List.pairwise_append.mp (List.pairwise_append.mp hsd).1).2.2 q hq _ (List.mem_singleton.mpr rfl)
    have hs : ∀ (k : Nat) r', rows[k]? = some r' → (∃ q ∈ (srt (opens rows)).take j, q.2 = (k : Int)) → r.2.1 ≤ r'.2.1 := by
      rintro k r' h' ⟨q, hq, e2⟩
      obtain ⟨i', r'', h1, h2, h3⟩ := hform q (List.mem_of_mem_take hq)
      rw [h3] at e2
      have e2 : (i' : Int) = (k : Int) := e2
      have : i' = k := by omega
      rw [this, h'] at h1
      cases h1
      have h4 := hle q hq
      rw [h3] at h4
      unfold le2 at h4
      simp only [Bool.or_eq_true, Bool.and_eq_true, decide_eq_true_eq] at h4
      omega
    have := g.step ok hr ho hn hs fun k r' h' hc ho' => by
      refine Classical.byContradiction fun hno => ?_
      have := g.un k r' h' ho' fun q hq z => hno ⟨q, hq, z⟩
      rw [this] at hc
      cases hc
    have e3 : sofar rows (j + 1) = stp rows (sofar rows j) (0 - r.2.1, (i : Int)) := by
      unfold sofar
      rw [e, List.foldl_append]
      rfl
    rw [e, e3]
    exact this
theorem zs_none (f : Rv → Int) : ∀ (rows : List Rv) (c : List Bool), (∀ j : Nat, c[j]? ≠ some true) → zs f rows c = 0
  | [], _, _ => by simp [zs]
  | _ :: _, [], _ => by simp [zs]
  | x :: rows, b :: c, hc => by
    have h1 := zs_none f rows c fun j hj => hc (j + 1) (by simpa using hj)
    have h2 : b = false := by
      cases b with
      | false => rfl
      | true => exact absurd rfl (hc 0)
    unfold zs at *
    rw [List.zip_cons_cons, List.map_cons, List.sum_cons, h1, h2]
    rfl
theorem zs_bd (f : Rv → Int) (M : Int) : ∀ (rows : List Rv) (c : List Bool), (∀ r ∈ rows, -M ≤ f r ∧ f r ≤ M) → 0 ≤ M → -(M * rows.length) ≤ zs f rows c ∧ zs f rows c ≤ M * rows.length
  | [], _, _, _ => by simp [zs]
  | x :: rows, [], _, h0 => by
    have h1 := Int.mul_nonneg h0 (show (0 : Int) ≤ ((x :: rows).length : Int) by omega)
    have e : zs f (x :: rows) [] = 0 := by simp [zs]
    rw [e]
    omega
  | x :: rows, b :: c, h, h0 => by
    have ih := zs_bd f M rows c (fun r hr => h r (List.mem_cons_of_mem _ hr)) h0
    have h3 := h x (List.mem_cons_self ..)
    unfold zs at *
    rw [List.zip_cons_cons, List.map_cons, List.sum_cons, List.length_cons, Int.natCast_add, Int.mul_add]
    dsimp only
    split <;> omega
/-- what is told -/
structure GM (rows : List Rv) (s : Sm) : Prop where
  len : s.2.2.length = rows.length
  t : s.1 = zs (fun r => r.1 * r.2.1) rows s.2.2
  b : s.2.1 = zs (fun r => r.1) rows s.2.2
  yes : ∀ (i : Nat) r, rows[i]? = some r → r.2.2 = ("yes" : Str) → s.2.2[i]? = some true
  no : ∀ (i : Nat) r, rows[i]? = some r → r.2.2 = ("no" : Str) → s.2.2[i]? = some false
  up : ∀ (i : Nat) r, rows[i]? = some r → r.2.2 = ("open" : Str) → s.2.2[i]? = some true → s.1 ≤ r.2.1 * s.2.1
  dn : ∀ (i : Nat) r, rows[i]? = some r → r.2.2 = ("open" : Str) → s.2.2[i]? = some false → r.2.1 * s.2.1 ≤ s.1
  nz : (∃ r ∈ rows, r.2.2 ≠ ("no" : Str)) → 0 < s.2.1
  z : (∀ r ∈ rows, r.2.2 = ("no" : Str)) → s.2.1 = 0
theorem gm_ok {rows : List Rv} (ok : ∀ r ∈ rows, OkV r) : GM rows (gm rows) := by
  have g := gi_at ok _ (Nat.le_refl (srt (opens rows)).length)
  have e : sofar rows (srt (opens rows)).length = gm rows := by unfold sofar gm; rw [List.take_length]
  rw [e, List.take_length] at g
  have hw : ∀ r ∈ rows, 0 ≤ (fun r : Rv => r.1) r := fun r h => by have h1 := (ok r h).1; show (0 : Int) ≤ r.1; omega
  refine ⟨g.len, g.t, g.b, g.yes, g.no, g.up, fun i r hr ho c => g.dn i r hr ⟨_, (srt_perm _).mem_iff.mpr (opens_mem hr ho), rfl⟩ c, ?_, fun h => ?_⟩
  · rintro ⟨r, hr, hn⟩
    obtain ⟨i, hi⟩ := List.mem_iff_getElem?.mp hr
    rcases (ok r hr).2.2.2.2 with h | h | h
    · have h1 := zs_ge (fun r => r.1) rows _ i r hw hi (g.yes i r hi h)
      have h2 := (ok r hr).1
      rw [g.b]
      have h1 : r.1 ≤ _ := h1
      omega
    · exact absurd h hn
    · exact g.pos (List.ne_nil_of_mem ((srt_perm _).mem_iff.mpr (opens_mem hi h)))
  · rw [g.b]
    refine zs_none _ _ _ fun j hj => ?_
    have h1 := (List.getElem?_eq_some_iff.mp hj).1
    rw [g.len] at h1
    have h2 := g.no j rows[j] (List.getElem?_eq_getElem h1) (h _ (List.getElem_mem h1))
    rw [hj] at h2
    cases h2
theorem zs_lin (b a : Int) : ∀ (rows : List Rv) (c : List Bool), zs (fun r => (r.2.1 * b - a) * r.1) rows c = zs (fun r => r.1 * r.2.1) rows c * b - a * zs (fun r => r.1) rows c
  | [], _ => by simp [zs]
  | _ :: _, [] => by simp [zs]
  | x :: rows, y :: c => by
    have ih := zs_lin b a rows c
    unfold zs at *
    rw [List.zip_cons_cons, List.map_cons, List.map_cons, List.map_cons, List.sum_cons, List.sum_cons, List.sum_cons, ih]
    dsimp only
    split <;> grind
/-- what those that count, and those that would help, have above the mean -/
def above (m : Int × Int) (r : Rv) : Int := if r.2.2 = ("yes" : Str) ∨ r.2.2 = ("open" : Str) ∧ 0 < (r.2.1 * m.2 - m.1) * r.1 then (r.2.1 * m.2 - m.1) * r.1 else 0
theorem above_zs {a b : Int} : ∀ (rows : List Rv) (c : List Bool), c.length = rows.length → (∀ (i : Nat) r, rows[i]? = some r → above (a, b) r = if c[i]? = some true then (r.2.1 * b - a) * r.1 else 0) → (rows.map (above (a, b))).sum = zs (fun r => (r.2.1 * b - a) * r.1) rows c
  | [], _, _, _ => by simp [zs]
  | _ :: _, [], h, _ => by simp at h
  | x :: rows, y :: c, h, hh => by
    have ih := above_zs (a := a) (b := b) rows c (by simpa using h) fun i r hr => by
      have := hh (i + 1) r (by simpa using hr)
      rwa [List.getElem?_cons_succ] at this
    have h0 := hh 0 x rfl
    rw [List.getElem?_cons_zero] at h0
    unfold zs at *
    rw [List.map_cons, List.sum_cons, ih, h0, List.zip_cons_cons, List.map_cons, List.sum_cons]
    cases y <;> simp
theorem none_above {rows : List Rv} (ok : ∀ r ∈ rows, OkV r) {s : Sm} (g : GM rows s) (hB : 0 < s.2.1) : (rows.map (above (low s.1 s.2.1))).sum = 0 := by
  have hp : 1 ≤ (low s.1 s.2.1).2 := low_pos hB
  have he : (low s.1 s.2.1).1 * s.2.1 = s.1 * (low s.1 s.2.1).2 := low_eq hB
  generalize low s.1 s.2.1 = m at hp he ⊢
  obtain ⟨a, b⟩ := m
  have hp : 1 ≤ b := hp
  have he : a * s.2.1 = s.1 * b := he
  rw [above_zs rows s.2.2 g.len, zs_lin, ← g.t, ← g.b]
  · rw [he]; omega
  · intro i r hr
    have hok := ok r (List.mem_of_getElem? hr)
    have key : (r.2.1 * b - a) * s.2.1 = b * (r.2.1 * s.2.1 - s.1) := by
      calc (r.2.1 * b - a) * s.2.1 = r.2.1 * b * s.2.1 - a * s.2.1 := by grind
        _ = r.2.1 * b * s.2.1 - s.1 * b := by rw [he]
        _ = b * (r.2.1 * s.2.1 - s.1) := by grind
    unfold above
    rcases hok.2.2.2.2 with h | h | h
    · rw [if_pos (.inl h), g.yes i r hr h, if_pos rfl]
    · rw [if_neg (by rw [h]; exact fun z => z.elim no_yes fun z => no_open z.1), g.no i r hr h, if_neg (by simp)]
    · cases hc : s.2.2[i]? with
      | none =>
        have h1 := List.getElem?_eq_none_iff.mp hc
        have h2 := (List.getElem?_eq_some_iff.mp hr).1
        have := g.len
        omega
      | some y =>
        cases y with
        | true =>
          have h1 := g.up i r hr h hc
          have h2 : 0 ≤ (r.2.1 * b - a) * s.2.1 := by rw [key]; exact Int.mul_nonneg (by omega) (by omega)
          have h3 : 0 ≤ r.2.1 * b - a := Int.le_of_mul_le_mul_right (a := s.2.1) (by omega) hB
          have h4 : 0 ≤ (r.2.1 * b - a) * r.1 := Int.mul_nonneg h3 (by have := hok.1; omega)
          rw [if_pos rfl]
          split
          · rfl
          · rename_i hn
            have : ¬ 0 < (r.2.1 * b - a) * r.1 := fun z => hn (.inr ⟨h, z⟩)
            omega
        | false =>
          have h1 := g.dn i r hr h hc
          have h2 : (r.2.1 * b - a) * s.2.1 ≤ 0 := by
            rw [key]
            have := Int.mul_nonneg (show 0 ≤ b by omega) (show 0 ≤ s.1 - r.2.1 * s.2.1 by omega)
            have e : b * (r.2.1 * s.2.1 - s.1) = -(b * (s.1 - r.2.1 * s.2.1)) := by grind
            omega
          have h3 : r.2.1 * b - a ≤ 0 := by
            refine Int.le_of_mul_le_mul_right (a := s.2.1) ?_ hB
            rw [Int.zero_mul]
            exact h2
          have h4 : (r.2.1 * b - a) * r.1 ≤ 0 := Int.mul_nonpos_of_nonpos_of_nonneg h3 (by have := hok.1; omega)
          rw [if_neg, if_neg (by simp)]
          rintro (z | ⟨_, z⟩)
          · rw [h] at z; exact open_yes z
          · have z : 0 < (r.2.1 * b - a) * r.1 := z
            omega
/-! the law's mixing of a cell -/
def mixr (c k : Int) : Int :=
  let a := (c % 2147483629 + 7919 * k + 17) * 48271 % 2147483647
  let b := (a * a + 3 * k) % 2147483629
  b * (b + 3) % 2147483587
theorem mixr_b (c k : Int) : 0 ≤ mixr c k ∧ mixr c k < 2147483587 := by
  unfold mixr
  exact ⟨Int.emod_nonneg _ (by decide), Int.emod_lt_of_pos _ (by decide)⟩
def sp__law_cell (K : PySem.W.Frag) (mg : Str → Option Value) : Sp := fun vs H Q _ => match vs with | [.ref a, .int k] => ∃ ns : List Int, SqL K H a (ns.map V.int) ∧ 0 ≤ k ∧ k < 1000000 ∧ Q (.int (cellAt ns k (7919 * k + 13))) H | _ => False
theorem q__law_cell {H : Hp} {Q : VK} {E : XK} {a : Addr} {k : Int} (q : ∃ ns : List Int, SqL K H a (ns.map V.int) ∧ 0 ≤ k ∧ k < 1000000 ∧ Q (.int (cellAt ns k (7919 * k + 13))) H) : sp__law_cell K mg [.ref a, .int k] H Q E := q
local macro_rules | `(tactic| walk_at "op") => `(tactic| with_reducible refine q__law_cell ?_)
theorem c__law_cell (T : Txt K mg) : Cal P w K mg base 1 "_law_cell" (sp__law_cell K mg) := by
  refine T.d__law_cell.cal (k := 0) sc__law_cell (by intro vs H Q E h; unfold sp__law_cell at h; split at h <;> first | rfl | exact h.elim) fun f cdv A outer s H vs Q E hr h => ?_
  refine ⟨_, (pss_cons (ps_if (pt_cmpR op_ltA (pv 1) (pe_callB call_lenA (by rfl) T.n_len (by decide +kernel) (pa_cons (pv 0) pa_nil)) (nomark _))
    (pss_one (ps_ret (pe_ix ix_seq (pv 0) (pv 1) (fun _ _ => rfl))))
    pss_nil)
    (pss_one (ps_ret (pe_op op_addA (pe_op op_mulA pe_int (pv 1)) pe_int)))), ?_⟩
  try simp only [cxOf_K, cxOf_K', cxOf_mg, cxOf_mg']
  unfold sp__law_cell at h
  split at h
  case h_2 => exact h.elim
  rename_i a k
  rw [show L2.start ["_law_script", "_law_k"] [V.ref a, V.int k] = [some (V.ref a), some (V.int k)] from rfl]
  obtain ⟨ns, hS, hk, hk2, q⟩ := h
  walk_at "sa"
  rw [List.length_map]
  refine L_d (fun c => ?_) (fun c => ?_)
  · walk_at "sts"
    exact L_ixL hS (cellAt_in hk c) q
  · walk_at "sa"
    rw [cellAt_out c] at q
    exact q
def sp__law_mix (K : PySem.W.Frag) (mg : Str → Option Value) : Sp := fun vs H Q _ => match vs with | [.int c, .int k] => 0 ≤ k ∧ k < 1000000 ∧ Q (.int (mixr c k)) H | _ => False
theorem q__law_mix {H : Hp} {Q : VK} {E : XK} {c : Int} {k : Int} (q : 0 ≤ k ∧ k < 1000000 ∧ Q (.int (mixr c k)) H) : sp__law_mix K mg [.int c, .int k] H Q E := q
local macro_rules | `(tactic| walk_at "op") => `(tactic| with_reducible refine q__law_mix ?_)
theorem c__law_mix (T : Txt K mg) : Cal P w K mg base 1 "_law_mix" (sp__law_mix K mg) := by
  refine T.d__law_mix.cal (k := 0) sc__law_mix (by intro vs H Q E h; unfold sp__law_mix at h; split at h <;> first | rfl | exact h.elim) fun f cdv A outer s H vs Q E hr h => ?_
  refine ⟨_, (pss_cons (ps_set (i := 2) sc__law_mix.nd rfl (.inl rfl) (pe_op op_mod (pe_op op_mulA (pe_op op_addA (pe_op op_addA (pe_op op_mod (pv 0) pe_int) (pe_op op_mulA pe_int (pv 1))) pe_int) pe_int) pe_int))
    (pss_cons (ps_set (i := 2) sc__law_mix.nd rfl (.inl rfl) (pe_op op_mod (pe_op op_addA (pe_op op_mulA (pv 2) (pv 2)) (pe_op op_mulA pe_int (pv 1))) pe_int))
    (pss_one (ps_ret (pe_op op_mod (pe_op op_mulA (pv 2) (pe_op op_addA (pv 2) pe_int)) pe_int))))), ?_⟩
  try simp only [cxOf_K, cxOf_K', cxOf_mg, cxOf_mg']
  unfold sp__law_mix at h
  split at h
  case h_2 => exact h.elim
  rename_i c k
  rw [show L2.start ["_law_cell_here", "_law_k", "_law_number"] [V.int c, V.int k] = [some (V.int c), some (V.int k), none] from rfl]
  obtain ⟨hk, hk2, q⟩ := h
  walk_at "sa"
  exact q
def sp__law_row (K : PySem.W.Frag) (mg : Str → Option Value) : Sp := fun vs H Q _ => match vs with | [.int c, .int bit, .int many, .int most] => 0 ≤ many ∧ many ≤ 1000 ∧ 0 < most ∧ most < 1000000000000 ∧ (∀ l : List Int, l.length = many.toNat → (∀ x ∈ l, 0 ≤ x ∧ x < most) → NewL H (l.map V.int) Q) | _ => False
theorem q__law_row {H : Hp} {Q : VK} {E : XK} {c : Int} {bit : Int} {many : Int} {most : Int} (q : 0 ≤ many ∧ many ≤ 1000 ∧ 0 < most ∧ most < 1000000000000 ∧ (∀ l : List Int, l.length = many.toNat → (∀ x ∈ l, 0 ≤ x ∧ x < most) → NewL H (l.map V.int) Q)) : sp__law_row K mg [.int c, .int bit, .int many, .int most] H Q E := q
local macro_rules | `(tactic| walk_at "op") => `(tactic| with_reducible refine q__law_row ?_)
theorem c__law_row (T : Txt K mg) : Cal P w K mg base 2 "_law_row" (sp__law_row K mg) := by
  refine T.d__law_row.cal (k := 1) sc__law_row (by intro vs H Q E h; unfold sp__law_row at h; split at h <;> first | rfl | exact h.elim) fun f cdv A outer s H vs Q E hr h => ?_
  refine ⟨_, (pss_cons (ps_set (i := 4) sc__law_row.nd rfl (.inl rfl) (pe_lst pa_nil))
    (pss_cons (ps_for PassesOwn.never rfl (pi_range1 (by rfl) T.n_range (pa_cons (pv 2) pa_nil)) (pg_name (i := 5) sc__law_row.nd rfl (.inl rfl))
    (pss_one (ps_if (pt_cmpR (op_eqA hr) (pe_op op_mod (pv 1) pe_int) pe_int (nomark _))
    (pss_cons (ps_expr (pe_bm PySem.F.plainAttrs_list PySem.F.slot_list_append PySem.F.type_list_append mt_append (pv 4) (pa_cons (pe_op op_mod (pv 0) (pv 3)) pa_nil)))
    (pss_one (ps_set (i := 0) sc__law_row.nd rfl (.inl rfl) (pe_op op_fdivW (pv 0) (pv 3)))))
    (pss_one (ps_expr (pe_bm PySem.F.plainAttrs_list PySem.F.slot_list_append PySem.F.type_list_append mt_append (pv 4) (pa_cons (pe_op op_mod (pe_c (c__law_mix T) hr (by decide) (by rfl) (pa_cons (pv 0) (pa_cons (pv 5) pa_nil))) (pv 3)) pa_nil)))))))
    (pss_one (ps_ret (pv 4))))), ?_⟩
  try simp only [cxOf_K, cxOf_K', cxOf_mg, cxOf_mg']
  unfold sp__law_row at h
  split at h
  case h_2 => exact h.elim
  rename_i c bit many most
  rw [show L2.start ["_law_cell_here", "_law_bit", "_law_many", "_law_most", "_law_row_here", "_law_k"] [V.int c, V.int bit, V.int many, V.int most] = [some (V.int c), some (V.int bit), some (V.int many), some (V.int most), none, none] from rfl]
  obtain ⟨h1, h2, h3, h4, q⟩ := h
  walk_at "sa"
  refine L_new (by decide) fun p hp => ?_
  walk_at "sa"
  refine L_r1 (by omega) (by omega) ?_
  refine f_range (fun i σ' H' => ∃ (c' : Int) (l : List Int) (v : Option V), σ' = [some (.int c'), some (.int bit), some (.int many), some (.int most), some (.ref p), v] ∧ Same H H' ∧ H' p = some (.lst (l.map V.int)) ∧ l.length = i ∧ ∀ x ∈ l, 0 ≤ x ∧ x < most) ⟨c, [], none, rfl, same_new hp, upd_same, rfl, by simp⟩ ?_ ?_
  · rintro i σ' H' hi ⟨c', l, v, rfl, s, hd, hlen, hb⟩
    have hz : l.length < 1000000 := by omega
    walk_at "sa"
    refine L_d (fun _ => ?_) (fun _ => ?_)
    · walk_at "sts"
      refine L_tyL (.of hd) ?_
      walk_at "sts"
      refine L_I h3 ?_
      walk_at "sts"
      refine L_app hd (by rw [List.length_map]; exact sz_lt hz) ?_
      walk_at "sts"
      refine L_I ((bd_64 (by omega)).cdiv h3) ?_
      walk_at "sts"
      refine ⟨_, l ++ [c' % most], _, rfl, same_mut s hp, by rw [List.map_append]; exact upd_same, by simp [hlen], fun x hx => ?_⟩
      rcases List.mem_append.mp hx with hx | hx
      · exact hb x hx
      · rw [List.mem_singleton.mp hx]
        exact ⟨Int.emod_nonneg _ (by omega), Int.emod_lt_of_pos _ h3⟩
    · walk_at "sts"
      refine L_tyL (.of hd) ?_
      walk_at "sts"
      refine ⟨by omega, by omega, ?_⟩
      walk_at "sts"
      refine L_I h3 ?_
      walk_at "sts"
      refine L_app hd (by rw [List.length_map]; exact sz_lt hz) ?_
      walk_at "sts"
      refine ⟨_, l ++ [mixr c' (0 + (i : Int)) % most], _, rfl, same_mut s hp, by rw [List.map_append]; exact upd_same, by simp [hlen], fun x hx => ?_⟩
      rcases List.mem_append.mp hx with hx | hx
      · exact hb x hx
      · rw [List.mem_singleton.mp hx]
        exact ⟨Int.emod_nonneg _ (by omega), Int.emod_lt_of_pos _ h3⟩
  · rintro σ' H' ⟨c', l, v, rfl, s, hd, hlen, hb⟩
    walk_at "sts"
    exact q l hlen hb p H' hp s hd
def sp__law_whole (K : PySem.W.Frag) (mg : Str → Option Value) : Sp := fun vs H Q _ => match vs with | [.int t] => Q (.bl true) H | _ => False
theorem q__law_whole {H : Hp} {Q : VK} {E : XK} {t : Int} (q : Q (.bl true) H) : sp__law_whole K mg [.int t] H Q E := q
local macro_rules | `(tactic| walk_at "op") => `(tactic| with_reducible refine q__law_whole ?_)
theorem c__law_whole (T : Txt K mg) : Cal P w K mg base 1 "_law_whole" (sp__law_whole K mg) := by
  refine T.d__law_whole.cal (k := 0) sc__law_whole (by intro vs H Q E h; unfold sp__law_whole at h; split at h <;> first | rfl | exact h.elim) fun f cdv A outer s H vs Q E hr h => ?_
  refine ⟨_, (pss_one (ps_ret (pe_and (pe_callB call_isi (by rfl) T.n_isinstance (by decide +kernel) (pa_cons (pv 0) (pa_cons (pe_ty "int" (by rfl) T.n_int (by decide +kernel)) pa_nil))) (pe_one (pe_not (pe_callB call_isi (by rfl) T.n_isinstance (by decide +kernel) (pa_cons (pv 0) (pa_cons (pe_ty "bool" (by rfl) T.n_bool (by decide +kernel)) pa_nil)))))))), ?_⟩
  try simp only [cxOf_K, cxOf_K', cxOf_mg, cxOf_mg']
  unfold sp__law_whole at h
  split at h
  case h_2 => exact h.elim
  rename_i t
  rw [show L2.start ["_law_found"] [V.int t] = [some (V.int t)] from rfl]
  walk_at "sa"
  exact h
def sp_is_whole (K : PySem.W.Frag) (mg : Str → Option Value) : Sp := fun vs H Q _ => match vs with | [v, .int lo, .int hi] => (∃ t, v = .int t ∧ Q (.bl (decide (lo ≤ t) && decide (t ≤ hi))) H) ∨ (NotW K H v ∧ Q (.bl false) H) | _ => False
theorem c_is_whole (T : Txt K mg) : Cal P w K mg base 1 "is_whole" (sp_is_whole K mg) := by
  refine T.d_is_whole.cal (k := 0) sc_is_whole (by intro vs H Q E h; unfold sp_is_whole at h; split at h <;> first | rfl | exact h.elim) fun f cdv A outer s H vs Q E hr h => ?_
  refine ⟨_, (pss_cons (ps_if (PW.pt (pw_or (pt_not (pt_val (pe_callB call_isi (by rfl) T.n_isinstance (by decide +kernel) (pa_cons (pv 0) (pa_cons (pe_ty "int" (by rfl) T.n_int (by decide +kernel)) pa_nil))))) (pw_or1 (pt_val (pe_callB call_isi (by rfl) T.n_isinstance (by decide +kernel) (pa_cons (pv 0) (pa_cons (pe_ty "bool" (by rfl) T.n_bool (by decide +kernel)) pa_nil)))))))
    (pss_one (ps_ret pe_bl))
    pss_nil)
    (pss_one (ps_ret (pe_chain op_leA op_leA (pv 1) (pv 0) (pv 2))))), ?_⟩
  try simp only [cxOf_K, cxOf_K', cxOf_mg, cxOf_mg']
  unfold sp_is_whole at h
  split at h
  case h_2 => exact h.elim
  rename_i v lo hi
  rw [show L2.start ["thing", "low", "high"] [v, V.int lo, V.int hi] = [some (v), some (V.int lo), some (V.int hi)] from rfl]
  rcases h with ⟨t, rfl, q⟩ | ⟨⟨b, rfl⟩ | ⟨ty, h1, h2⟩, q⟩
  · walk_at "sa"
    refine L_d (fun c1 => ?_) (fun c1 => ?_)
    · rw [decide_eq_true c1, Bool.true_and] at q
      walk_at "sts"
      exact q
    · rw [decide_eq_false c1, Bool.false_and] at q
      exact q
  · walk_at "sts"
    refine L_isi (.base (.bl b)) (b := true) (by decide +kernel) ?_
    walk_at "sts"
    refine L_isi (.base (.bl b)) (b := true) (by decide +kernel) ?_
    walk_at "sts"
    exact q
  · walk_at "sts"
    refine L_isi h1 h2 ?_
    walk_at "sts"
    exact q
theorem q_whole {H : Hp} {Q : VK} {E : XK} {t lo hi : Int} (q : Q (.bl (decide (lo ≤ t) && decide (t ≤ hi))) H) : sp_is_whole K mg [.int t, .int lo, .int hi] H Q E := .inl ⟨t, rfl, q⟩
theorem q_wholeT {H : Hp} {Q : VK} {E : XK} {t lo hi : Int} (h : lo ≤ t ∧ t ≤ hi) (q : Q (.bl true) H) : sp_is_whole K mg [.int t, .int lo, .int hi] H Q E := q_whole (by rw [decide_eq_true h.1, decide_eq_true h.2]; exact q)
theorem q_wholeF {H : Hp} {Q : VK} {E : XK} {t lo hi : Int} (h : ¬ (lo ≤ t ∧ t ≤ hi)) (q : Q (.bl false) H) : sp_is_whole K mg [.int t, .int lo, .int hi] H Q E := q_whole (by
  rw [show (decide (lo ≤ t) && decide (t ≤ hi)) = false by simp only [Bool.and_eq_false_iff, decide_eq_false_iff_not]; omega]; exact q)
theorem q_wholeN {H : Hp} {Q : VK} {E : XK} {v : V} {lo hi : Int} (h : NotW K H v) (q : Q (.bl false) H) : sp_is_whole K mg [v, .int lo, .int hi] H Q E := .inr ⟨h, q⟩
theorem q_wholeB {H : Hp} {Q : VK} {E : XK} {v : V} {lo hi : Int} (h : BadW K H v lo hi) (q : Q (.bl false) H) : sp_is_whole K mg [v, .int lo, .int hi] H Q E := by
  rcases h with h | ⟨t, rfl, h⟩
  · exact q_wholeN h q
  · exact q_wholeF h q
theorem q_wholeG {H : Hp} {Q : VK} {E : XK} {t lo hi : Int} (h : sp_is_whole K mg [.int t, .int lo, .int hi] H Q E) : sp_is_whole K mg [.int t, .int lo, .int hi] H Q E := h
local macro_rules | `(tactic| walk_at "op") => `(tactic| with_reducible (refine q_wholeG ?_; first | refine q_wholeT (by omega) ?_ | refine q_wholeF (by omega) ?_ | refine q_whole ?_))
def d3w (r : Rv) : PyData := .tuple [.int r.1, .int r.2.1, .str r.2.2]
theorem hit3w {H : Hp} {us : List V} {c : List Rv} (hA : DpAll K H us (c.map d3w)) {i : Nat} {x : V} (hx : us[i]? = some x) : ∃ m t, c[i]? = some m ∧ x = .ref t ∧ SqT K H t [.int m.1, .int m.2.1, .str m.2.2] := by
  obtain ⟨d, h1, h2⟩ := hA.of hx
  rw [List.getElem?_map] at h1
  obtain ⟨m, h3, rfl⟩ := Option.map_eq_some_iff.mp h1
  obtain ⟨t, x1, x2, x3, rfl, h4, h5, h6, h7⟩ := of_t3 h2
  rw [of_int h5, of_int h6, of_str h7] at h4
  exact ⟨m, t, h3, rfl, h4⟩
/-- the pair at a place -/
def kk (H : Hp) (v : V) : Int × Int := match v with
  | .ref t => match H t with
    | some (.tup [.int i, .int j]) => (i, j)
    | _ => (0, 0)
  | _ => (0, 0)
theorem kk_of {H : Hp} {v : V} {p : Int × Int} (h : T2 H v p) : kk H v = p := by
  obtain ⟨t, rfl, e⟩ := h
  unfold kk
  dsimp only
  rw [e]
theorem kk_map {H : Hp} : ∀ {vs : List V} {ps : List (Int × Int)}, Paired (T2 H) vs ps → vs.map (kk H) = ps
  | [], _, h => by cases h; rfl
  | v :: vs, _, h => by cases h with | cons h1 h2 => rw [List.map_cons, kk_of h1, kk_map h2]
theorem t2_of {H : Hp} {vs : List V} {ps : List (Int × Int)} (h : Paired (T2 H) vs ps) : ∀ v ∈ vs, T2 H v (kk H v) := by
  intro v hv
  obtain ⟨i, hi⟩ := List.mem_iff_getElem?.mp hv
  obtain ⟨p, _, h2⟩ := LiI.paired_get h hi
  rw [kk_of h2]
  exact h2
theorem paired_kk {H : Hp} : ∀ (ys : List V), (∀ v ∈ ys, T2 H v (kk H v)) → Paired (T2 H) ys (ys.map (kk H))
  | [], _ => .nil
  | y :: ys, h => .cons (h y (List.mem_cons_self ..)) (paired_kk ys fun v hv => h v (List.mem_cons_of_mem _ hv))
theorem sorted_kk {H : Hp} {ys vs : List V} {ps : List (Int × Int)} (h : Paired (T2 H) vs ps) (h1 : SrtO.Srtd (ltP (kk H)) ys) (h2 : ys.Perm vs) : Paired (T2 H) ys (srt ps) := by
  have e : ys.map (kk H) = srt ps := by
    refine srt_eq ?_ ?_
    · rw [List.pairwise_map]
      refine h1.imp fun {a b} h => ?_
      have h : ¬ SrtO.lexB (kk H b) (kk H a) = true := by rw [show SrtO.lexB (kk H b) (kk H a) = false from h]; exact Bool.false_ne_true
      rw [SrtO.lexB_iff] at h
      unfold le2
      simp only [Bool.or_eq_true, Bool.and_eq_true, decide_eq_true_eq]
      omega
    · rw [← kk_map h]
      exact h2.map _
  rw [← e]
  exact paired_kk ys fun v hv => t2_of h v (h2.mem_iff.mp hv)
theorem low_lt {T B v : Int} (hB : 0 < B) : (low T B).1 * 1 < v * (low T B).2 ↔ T < v * B := by
  have h1 := low_pos (t := T) hB
  have h2 := low_eq (t := T) hB
  rw [Int.mul_one]
  constructor
  · intro h
    have h3 : (low T B).1 * B < v * (low T B).2 * B := Int.mul_lt_mul_of_pos_right h hB
    rw [h2, Int.mul_right_comm] at h3
    exact Int.lt_of_mul_lt_mul_right h3 (by omega)
  · intro h
    have h3 : T * (low T B).2 < v * B * (low T B).2 := Int.mul_lt_mul_of_pos_right h (by omega)
    rw [← h2, Int.mul_right_comm] at h3
    exact Int.lt_of_mul_lt_mul_right h3 (by omega)
theorem low_shr {T B : Int} (hB : 0 < B) : shr T B = low T B := by unfold shr; rw [if_neg (by omega)]
theorem fr_low {H : Hp} {p : Addr} {T B : Int} (hB : 0 < B) (e : H p = some (.tup [.int (low T B).1, .int (low T B).2])) (b1 : Bd 200 T) (b2 : Bd 200 B) : Fr2 K H p (low T B).1 (low T B).2 :=
  ⟨.of e, low_pos hB, (low_bd hB b1 b2).1.mono (by decide), (low_bd hB b1 b2).2.mono (by decide)⟩
def sp_greatest_mean (K : PySem.W.Frag) (mg : Str → Option Value) : Sp := fun vs H Q _ => match vs with | [.ref a] => ∃ (us : List V) (rows : List Rv), SqL K H a us ∧ DpAll K H us (rows.map d3w) ∧ rows.length ≤ 24 ∧ (∀ r ∈ rows, OkV r) ∧ ((gm rows).2.1 = 0 → ∀ H', Same H H' → Q .non H') ∧ ((gm rows).2.1 ≠ 0 → ∀ pt px pc H', H pt = none → H pc = none → Same H H' → H' pt = some (.tup [.ref px, .ref pc]) → H' px = some (.tup [.int (low (gm rows).1 (gm rows).2.1).1, .int (low (gm rows).1 (gm rows).2.1).2]) → H' pc = some (.lst ((gm rows).2.2.map V.bl)) → Q (.ref pt) H') | _ => False
theorem q_greatest_mean {H : Hp} {Q : VK} {E : XK} {a : Addr} (q : ∃ (us : List V) (rows : List Rv), SqL K H a us ∧ DpAll K H us (rows.map d3w) ∧ rows.length ≤ 24 ∧ (∀ r ∈ rows, OkV r) ∧ ((gm rows).2.1 = 0 → ∀ H', Same H H' → Q .non H') ∧ ((gm rows).2.1 ≠ 0 → ∀ pt px pc H', H pt = none → H pc = none → Same H H' → H' pt = some (.tup [.ref px, .ref pc]) → H' px = some (.tup [.int (low (gm rows).1 (gm rows).2.1).1, .int (low (gm rows).1 (gm rows).2.1).2]) → H' pc = some (.lst ((gm rows).2.2.map V.bl)) → Q (.ref pt) H')) : sp_greatest_mean K mg [.ref a] H Q E := q
local macro_rules | `(tactic| walk_at "op") => `(tactic| with_reducible refine q_greatest_mean ?_)
theorem c_greatest_mean (T : Txt K mg) : Cal P w K mg base 3 "greatest_mean" (sp_greatest_mean K mg) := by
  refine T.d_greatest_mean.cal (k := 2) sc_greatest_mean (by intro vs H Q E h; unfold sp_greatest_mean at h; split at h <;> first | rfl | exact h.elim) fun f cdv A outer s H vs Q E hr h => ?_
  refine ⟨_, (pss_cons (ps_setLc (i := 4) (own := [("weight", 1), ("value", 2), ("word", 3)]) (g := (gTup K 3 (gCons (gName 1) (gCons (gName 2) (gCons (gName 3) gNil))))) (tt := tYes) (te := (tOp (aEq K) (tVar 3) (tC (.str "yes")))) rfl sc_greatest_mean.nd rfl rfl (sw_true rfl rfl rfl (by decide +kernel)) (pi_list (pv 0)) (blkOk_by (N := ["rows", "weight", "value", "word", "counted", "top", "bottom", "at", "falling", "less", "row"]) (sc := defScope s_greatest_mean) (by decide +kernel)) (fun _ _ _ _ _ => by exact (pg_tup rfl (pgs_cons (pg_name (i := 1) sc_greatest_mean.nd rfl (.inl rfl)) (pgs_cons (pg_name (i := 2) sc_greatest_mean.nd rfl (.inl rfl)) (pgs_cons (pg_name (i := 3) sc_greatest_mean.nd rfl (.inl rfl)) pgs_nil))))) (fun _ _ _ _ _ => pts_nil) (fun _ _ _ _ _ => by exact (pe_cmpR (op_eqA hr) (pv 3) pe_str (nomark _))))
    (pss_cons (ps_set (i := 5) sc_greatest_mean.nd rfl (.inl rfl) (pe_callB (cr_sum rfl) (by rfl) T.n_sum (by decide +kernel) (pa_cons (pe_lc (own := [("weight", 1), ("value", 2), ("word", 3)]) (g := (gTup K 3 (gCons (gName 1) (gCons (gName 2) (gCons (gName 3) gNil))))) (tt := (tTest (tOp (aEq K) (tVar 3) (tC (.str "yes"))))) (te := (tOp aMul (tVar 1) (tVar 2))) rfl sc_greatest_mean.nd (pi_list (pv 0)) (blkOk_by (N := ["rows", "weight", "value", "word", "counted", "top", "bottom", "at", "falling", "less", "row"]) (sc := defScope s_greatest_mean) (by decide +kernel)) (fun _ _ _ _ _ => by exact (pg_tup rfl (pgs_cons (pg_name (i := 1) sc_greatest_mean.nd rfl (.inl rfl)) (pgs_cons (pg_name (i := 2) sc_greatest_mean.nd rfl (.inl rfl)) (pgs_cons (pg_name (i := 3) sc_greatest_mean.nd rfl (.inl rfl)) pgs_nil))))) (fun _ _ _ _ _ => by exact pts_one (pt_cmpR (op_eqA hr) (pv 3) pe_str (nomark _))) (fun _ _ _ _ _ => by exact (pe_op op_mulA (pv 1) (pv 2)))) pa_nil)))
    (pss_cons (ps_set (i := 6) sc_greatest_mean.nd rfl (.inl rfl) (pe_callB (cr_sum rfl) (by rfl) T.n_sum (by decide +kernel) (pa_cons (pe_lc (own := [("weight", 1), ("value", 2), ("word", 3)]) (g := (gTup K 3 (gCons (gName 1) (gCons (gName 2) (gCons (gName 3) gNil))))) (tt := (tTest (tOp (aEq K) (tVar 3) (tC (.str "yes"))))) (te := (tVar 1)) rfl sc_greatest_mean.nd (pi_list (pv 0)) (blkOk_by (N := ["rows", "weight", "value", "word", "counted", "top", "bottom", "at", "falling", "less", "row"]) (sc := defScope s_greatest_mean) (by decide +kernel)) (fun _ _ _ _ _ => by exact (pg_tup rfl (pgs_cons (pg_name (i := 1) sc_greatest_mean.nd rfl (.inl rfl)) (pgs_cons (pg_name (i := 2) sc_greatest_mean.nd rfl (.inl rfl)) (pgs_cons (pg_name (i := 3) sc_greatest_mean.nd rfl (.inl rfl)) pgs_nil))))) (fun _ _ _ _ _ => by exact pts_one (pt_cmpR (op_eqA hr) (pv 3) pe_str (nomark _))) (fun _ _ _ _ _ => by exact (pv 1))) pa_nil)))
    (pss_cons (ps_set (i := 8) sc_greatest_mean.nd rfl (.inl rfl) (pe_callB cr_sortedPO (by rfl) T.n_sorted (by decide +kernel) (pa_cons (pe_lc (own := [("at", 7), ("row", 10)]) (g := (gTup K 2 (gCons (gName 7) (gCons (gName 10) gNil)))) (tt := (tTest (tOp (aEq K) (tOp (rIx K) (tVar 10) (tC (.int 2))) (tC (.str "open"))))) (te := (tTup (tCons (tOp (rI0 fun i j => .int (i - j)) (tC (.int 0)) (tOp (rIx K) (tVar 10) (tC (.int 1)))) (tCons (tVar 7) tNil)))) rfl sc_greatest_mean.nd (pi_enum (by rfl) T.n_enumerate (pa_cons (pv 0) pa_nil)) (blkOk_by (N := ["rows", "weight", "value", "word", "counted", "top", "bottom", "at", "falling", "less", "row"]) (sc := defScope s_greatest_mean) (by decide +kernel)) (fun _ _ _ _ _ => by exact (pg_tup rfl (pgs_cons (pg_name (i := 7) sc_greatest_mean.nd rfl (.inl rfl)) (pgs_cons (pg_name (i := 10) sc_greatest_mean.nd rfl (.inl rfl)) pgs_nil)))) (fun _ _ _ _ _ => by exact pts_one (pt_cmpR (op_eqA hr) (pe_ix ix_seq (pv 10) pe_int (fun _ _ => rfl)) pe_str (nomark _))) (fun _ _ _ _ _ => by exact (pe_tup (pa_cons (pe_op op_sub pe_int (pe_ix ix_seq (pv 10) pe_int (fun _ _ => rfl))) (pa_cons (pv 7) pa_nil))))) pa_nil)))
    (Evl.pss_cut (ps_for PassesOwn.never rfl (pi_list (pv 8)) (pg_tup rfl (pgs_cons (pg_name (i := 9) sc_greatest_mean.nd rfl (.inl rfl)) (pgs_cons (pg_name (i := 7) sc_greatest_mean.nd rfl (.inl rfl)) pgs_nil)))
    (pss_cons (ps_asg (pe_ix ix_seq (pv 0) (pv 7) (fun _ _ => rfl)) (pg_tup rfl (pgs_cons (pg_name (i := 1) sc_greatest_mean.nd rfl (.inl rfl)) (pgs_cons (pg_name (i := 2) sc_greatest_mean.nd rfl (.inl rfl)) (pgs_cons (pg_name (i := 3) sc_greatest_mean.nd rfl (.inl rfl)) pgs_nil)))))
    (pss_one (ps_if (PW.pt (pw_or (pt_cmpR (op_eqA hr) (pv 6) pe_int (nomark _)) (pw_or1 (pt_val (pe_c (c_below T) hr (by decide) (by rfl) (pa_cons (pe_c (c_share T) hr (by decide) (by rfl) (pa_cons (pv 5) (pa_cons (pv 6) pa_nil))) (pa_cons (pe_tup (pa_cons (pv 2) (pa_cons pe_int pa_nil))) pa_nil)))))))
    (pss_cons (ps_aug (i := 5) sc_greatest_mean.nd rfl (.inl rfl) (pe_op op_mulA (pv 1) (pv 2)) ip_add)
    (pss_cons (ps_aug (i := 6) sc_greatest_mean.nd rfl (.inl rfl) (pv 1) ip_add)
    (pss_one (ps_asg pe_bl (pg_sub (pv 4) (pv 7) set_list)))))
    pss_nil))))
    (pss_cons (ps_if (pt_cmpR (op_eqA hr) (pv 6) pe_int (nomark _))
    (pss_one (ps_ret pe_non))
    pss_nil)
    (pss_one (ps_ret (pe_tup (pa_cons (pe_c (c_share T) hr (by decide) (by rfl) (pa_cons (pv 5) (pa_cons (pv 6) pa_nil))) (pa_cons (pv 4) pa_nil))))))))))), ?_⟩
  try simp only [cxOf_K, cxOf_K', cxOf_mg, cxOf_mg']
  unfold sp_greatest_mean at h
  split at h
  case h_2 => exact h.elim
  rename_i a
  rw [show L2.start ["rows", "weight", "value", "word", "counted", "top", "bottom", "at", "falling", "less", "row"] [V.ref a] = [some (V.ref a), none, none, none, none, none, none, none, none, none, none] from rfl]
  obtain ⟨us, rows, hL, hA, hl, ok, q1, q2⟩ := h
  have hul := hA.len
  rw [List.length_map] at hul
  walk_at "sts"
  refine L_rl hL ?_
  refine lc_fm walk_list (fun i => (rows[i]?).map fun r => V.bl (isY r)) (by omega) (fun H' e => e.seq hL) ?_ ?_
  · rintro j x2 H3 H3' R1 R2 hj s3 ⟨e, hx⟩ r1 r2
    subst e
    obtain ⟨r, t, hr, rfl, ht⟩ := hit3w hA hx
    refine L_gTup (s3.seqT ht) rfl ?_
    walk_at "sts"
    refine ⟨rfl, ?_⟩
    walk_at "sts"
    exact r1 _ _ (by rw [hr]; rfl) (Same.refl _)
  intro pc H1 hpc s1 e1
  rw [hul, fm_get, show (fun r => V.bl (isY r)) = V.bl ∘ isY from rfl, ← List.map_map] at e1
  walk_at "sts"
  refine L_rl (s1.seq hL) ?_
  refine lc_fm walk_list (fun i => (rows[i]?).bind fun r => if isY r = true then some (V.int (r.1 * r.2.1)) else none) (by omega) (fun H' e => e.seq (s1.seq hL)) ?_ ?_
  · rintro j x2 H3 H3' R1 R2 hj s3 ⟨e, hx⟩ r1 r2
    subst e
    obtain ⟨r, t, hr, rfl, ht⟩ := hit3w hA hx
    have hok := ok r (List.mem_of_getElem? hr)
    refine L_gTup ((s1.trans s3).seqT ht) rfl ?_
    walk_at "sts"
    refine ⟨rfl, ?_⟩
    walk_at "sts"
    refine L_d (fun c => ?_) (fun c => ?_)
    · walk_at "sts"
      refine L_mulI ((bd_64 (by have := hok.1; have := hok.2.1; omega)).cmul (bd_64 (by have := hok.2.2.1; have := hok.2.2.2.1; omega))) ?_
      exact r1 _ _ (by rw [hr, Option.bind_some, if_pos (show isY r = true from decide_eq_true c)]) (Same.refl _)
    · exact r2 _ (by rw [hr, Option.bind_some, if_neg (by unfold isY; rw [decide_eq_false c]; exact Bool.false_ne_true)]) (Same.refl _)
  intro p2 H2 hp2 s2 e2
  rw [hul, fm_flt] at e2
  walk_at "sts"
  refine L_sum (ns := (rows.filter isY).map fun r => r.1 * r.2.1) (.of (by rw [e2, List.map_map]; rfl)) ?_
  have s12 := s1.trans s2
  walk_at "sts"
  refine L_rl (s12.seq hL) ?_
  refine lc_fm walk_list (fun i => (rows[i]?).bind fun r => if isY r = true then some (V.int r.1) else none) (by omega) (fun H' e => e.seq (s12.seq hL)) ?_ ?_
  · rintro j x2 H3 H3' R1 R2 hj s3 ⟨e, hx⟩ r1 r2
    subst e
    obtain ⟨r, t, hr, rfl, ht⟩ := hit3w hA hx
    refine L_gTup ((s12.trans s3).seqT ht) rfl ?_
    walk_at "sts"
    refine ⟨rfl, ?_⟩
    walk_at "sts"
    refine L_d (fun c => ?_) (fun c => ?_)
    · walk_at "sts"
      exact r1 _ _ (by rw [hr, Option.bind_some, if_pos (show isY r = true from decide_eq_true c)]) (Same.refl _)
    · exact r2 _ (by rw [hr, Option.bind_some, if_neg (by unfold isY; rw [decide_eq_false c]; exact Bool.false_ne_true)]) (Same.refl _)
  intro p3 H3 hp3 s3 e3
  rw [hul, fm_flt] at e3
  walk_at "sts"
  refine L_sum (ns := (rows.filter isY).map (·.1)) (.of (by rw [e3, List.map_map]; rfl)) ?_
  have s13 := s12.trans s3
  walk_at "sts"
  refine L_re (s13.seq hL) ?_
  refine lc_pr (walk_enum (K := K)) (fun i => (rows[i]?).bind fun r => if isO r = true then some (0 - r.2.1, (i : Int)) else none) (by omega) (fun H' e => e.seq (s13.seq hL)) ?_ ?_
  · rintro i x1 H4 H4' R R' hi sm ⟨T1, k0, t0, rfl, hT, rfl, hk, ht⟩ r1 r2
    cases hk
    replace ht : us[i]? = some t0 := ht
    obtain ⟨r, t, hr, rfl, hrt⟩ := hit3w hA ht
    refine L_gTup (.of upd_same) rfl ?_
    have s4 := same_upd (o := HO.tup [V.int (i : Int), V.ref t]) (s13.trans sm) hT
    have sT : Same H4 (upd H4 T1 (HO.tup [V.int (i : Int), V.ref t])) := same_new hT
    generalize upd H4 T1 (HO.tup [V.int (i : Int), V.ref t]) = H5 at s4 sT
    walk_at "sts"
    refine ⟨rfl, ?_⟩
    walk_at "sts"
    refine L_ixT (s4.seqT hrt) rfl ?_
    walk_at "sts"
    refine L_d (fun c => ?_) (fun c => ?_)
    · walk_at "sts"
      refine L_ixT (s4.seqT hrt) rfl ?_
      walk_at "sts"
      walk_at "nw"
      rename_i p6 hp6 H6 s6 e6
      exact r1 _ _ _ (by rw [hr, Option.bind_some, if_pos (show isO r = true from decide_eq_true c)]) (sT.trans s6) e6
    · exact r2 _ (by rw [hr, Option.bind_some, if_neg (by unfold isO; rw [decide_eq_false c]; exact Bool.false_ne_true)]) sT
  intro p4 H4 vs4 hp4 s4 e4 pr4
  rw [hul] at pr4
  have pr4 : Paired (T2 H4) vs4 (opens rows) := pr4
  walk_at "sts"
  refine ⟨p4, vs4, kk H4, rfl, .of e4, fun x hx => t2_of pr4 x hx, fun ys p5 h1 h2 np5 => ?_⟩
  have prs := sorted_kk pr4 h1 h2.perm
  have s5 := same_new (o := HO.lst ys) np5
  have e5 : upd H4 p5 (.lst ys) p5 = some (.lst ys) := upd_same
  have prs5 : Paired (T2 (upd H4 p5 (.lst ys))) ys (srt (opens rows)) := paired_imp2 (fun v p ⟨t, h1, h2⟩ => ⟨t, h1, s5 _ _ h2⟩) prs
  generalize upd H4 p5 (.lst ys) = H5 at s5 e5 prs5
  have e15 := (s2.trans (s3.trans (s4.trans s5))) _ _ e1
  have s05 := s13.trans (s4.trans s5)
  have hyl := Paired.length prs5
  have hne5 : p5 ≠ pc := ne_new np5 ⟨_, (s2.trans (s3.trans s4)) _ _ e1⟩
  clear e1 e2 e3 e4 pr4 prs h1 h2 hp2 hp3 hp4 np5
  walk_at "sts"
  refine L_cut (Mid := fun σ' H' => ∃ v1 v2 v3 v7 v8 v9 v10 : Option V, σ' = [some (.ref a), v1, v2, v3, some (.ref pc), some (.int (gm rows).1), some (.int (gm rows).2.1), v7, v8, v9, v10] ∧ Same H H' ∧ H' pc = some (.lst ((gm rows).2.2.map V.bl))) ?_ ?_
  case refine_2 =>
    rintro σ' H6 ⟨v1, v2, v3, v7, v8, v9, v10, rfl, s6, e6⟩
    have hgm := gm_ok ok
    have hb := zs_bd (fun r => r.1) 1000000 rows (gm rows).2.2 (fun r hr => by obtain ⟨h1, h2, _⟩ := ok r hr; first | omega | (dsimp only; omega)) (by decide)
    rw [← hgm.b] at hb
    have hn : 0 ≤ (gm rows).2.1 := by rw [hgm.b]; exact zs_nn _ _ _ fun r hr => by have := (ok r hr).1; first | omega | (dsimp only; omega)
    walk_at "sts"
    refine L_d (fun c => ?_) (fun c => ?_)
    · walk_at "sts"
      exact q1 c _ s6
    · walk_at "sts"
      refine ⟨c, (bd_64 (by omega)).mono (by decide), fun p7 H7 hp7 s7 e7 => ?_⟩
      rw [low_shr (by omega)] at e7
      walk_at "sts"
      walk_at "nw"
      rename_i p8 hp8 H8 s8 e8
      exact q2 c p8 p7 pc H8 ((s6.trans s7).free hp8) hpc (s6.trans (s7.trans s8)) e8 (s8 _ _ e7) ((s7.trans s8) _ _ e6)
  walk_at "sts"
  refine L_rl (.of e5) ?_
  refine f_it walk_list (fun j σ' H' => ∃ v1 v2 v3 v7 v9 v10 : Option V, σ' = [some (.ref a), v1, v2, v3, some (.ref pc), some (.int (sofar rows j).1), some (.int (sofar rows j).2.1), v7, some (.ref p5), v9, v10] ∧ Same H H' ∧ H' pc = some (.lst ((sofar rows j).2.2.map V.bl)) ∧ H' p5 = some (.lst ys) ∧ Paired (T2 H') ys (srt (opens rows))) ⟨_, _, _, _, _, _, rfl, s05, e15, e5, prs5⟩ (fun _ _ _ _ ⟨_, _, _, _, _, _, _, _, _, e, _⟩ => .of e) ?_ ?_
  · rintro j x σ' H6F H6G hj ⟨v1, v2, v3, v7, v9, v10, rfl, s6, e6, e56, pr6⟩ ⟨e, hx⟩
    obtain rfl : H6F = H6G := e.symm
    obtain ⟨p, hp, ⟨t, rfl, et⟩⟩ := LiI.paired_get pr6 hx
    have hjl := (List.getElem?_eq_some_iff.mp hp).1
    obtain ⟨i, r, hr, ho, rfl⟩ := opens_in ((srt_perm _).mem_iff.mp (List.mem_of_getElem? hp))
    have g := gi_at ok j (by omega)
    have hst : sofar rows (j + 1) = stp rows (sofar rows j) (0 - r.2.1, (i : Int)) := by
      unfold sofar
      rw [List.take_add_one, hp, Option.toList_some, List.foldl_append]
      rfl
    obtain ⟨o1, o2, o3, o4, _⟩ := ok r (List.mem_of_getElem? hr)
    have hbT := zs_bd (fun r => r.1 * r.2.1) 1000000000000000 rows (sofar rows j).2.2 (fun r hr => by
      obtain ⟨h1, h2, h3, h4, _⟩ := ok r hr
      have h5 : r.1 * r.2.1 ≤ r.1 * 1000000000 := Int.mul_le_mul_of_nonneg_left h4 (by omega)
      have h6 : r.1 * (-1000000000) ≤ r.1 * r.2.1 := Int.mul_le_mul_of_nonneg_left h3 (by omega)
      first | omega | (dsimp only; omega)) (by decide)
    rw [← g.t] at hbT
    have hbB := zs_bd (fun r => r.1) 1000000 rows (sofar rows j).2.2 (fun r hr => by obtain ⟨h1, h2, _⟩ := ok r hr; first | omega | (dsimp only; omega)) (by decide)
    rw [← g.b] at hbB
    have hB0 : 0 ≤ (sofar rows j).2.1 := by rw [g.b]; exact zs_nn _ _ _ fun r hr => by have := (ok r hr).1; first | omega | (dsimp only; omega)
    have hlen := g.len
    unfold stp at hst
    rw [show ((0 - r.2.1, (i : Int)) : Int × Int).2.toNat = i from rfl, hr] at hst
    dsimp only at hst
    generalize sofar rows j = S at *
    obtain ⟨T0, B0, c0⟩ := S
    dsimp only at *
    have hir := (List.getElem?_eq_some_iff.mp hr).1
    obtain ⟨ux, hux⟩ : ∃ ux, us[i]? = some ux := ⟨_, List.getElem?_eq_getElem (by omega)⟩
    obtain ⟨r', t', hr', rfl, ht'⟩ := hit3w hA hux
    rw [hr] at hr'
    cases hr'
    refine L_gTup (.of et) rfl ?_
    walk_at "sts"
    refine L_ixL (s6.seq hL) (atI_nat hux) ?_
    refine L_gTup (s6.seqT ht') rfl ?_
    walk_at "sts"
    refine L_d (fun c => ?_) (fun c => ?_)
    · walk_at "sts"
      refine L_mulI ((bd_64 (by omega)).cmul (bd_64 (by omega))) ?_
      walk_at "sts"
      refine L_setL e6 (ixN_of (by omega) (by rw [List.length_map]; omega)) ?_
      walk_at "sts"
      have nt : ∀ v p, T2 H6F v p → T2 (upd H6F pc (.lst ((c0.map V.bl).set ((i : Nat) : Int).toNat (.bl true)))) v p := fun v p h => by
        obtain ⟨t', h1, h2⟩ := h
        exact ⟨t', h1, by rw [upd_ne (fun z => by rw [z, e6] at h2; cases h2)]; exact h2⟩
      rw [hst, if_pos (.inl c)]
      exact ⟨_, _, _, _, _, _, rfl, same_mut s6 hpc, by rw [upd_same, Int.toNat_natCast, List.map_set], by rw [upd_ne hne5]; exact e56, paired_imp2 nt pr6⟩
    · walk_at "sts"
      refine ⟨c, (bd_64 (by omega)).mono (by decide), fun p7 H7 hp7 s7 e7 => ?_⟩
      rw [low_shr (by omega)] at e7
      walk_at "sts"
      walk_at "nw"
      rename_i p8 hp8 H8 s8 e8
      have s78 := s7.trans s8
      walk_at "sts"
      refine ⟨_, _, r.2.1, 1, fr_low (by omega) (s8 _ _ e7) ((bd_64 (by omega)).mono (by decide)) ((bd_64 (by omega)).mono (by decide)), ⟨.of e8, by decide, (bd_64 (by omega)).mono (by decide), (bd_64 (by decide)).mono (by decide)⟩, ?_⟩
      rw [show decide ((low T0 B0).1 * 1 < r.2.1 * (low T0 B0).2) = decide (T0 < r.2.1 * B0) from decide_eq_decide.mpr (low_lt (by omega))]
      have e68 := s78 _ _ e6
      have e568 := s78 _ _ e56
      have pr8 : Paired (T2 H8) ys (srt (opens rows)) := paired_imp2 (fun v p h => by obtain ⟨t', h1, h2⟩ := h; exact ⟨t', h1, s78 _ _ h2⟩) pr6
      walk_at "sts"
      refine L_d (fun c2 => ?_) (fun c2 => ?_)
      · walk_at "sts"
        refine L_mulI ((bd_64 (by omega)).cmul (bd_64 (by omega))) ?_
        walk_at "sts"
        refine L_setL e68 (ixN_of (by omega) (by rw [List.length_map]; omega)) ?_
        walk_at "sts"
        have nt : ∀ v p, T2 H8 v p → T2 (upd H8 pc (.lst ((c0.map V.bl).set ((i : Nat) : Int).toNat (.bl true)))) v p := fun v p h => by
          obtain ⟨t', h1, h2⟩ := h
          exact ⟨t', h1, by rw [upd_ne (fun z => by rw [z, e68] at h2; cases h2)]; exact h2⟩
        rw [hst, if_pos (.inr c2)]
        exact ⟨_, _, _, _, _, _, rfl, same_mut (s6.trans s78) hpc, by rw [upd_same, Int.toNat_natCast, List.map_set], by rw [upd_ne hne5]; exact e568, paired_imp2 nt pr8⟩
      · walk_at "sts"
        rw [hst, if_neg (fun z => z.elim c c2)]
        exact ⟨_, _, _, _, _, _, rfl, s6.trans s78, e68, e568, pr8⟩
  · rintro σ' H6 ⟨v1, v2, v3, v7, v9, v10, rfl, s6, e6, e56, pr6⟩
    have e : sofar rows ys.length = gm rows := by unfold sofar gm; rw [hyl, List.take_length]
    rw [e] at e6 ⊢
    exact ⟨_, _, _, _, _, _, _, rfl, s6, e6⟩
theorem gc_abs {a b : Int} : gc (if a < 0 then -a else a) b = gc a b := by
  unfold gc
  split
  · rw [Int.neg_gcd]
  · rfl
def sp__law_low (K : PySem.W.Frag) (mg : Str → Option Value) : Sp := fun vs H Q _ => match vs with | [.int t, .int b] => 0 < b ∧ Bd 2000 b ∧ NewT H [.int (low t b).1, .int (low t b).2] Q | _ => False
theorem q__law_low {H : Hp} {Q : VK} {E : XK} {t : Int} {b : Int} (q : 0 < b ∧ Bd 2000 b ∧ NewT H [.int (low t b).1, .int (low t b).2] Q) : sp__law_low K mg [.int t, .int b] H Q E := q
local macro_rules | `(tactic| walk_at "op") => `(tactic| with_reducible refine q__law_low ?_)
theorem c__law_low (T : Txt K mg) : Cal P w K mg base 1 "_law_low" (sp__law_low K mg) := by
  refine T.d__law_low.cal (k := 0) sc__law_low (by intro vs H Q E h; unfold sp__law_low at h; split at h <;> first | rfl | exact h.elim) fun f cdv A outer s H vs Q E hr h => ?_
  refine ⟨_, (pss_cons (ps_set (i := 2) sc__law_low.nd rfl (.inl rfl) (pe_callB call_absA (by rfl) T.n_abs (by decide +kernel) (pa_cons (pv 0) pa_nil)))
    (pss_cons (ps_set (i := 3) sc__law_low.nd rfl (.inl rfl) (pv 1))
    (pss_cons (ps_while PassesOwn.never (pt_cmpR op_gt (pv 3) pe_int (nomark _))
    (pss_one (ps_par (i := 2) (j := 3) rfl sc__law_low.nd rfl rfl (by decide) rfl rfl (pa_cons (pv 3) (pa_cons (pe_op op_mod (pv 2) (pv 3)) pa_nil)) (by rfl))))
    (pss_one (ps_ret (pe_tup (pa_cons (pe_op op_fdivW (pv 0) (pv 2)) (pa_cons (pe_op op_fdivW (pv 1) (pv 2)) pa_nil)))))))), ?_⟩
  try simp only [cxOf_K, cxOf_K', cxOf_mg, cxOf_mg']
  unfold sp__law_low at h
  split at h
  case h_2 => exact h.elim
  rename_i t b
  rw [show L2.start ["_law_top", "_law_bottom", "_law_one", "_law_other"] [V.int t, V.int b] = [some (V.int t), some (V.int b), none, none] from rfl]
  obtain ⟨hb, hd, q⟩ := h
  have key : CDivW t (gc t b) ∧ CDivW b (gc t b) := by
    have g := gc_pos (a := t) hb
    have l := gc_le (a := t) hb
    have z : Bd 2000 (gc t b) := by
      unfold Bd at *
      omega
    exact ⟨z.cdiv g, z.cdiv g⟩
  have g := gc_pos (a := t) hb
  walk_at "sts"
  refine L_while (fun m σ' H' => ∃ x y : Int, σ' = [some (.int t), some (.int b), some (.int x), some (.int y)] ∧ 0 ≤ x ∧ 0 ≤ y ∧ gc x y = gc t b ∧ m = y.toNat ∧ H' = H) ⟨_, _, b, rfl, by split <;> omega, by omega, gc_abs, rfl, rfl⟩ ?_
  rintro m σ' H' ⟨x, y, rfl, hx, hy, e, rfl, rfl⟩
  walk_at "sts"
  refine L_d (fun c => ?_) (fun c => ?_)
  · refine L_N ?_
    walk_at "sts"
    refine L_I c ?_
    walk_at "sts"
    have h1 := Int.emod_nonneg x (show y ≠ 0 by omega)
    have h2 := Int.emod_lt_of_pos x c
    exact ⟨(x % y).toNat, by omega, y, x % y, rfl, by omega, h1, (gc_step c).trans e, rfl, rfl⟩
  · have hy0 : y = 0 := by omega
    subst hy0
    have hx2 : x = gc t b := by
      rw [← e, ← gc_zero, if_neg (by omega)]
    subst hx2
    walk_at "sts"
    refine L_I key.1 ?_
    walk_at "sts"
    refine L_I key.2 ?_
    walk_at "sts"
    exact L_new (sz_dec (by show 2 ≤ 1000000; decide)) q.at
abbrev R4 := Int × Int × Int × Str
def d4 (r : R4) : PyData := .tuple [.int r.1, .int r.2.1, .int r.2.2.1, .str r.2.2.2]
def Ok4 (r : R4) : Prop := 1 ≤ r.1 ∧ r.1 ≤ 1000000 ∧ -1000000000 ≤ r.2.1 ∧ r.2.1 ≤ r.2.2.1 ∧ r.2.2.1 ≤ 1000000000 ∧ (r.2.2.2 = ("yes" : Str) ∨ r.2.2.2 = ("no" : Str) ∨ r.2.2.2 = ("open" : Str))
theorem hit4 {H : Hp} {us : List V} {c : List R4} (hA : DpAll K H us (c.map d4)) {i : Nat} {x : V} (hx : us[i]? = some x) : ∃ m t, c[i]? = some m ∧ x = .ref t ∧ SqT K H t [.int m.1, .int m.2.1, .int m.2.2.1, .str m.2.2.2] := by
  obtain ⟨d, h1, h2⟩ := hA.of hx
  rw [List.getElem?_map] at h1
  obtain ⟨m, h3, rfl⟩ := Option.map_eq_some_iff.mp h1
  obtain ⟨t, x1, x2, x3, x4, rfl, h4, h5, h6, h7, h8⟩ := of_t4 h2
  rw [of_int h5, of_int h6, of_int h7, of_str h8] at h4
  exact ⟨m, t, h3, rfl, h4⟩
def hiR (r : R4) : Rv := (r.1, r.2.2.1, r.2.2.2)
def loR (r : R4) : Rv := (r.1, 0 - r.2.1, r.2.2.2)
theorem hi_ok {rows : List R4} (h : ∀ r ∈ rows, Ok4 r) : ∀ r ∈ rows.map hiR, OkV r := fun r hr => by
  obtain ⟨x, hx, rfl⟩ := List.mem_map.mp hr
  obtain ⟨h1, h2, h3, h4, h5, h6⟩ := h x hx
  exact ⟨h1, h2, by show -1000000000 ≤ x.2.2.1; omega, h5, h6⟩
theorem lo_ok {rows : List R4} (h : ∀ r ∈ rows, Ok4 r) : ∀ r ∈ rows.map loR, OkV r := fun r hr => by
  obtain ⟨x, hx, rfl⟩ := List.mem_map.mp hr
  obtain ⟨h1, h2, h3, h4, h5, h6⟩ := h x hx
  exact ⟨h1, h2, by show -1000000000 ≤ 0 - x.2.1; omega, by show 0 - x.2.1 ≤ 1000000000; omega, h6⟩
def fill (g : R4 → Int) (rows : List R4) (c : List Bool) : List V := (rows.zip c).map fun z => if z.2 = true then .int (g z.1) else .non
def AllNo (rows : List R4) : Prop := ∀ r ∈ rows, r.2.2.2 = ("no" : Str)
theorem b_zero {rows : List R4} {h : R4 → Rv} (hw : ∀ r, (h r).2.2 = r.2.2.2) (ok : ∀ r ∈ rows.map h, OkV r) : (AllNo rows → (gm (rows.map h)).2.1 = 0) ∧ (¬ AllNo rows → 0 < (gm (rows.map h)).2.1) := by
  have g := gm_ok ok
  refine ⟨fun hn => g.z fun r hr => ?_, fun hn => g.nz ?_⟩
  · obtain ⟨x, hx, rfl⟩ := List.mem_map.mp hr
    rw [hw]
    exact hn x hx
  · refine Classical.byContradiction fun hno => hn fun r hr => Classical.byContradiction fun hr2 => hno ⟨h r, List.mem_map_of_mem hr, by rw [hw]; exact hr2⟩
def sp_is_answer (K : PySem.W.Frag) (mg : Str → Option Value) : Sp := fun vs H Q _ => match vs with | [.ref t, .int n] => ∃ (w l h : Int) (xs : List V), SqT K H t (.int w :: .int l :: .int h :: xs) ∧ ((xs.length + 3 : Nat) : Int) = n ∧ (1 ≤ w ∧ w ≤ 1000000 ∧ -1000000000 ≤ l ∧ l ≤ h ∧ h ≤ 1000000000) ∧ Q (.bl true) H | _ => False
theorem q_is_answer {H : Hp} {Q : VK} {E : XK} {t : Addr} {n : Int} (q : ∃ (w l h : Int) (xs : List V), SqT K H t (.int w :: .int l :: .int h :: xs) ∧ ((xs.length + 3 : Nat) : Int) = n ∧ (1 ≤ w ∧ w ≤ 1000000 ∧ -1000000000 ≤ l ∧ l ≤ h ∧ h ≤ 1000000000) ∧ Q (.bl true) H) : sp_is_answer K mg [.ref t, .int n] H Q E := q
local macro_rules | `(tactic| walk_at "op") => `(tactic| with_reducible refine q_is_answer ?_)
theorem c_is_answer (T : Txt K mg) : Cal P w K mg base 2 "is_answer" (sp_is_answer K mg) := by
  refine T.d_is_answer.cal (k := 1) sc_is_answer (by intro vs H Q E h; unfold sp_is_answer at h; split at h <;> first | rfl | exact h.elim) fun f cdv A outer s H vs Q E hr h => ?_
  refine ⟨_, (pss_cons (ps_if (PW.pt (pw_or (pt_not (pt_val (pe_callB call_isi (by rfl) T.n_isinstance (by decide +kernel) (pa_cons (pv 0) (pa_cons (pe_ty "tuple" (by rfl) T.n_tuple (by decide +kernel)) pa_nil))))) (pw_or (pt_cmpR (op_neA hr) (pe_callB call_lenA (by rfl) T.n_len (by decide +kernel) (pa_cons (pv 0) pa_nil)) (pv 1) (nomark _)) (pw_or1 (pt_not (pt_val (pe_c (c_is_whole T) hr (by decide) (by rfl) (pa_cons (pe_ix ix_seq (pv 0) pe_int (fun _ _ => rfl)) (pa_cons pe_int (pa_cons (pe_gc (by rfl) T.g_MOST_WEIGHT) pa_nil))))))))))
    (pss_one (ps_ret pe_bl))
    pss_nil)
    (pss_one (ps_ret (pe_and (pe_c (c_is_whole T) hr (by decide) (by rfl) (pa_cons (pe_ix ix_seq (pv 0) pe_int (fun _ _ => rfl)) (pa_cons (pe_op op_sub pe_int (pe_gc (by rfl) T.g_FAR)) (pa_cons (pe_gc (by rfl) T.g_FAR) pa_nil)))) (pe_one (pe_c (c_is_whole T) hr (by decide) (by rfl) (pa_cons (pe_ix ix_seq (pv 0) pe_int (fun _ _ => rfl)) (pa_cons (pe_ix ix_seq (pv 0) pe_int (fun _ _ => rfl)) (pa_cons (pe_gc (by rfl) T.g_FAR) pa_nil))))))))), ?_⟩
  try simp only [cxOf_K, cxOf_K', cxOf_mg, cxOf_mg']
  unfold sp_is_answer at h
  split at h
  case h_2 => exact h.elim
  rename_i t n
  rw [show L2.start ["thing", "many"] [V.ref t, V.int n] = [some (V.ref t), some (V.int n)] from rfl]
  obtain ⟨w, l, h, xs, hT, hn, ⟨o1, o2, o3, o4, o5⟩, q⟩ := h
  walk_at "sts"
  refine L_isi (tyx_T hT) (b := true) (by decide +kernel) ?_
  walk_at "sts"
  refine L_lenT hT ?_
  walk_at "sts"
  refine L_ndF (by rw [← hn]; simp; omega) ?_
  walk_at "sts"
  refine L_ixT hT (atI_int (by decide) rfl) ?_
  walk_at "sa"
  refine L_ixT hT (atI_int (by decide) rfl) ?_
  walk_at "sa"
  refine L_ixT hT (atI_int (by decide) rfl) ?_
  walk_at "sa"
  refine L_ixT hT (atI_int (by decide) rfl) ?_
  walk_at "sa"
  exact q
def sp_look (K : PySem.W.Frag) (mg : Str → Option Value) : Sp := fun vs H Q _ => match vs with | [.ref a, .int n] => ∃ us, SqL K H a us ∧ us.length ≤ 24 ∧ (∀ u ∈ us, ∃ (t : Addr) (w l h : Int) (xs : List V), u = .ref t ∧ SqT K H t (.int w :: .int l :: .int h :: xs) ∧ ((xs.length + 3 : Nat) : Int) = n ∧ (1 ≤ w ∧ w ≤ 1000000 ∧ -1000000000 ≤ l ∧ l ≤ h ∧ h ≤ 1000000000)) ∧ Q .non H | _ => False
theorem q_look {H : Hp} {Q : VK} {E : XK} {a : Addr} {n : Int} (q : ∃ us, SqL K H a us ∧ us.length ≤ 24 ∧ (∀ u ∈ us, ∃ (t : Addr) (w l h : Int) (xs : List V), u = .ref t ∧ SqT K H t (.int w :: .int l :: .int h :: xs) ∧ ((xs.length + 3 : Nat) : Int) = n ∧ (1 ≤ w ∧ w ≤ 1000000 ∧ -1000000000 ≤ l ∧ l ≤ h ∧ h ≤ 1000000000)) ∧ Q .non H) : sp_look K mg [.ref a, .int n] H Q E := q
local macro_rules | `(tactic| walk_at "op") => `(tactic| with_reducible refine q_look ?_)
theorem c_look (T : Txt K mg) : Cal P w K mg base 3 "look" (sp_look K mg) := by
  refine T.d_look.cal (k := 2) sc_look (by intro vs H Q E h; unfold sp_look at h; split at h <;> first | rfl | exact h.elim) fun f cdv A outer s H vs Q E hr h => ?_
  refine ⟨_, (pss_cons (ps_if (PW.pt (pw_or (pt_not (pt_val (pe_callB call_isi (by rfl) T.n_isinstance (by decide +kernel) (pa_cons (pv 0) (pa_cons (pe_ty "list" (by rfl) T.n_list (by decide +kernel)) pa_nil))))) (pw_or1 (pt_cmpR op_gt (pe_callB call_lenA (by rfl) T.n_len (by decide +kernel) (pa_cons (pv 0) pa_nil)) (pe_gc (by rfl) T.g_MOST_ANSWERS) (nomark _)))))
    (pss_one ps_never)
    pss_nil)
    (pss_one (ps_for PassesOwn.never rfl (pi_list (pv 0)) (pg_name (i := 2) sc_look.nd rfl (.inl rfl))
    (pss_one (ps_if (pt_not (pt_val (pe_c (c_is_answer T) hr (by decide) (by rfl) (pa_cons (pv 2) (pa_cons (pv 1) pa_nil)))))
    (pss_one ps_never)
    pss_nil))))), ?_⟩
  try simp only [cxOf_K, cxOf_K', cxOf_mg, cxOf_mg']
  unfold sp_look at h
  split at h
  case h_2 => exact h.elim
  rename_i a n
  rw [show L2.start ["answers", "many", "answer"] [V.ref a, V.int n] = [some (V.ref a), some (V.int n), none] from rfl]
  obtain ⟨us, hL, hl, ho, q⟩ := h
  walk_at "sts"
  refine L_isi (tyx_L hL) (b := true) (by decide +kernel) ?_
  walk_at "sts"
  refine L_lenL hL ?_
  walk_at "sts"
  refine L_dF (by omega) ?_
  walk_at "sts"
  refine L_rl hL ?_
  refine f_it walk_list (fun i σ' H' => ∃ v, σ' = [some (.ref a), some (.int n), v] ∧ H' = H) ⟨none, rfl, rfl⟩ (fun i σ' H' _ ⟨_, _, e⟩ => e ▸ hL) ?_ ?_
  · rintro i x σ' H' H'' hi ⟨v, rfl, rfl⟩ ⟨rfl, e⟩
    obtain ⟨t, w, l, h, xs, rfl, hT, hn, ok⟩ := ho x (List.mem_of_getElem? e)
    walk_at "sts"
    refine ⟨w, l, h, xs, hT, hn, ok, ?_⟩
    walk_at "sts"
    exact ⟨_, rfl, rfl⟩
  · rintro σ' H' ⟨v, rfl, rfl⟩
    exact q
def sp_filled (K : PySem.W.Frag) (mg : Str → Option Value) : Sp := fun vs H Q _ => match vs with | [.ref a, .ref b, .int pl] => ∃ (us : List V) (rows : List R4) (c : List Bool) (g : R4 → Int), SqL K H a us ∧ DpAll K H us (rows.map d4) ∧ SqL K H b (c.map V.bl) ∧ c.length = rows.length ∧ rows.length ≤ 24 ∧ ((pl = 1 ∧ g = fun r => r.2.1) ∨ (pl = 2 ∧ g = fun r => r.2.2.1)) ∧ NewL H (fill g rows c) Q | _ => False
theorem q_filled {H : Hp} {Q : VK} {E : XK} {a : Addr} {b : Addr} {pl : Int} (q : ∃ (us : List V) (rows : List R4) (c : List Bool) (g : R4 → Int), SqL K H a us ∧ DpAll K H us (rows.map d4) ∧ SqL K H b (c.map V.bl) ∧ c.length = rows.length ∧ rows.length ≤ 24 ∧ ((pl = 1 ∧ g = fun r => r.2.1) ∨ (pl = 2 ∧ g = fun r => r.2.2.1)) ∧ NewL H (fill g rows c) Q) : sp_filled K mg [.ref a, .ref b, .int pl] H Q E := q
local macro_rules | `(tactic| walk_at "op") => `(tactic| with_reducible refine q_filled ?_)
theorem c_filled (T : Txt K mg) : Cal P w K mg base 1 "filled" (sp_filled K mg) := by
  refine T.d_filled.cal (k := 0) sc_filled (by intro vs H Q E h; unfold sp_filled at h; split at h <;> first | rfl | exact h.elim) fun f cdv A outer s H vs Q E hr h => ?_
  refine ⟨_, (pss_one (ps_ret (pe_lc (own := [("answer", 3), ("counts", 4)]) (g := (gTup K 2 (gCons (gName 3) (gCons (gName 4) gNil)))) (tt := tYes) (te := (tIf (tB (tVar 4)) (tOp (rIx K) (tVar 3) (tVar 2)) (tC .non))) rfl sc_filled.nd (pi_zip (by rfl) T.n_zip (pa_cons (pv 0) (pa_cons (pv 1) pa_nil))) (blkOk_by (N := ["answers", "counted", "place", "answer", "counts"]) (sc := defScope s_filled) (by decide +kernel)) (fun _ _ _ _ _ => by exact (pg_tup rfl (pgs_cons (pg_name (i := 3) sc_filled.nd rfl (.inl rfl)) (pgs_cons (pg_name (i := 4) sc_filled.nd rfl (.inl rfl)) pgs_nil)))) (fun _ _ _ _ _ => pts_nil) (fun _ _ _ _ _ => by exact (pe_ifExp (pt_val (pv 4)) (pe_ix ix_seq (pv 3) (pv 2) (fun _ _ => rfl)) pe_non))))), ?_⟩
  try simp only [cxOf_K, cxOf_K', cxOf_mg, cxOf_mg']
  unfold sp_filled at h
  split at h
  case h_2 => exact h.elim
  rename_i a b pl
  rw [show L2.start ["answers", "counted", "place", "answer", "counts"] [V.ref a, V.ref b, V.int pl] = [some (V.ref a), some (V.ref b), some (V.int pl), none, none] from rfl]
  obtain ⟨us, rows, c, g, ha, hA, hb, hc, hl, hg, q⟩ := h
  have hul := hA.len
  rw [List.length_map] at hul
  walk_at "sts"
  refine L_rz ha hb ?_
  refine lc_fm (walk_zip (n := rows.length) (by rw [List.length_map]; omega)) (fun i => ((rows.zip c)[i]?).map fun z => if z.2 = true then V.int (g z.1) else .non) (by omega) (fun H' e => ⟨e.seq ha, e.seq hb⟩) ?_ ?_
  · rintro i x H2 H' R R' hi sm ⟨T1, y, z, rfl, hT, rfl, hy, hz⟩ r1 r2
    obtain ⟨r, t, hr, rfl, ht⟩ := hit4 hA hy
    replace hz : (c.map V.bl)[i]? = some z := hz
    rw [List.getElem?_map] at hz
    obtain ⟨b0, hb0, rfl⟩ := Option.map_eq_some_iff.mp hz
    have hzip : (rows.zip c)[i]? = some (r, b0) := by rw [List.getElem?_zip_eq_some]; exact ⟨hr, hb0⟩
    have s4 := same_upd (o := HO.tup [V.ref t, V.bl b0]) sm hT
    refine L_gTup (.of upd_same) rfl ?_
    have sT : Same H2 (upd H2 T1 (HO.tup [V.ref t, V.bl b0])) := same_new hT
    generalize upd H2 T1 (HO.tup [V.ref t, V.bl b0]) = H5 at s4 sT
    walk_at "sts"
    refine ⟨rfl, ?_⟩
    walk_at "sts"
    refine L_b (fun cb => ?_) (fun cb => ?_)
    · subst cb
      walk_at "sts"
      rcases hg with ⟨rfl, rfl⟩ | ⟨rfl, rfl⟩
      · refine L_ixT (s4.seqT ht) rfl ?_
        exact r1 _ _ (by rw [hzip]; rfl) sT
      · refine L_ixT (s4.seqT ht) rfl ?_
        exact r1 _ _ (by rw [hzip]; rfl) sT
    · subst cb
      walk_at "sts"
      exact r1 _ _ (by rw [hzip]; rfl) sT
  · intro p H' hp s e
    rw [show rows.length = (rows.zip c).length by rw [List.length_zip]; omega, fm_get] at e
    exact q p H' hp s e
def sp_mean_stretch (K : PySem.W.Frag) (mg : Str → Option Value) : Sp := fun vs H Q _ => match vs with | [.ref a] => ∃ (us : List V) (rows : List R4), SqL K H a us ∧ DpAll K H us (rows.map d4) ∧ rows.length ≤ 24 ∧ (∀ r ∈ rows, Ok4 r) ∧ (AllNo rows → ∀ H', Same H H' → Q .non H') ∧ (¬ AllNo rows → ∀ pt p1 p2 p3 p4 H', H pt = none → H p3 = none → H p4 = none → p3 ≠ p4 → Same H H' → H' pt = some (.tup [.ref p1, .ref p2, .ref p3, .ref p4]) → H' p1 = some (.tup [.int (0 - (low (gm (rows.map loR)).1 (gm (rows.map loR)).2.1).1), .int (low (gm (rows.map loR)).1 (gm (rows.map loR)).2.1).2]) → H' p2 = some (.tup [.int (low (gm (rows.map hiR)).1 (gm (rows.map hiR)).2.1).1, .int (low (gm (rows.map hiR)).1 (gm (rows.map hiR)).2.1).2]) → H' p3 = some (.lst (fill (fun r => r.2.1) rows (gm (rows.map loR)).2.2)) → H' p4 = some (.lst (fill (fun r => r.2.2.1) rows (gm (rows.map hiR)).2.2)) → Q (.ref pt) H') | _ => False
theorem q_mean_stretch {H : Hp} {Q : VK} {E : XK} {a : Addr} (q : ∃ (us : List V) (rows : List R4), SqL K H a us ∧ DpAll K H us (rows.map d4) ∧ rows.length ≤ 24 ∧ (∀ r ∈ rows, Ok4 r) ∧ (AllNo rows → ∀ H', Same H H' → Q .non H') ∧ (¬ AllNo rows → ∀ pt p1 p2 p3 p4 H', H pt = none → H p3 = none → H p4 = none → p3 ≠ p4 → Same H H' → H' pt = some (.tup [.ref p1, .ref p2, .ref p3, .ref p4]) → H' p1 = some (.tup [.int (0 - (low (gm (rows.map loR)).1 (gm (rows.map loR)).2.1).1), .int (low (gm (rows.map loR)).1 (gm (rows.map loR)).2.1).2]) → H' p2 = some (.tup [.int (low (gm (rows.map hiR)).1 (gm (rows.map hiR)).2.1).1, .int (low (gm (rows.map hiR)).1 (gm (rows.map hiR)).2.1).2]) → H' p3 = some (.lst (fill (fun r => r.2.1) rows (gm (rows.map loR)).2.2)) → H' p4 = some (.lst (fill (fun r => r.2.2.1) rows (gm (rows.map hiR)).2.2)) → Q (.ref pt) H')) : sp_mean_stretch K mg [.ref a] H Q E := q
local macro_rules | `(tactic| walk_at "op") => `(tactic| with_reducible refine q_mean_stretch ?_)
theorem c_mean_stretch (T : Txt K mg) : Cal P w K mg base 4 "mean_stretch" (sp_mean_stretch K mg) := by
  refine T.d_mean_stretch.cal (k := 3) sc_mean_stretch (by intro vs H Q E h; unfold sp_mean_stretch at h; split at h <;> first | rfl | exact h.elim) fun f cdv A outer s H vs Q E hr h => ?_
  refine ⟨_, (pss_cons (ps_expr (pe_c (c_look T) hr (by decide) (by rfl) (pa_cons (pv 0) (pa_cons pe_int pa_nil))))
    (pss_cons (ps_for PassesOwn.never rfl (pi_list (pv 0)) (pg_name (i := 1) sc_mean_stretch.nd rfl (.inl rfl))
    (pss_one (ps_if (PW.pt (pw_and (pt_cmpR (op_neA hr) (pe_ix ix_seq (pv 1) pe_int (fun _ _ => rfl)) pe_str (nomark _)) (pw_and (pt_cmpR (op_neA hr) (pe_ix ix_seq (pv 1) pe_int (fun _ _ => rfl)) pe_str (nomark _)) (pw_and1 (pt_cmpR (op_neA hr) (pe_ix ix_seq (pv 1) pe_int (fun _ _ => rfl)) pe_str (nomark _))))))
    (pss_one ps_never)
    pss_nil)))
    (pss_cons (ps_set (i := 2) sc_mean_stretch.nd rfl (.inl rfl) (pe_c (c_greatest_mean T) hr (by decide) (by rfl) (pa_cons (pe_lc (own := [("weight", 6), ("low", 7), ("high", 8), ("word", 9)]) (g := (gTup K 4 (gCons (gName 6) (gCons (gName 7) (gCons (gName 8) (gCons (gName 9) gNil)))))) (tt := tYes) (te := (tTup (tCons (tVar 6) (tCons (tVar 8) (tCons (tVar 9) tNil))))) rfl sc_mean_stretch.nd (pi_list (pv 0)) (blkOk_by (N := ["answers", "answer", "most", "least", "top", "bottom", "weight", "low", "high", "word"]) (sc := defScope s_mean_stretch) (by decide +kernel)) (fun _ _ _ _ _ => by exact (pg_tup rfl (pgs_cons (pg_name (i := 6) sc_mean_stretch.nd rfl (.inl rfl)) (pgs_cons (pg_name (i := 7) sc_mean_stretch.nd rfl (.inl rfl)) (pgs_cons (pg_name (i := 8) sc_mean_stretch.nd rfl (.inl rfl)) (pgs_cons (pg_name (i := 9) sc_mean_stretch.nd rfl (.inl rfl)) pgs_nil)))))) (fun _ _ _ _ _ => pts_nil) (fun _ _ _ _ _ => by exact (pe_tup (pa_cons (pv 6) (pa_cons (pv 8) (pa_cons (pv 9) pa_nil)))))) pa_nil)))
    (pss_cons (ps_set (i := 3) sc_mean_stretch.nd rfl (.inl rfl) (pe_c (c_greatest_mean T) hr (by decide) (by rfl) (pa_cons (pe_lc (own := [("weight", 6), ("low", 7), ("high", 8), ("word", 9)]) (g := (gTup K 4 (gCons (gName 6) (gCons (gName 7) (gCons (gName 8) (gCons (gName 9) gNil)))))) (tt := tYes) (te := (tTup (tCons (tVar 6) (tCons (tOp (rI0 fun i j => .int (i - j)) (tC (.int 0)) (tVar 7)) (tCons (tVar 9) tNil))))) rfl sc_mean_stretch.nd (pi_list (pv 0)) (blkOk_by (N := ["answers", "answer", "most", "least", "top", "bottom", "weight", "low", "high", "word"]) (sc := defScope s_mean_stretch) (by decide +kernel)) (fun _ _ _ _ _ => by exact (pg_tup rfl (pgs_cons (pg_name (i := 6) sc_mean_stretch.nd rfl (.inl rfl)) (pgs_cons (pg_name (i := 7) sc_mean_stretch.nd rfl (.inl rfl)) (pgs_cons (pg_name (i := 8) sc_mean_stretch.nd rfl (.inl rfl)) (pgs_cons (pg_name (i := 9) sc_mean_stretch.nd rfl (.inl rfl)) pgs_nil)))))) (fun _ _ _ _ _ => pts_nil) (fun _ _ _ _ _ => by exact (pe_tup (pa_cons (pv 6) (pa_cons (pe_op op_sub pe_int (pv 7)) (pa_cons (pv 9) pa_nil)))))) pa_nil)))
    (pss_cons (ps_if (PW.pt (pw_or (pt_cmpR op_isNA (pv 2) pe_non (nomark _)) (pw_or1 (pt_cmpR op_isNA (pv 3) pe_non (nomark _)))))
    (pss_one (ps_ret pe_non))
    pss_nil)
    (pss_cons (ps_asg (pe_ix ix_seq (pv 3) pe_int (fun _ _ => rfl)) (pg_tup rfl (pgs_cons (pg_name (i := 4) sc_mean_stretch.nd rfl (.inl rfl)) (pgs_cons (pg_name (i := 5) sc_mean_stretch.nd rfl (.inl rfl)) pgs_nil))))
    (pss_one (ps_ret (pe_tup (pa_cons (pe_tup (pa_cons (pe_op op_sub pe_int (pv 4)) (pa_cons (pv 5) pa_nil))) (pa_cons (pe_ix ix_seq (pv 2) pe_int (fun _ _ => rfl)) (pa_cons (pe_c (c_filled T) hr (by decide) (by rfl) (pa_cons (pv 0) (pa_cons (pe_ix ix_seq (pv 3) pe_int (fun _ _ => rfl)) (pa_cons pe_int pa_nil)))) (pa_cons (pe_c (c_filled T) hr (by decide) (by rfl) (pa_cons (pv 0) (pa_cons (pe_ix ix_seq (pv 2) pe_int (fun _ _ => rfl)) (pa_cons pe_int pa_nil)))) pa_nil))))))))))))), ?_⟩
  try simp only [cxOf_K, cxOf_K', cxOf_mg, cxOf_mg']
  unfold sp_mean_stretch at h
  split at h
  case h_2 => exact h.elim
  rename_i a
  rw [show L2.start ["answers", "answer", "most", "least", "top", "bottom", "weight", "low", "high", "word"] [V.ref a] = [some (V.ref a), none, none, none, none, none, none, none, none, none] from rfl]
  obtain ⟨us, rows, hL, hA, hl, ok, q1, q2⟩ := h
  have hul := hA.len
  rw [List.length_map] at hul
  have okH := hi_ok ok
  have okL := lo_ok ok
  obtain ⟨zH1, zH2⟩ := b_zero (h := hiR) (fun _ => rfl) okH
  obtain ⟨zL1, zL2⟩ := b_zero (h := loR) (fun _ => rfl) okL
  have lenH := (gm_ok okH).len
  have lenL := (gm_ok okL).len
  rw [List.length_map] at lenH lenL
  walk_at "sts"
  refine ⟨us, hL, by omega, fun u hu => ?_, ?_⟩
  · obtain ⟨i, hi⟩ := List.mem_iff_getElem?.mp hu
    obtain ⟨r, t, hr, rfl, ht⟩ := hit4 hA hi
    obtain ⟨h1, h2, h3, h4, h5, h6⟩ := ok r (List.mem_of_getElem? hr)
    exact ⟨t, r.1, r.2.1, r.2.2.1, [_], rfl, ht, rfl, h1, h2, h3, h4, h5⟩
  walk_at "sts"
  refine L_rl hL ?_
  refine f_it walk_list (fun i σ' H' => ∃ v1 : Option V, σ' = [some (.ref a), v1, none, none, none, none, none, none, none, none] ∧ H' = H) ⟨_, rfl, rfl⟩ (fun i σ' H' _ ⟨_, _, e⟩ => e ▸ hL) ?_ ?_
  · rintro i x σ' H' H'' hi ⟨v1, rfl, rfl⟩ ⟨e, hx⟩
    subst e
    obtain ⟨r, t, hr, rfl, ht⟩ := hit4 hA hx
    walk_at "sts"
    refine L_ixT ht rfl ?_
    walk_at "sts"
    refine L_nd (fun c1 => ?_) (fun _ => ?_)
    · walk_at "sts"
      refine L_ixT ht rfl ?_
      walk_at "sts"
      refine L_nd (fun c2 => ?_) (fun _ => ?_)
      · walk_at "sts"
        refine L_ixT ht rfl ?_
        walk_at "sts"
        refine L_ndF ?_ ?_
        · rcases (ok r (List.mem_of_getElem? hr)).2.2.2.2.2 with h | h | h
          · exact absurd h c1
          · exact absurd h c2
          · exact h
        walk_at "sts"
        exact ⟨_, rfl, rfl⟩
      · walk_at "sts"
        exact ⟨_, rfl, rfl⟩
    · walk_at "sts"
      exact ⟨_, rfl, rfl⟩
  rintro σ' H' ⟨v1, rfl, rfl⟩
  walk_at "sts"
  refine L_rl hL ?_
  refine lc_dp (K := K) walk_list (fun i => (rows[i]?).map fun r => d3w (hiR r)) (by omega) (fun H' e => e.seq hL) ?_ ?_
  · rintro j x2 p0 H3 H3' R1 R2 hj np s3 ⟨o, ho⟩ ⟨e, hx⟩ r1 r2
    subst e
    obtain ⟨r, t, hr, rfl, ht⟩ := hit4 hA hx
    refine L_gTup (s3.seqT ht) rfl ?_
    walk_at "sts"
    refine ⟨rfl, ?_⟩
    walk_at "sts"
    walk_at "nw"
    rename_i p6 hp6 H6 s6 e6
    exact r1 _ _ _ (by rw [hr]; rfl) s6 (dp_tupN e6 (ne_new hp6 ⟨_, ho⟩) (.cons (.int _) (.cons (.int _) (.cons (.str _) .nil))))
  intro p1 H1 vs1 hp1 s1 e1 d1
  rw [hul, fm_get] at d1
  walk_at "sts"
  have d1 : DpAll K H1 vs1 ((rows.map hiR).map d3w) := by rw [List.map_map]; exact d1.same rs_sub
  by_cases hno : AllNo rows
  · refine ⟨vs1, rows.map hiR, .of e1, d1, by rw [List.length_map]; exact hl, okH, fun _ H2 s2 => ?_, fun nz => absurd (zH1 hno) nz⟩
    have s12 := s1.trans s2
    walk_at "sts"
    refine L_rl (s12.seq hL) ?_
    refine lc_dp (K := K) walk_list (fun i => (rows[i]?).map fun r => d3w (loR r)) (by omega) (fun H' e => (s12.trans e).seq hL) ?_ ?_
    · rintro j x2 p0 H3 H3' R1 R2 hj np s3 ⟨o, ho⟩ ⟨e, hx⟩ r1 r2
      subst e
      obtain ⟨r, t, hr, rfl, ht⟩ := hit4 hA hx
      refine L_gTup ((s12.trans s3).seqT ht) rfl ?_
      walk_at "sts"
      refine ⟨rfl, ?_⟩
      walk_at "sts"
      walk_at "nw"
      rename_i p6 hp6 H6 s6 e6
      exact r1 _ _ _ (by rw [hr]; rfl) s6 (dp_tupN e6 (ne_new hp6 ⟨_, ho⟩) (.cons (.int _) (.cons (.int _) (.cons (.str _) .nil))))
    intro p3 H3 vs3 hp3 s3 e3 d3
    rw [hul, fm_get] at d3
    walk_at "sts"
    refine ⟨vs3, rows.map loR, .of e3, by rw [List.map_map]; exact d3.same rs_sub, by rw [List.length_map]; exact hl, okL, fun _ H4 s4 => ?_, fun nz => absurd (zL1 hno) nz⟩
    walk_at "sts"
    exact q1 hno _ (s12.trans (s3.trans s4))
  · refine ⟨vs1, rows.map hiR, .of e1, d1, by rw [List.length_map]; exact hl, okH, fun z => absurd z (by have := zH2 hno; omega), fun _ pm px pc H2 npm npc s2 em ex ec => ?_⟩
    have s12 := s1.trans s2
    walk_at "sts"
    refine L_rl (s12.seq hL) ?_
    refine lc_dp (K := K) walk_list (fun i => (rows[i]?).map fun r => d3w (loR r)) (by omega) (fun H' e => (s12.trans e).seq hL) ?_ ?_
    · rintro j x2 p0 H3 H3' R1 R2 hj np s3 ⟨o, ho⟩ ⟨e, hx⟩ r1 r2
      subst e
      obtain ⟨r, t, hr, rfl, ht⟩ := hit4 hA hx
      refine L_gTup ((s12.trans s3).seqT ht) rfl ?_
      walk_at "sts"
      refine ⟨rfl, ?_⟩
      walk_at "sts"
      walk_at "nw"
      rename_i p6 hp6 H6 s6 e6
      exact r1 _ _ _ (by rw [hr]; rfl) s6 (dp_tupN e6 (ne_new hp6 ⟨_, ho⟩) (.cons (.int _) (.cons (.int _) (.cons (.str _) .nil))))
    intro p3 H3 vs3 hp3 s3 e3 d3
    rw [hul, fm_get] at d3
    walk_at "sts"
    refine ⟨vs3, rows.map loR, .of e3, by rw [List.map_map]; exact d3.same rs_sub, by rw [List.length_map]; exact hl, okL, fun z => absurd z (by have := zL2 hno; omega), fun _ pl plx plc H4 npl nplc s4 el elx elc => ?_⟩
    have s14 := s12.trans (s3.trans s4)
    have em4 := (s3.trans s4) _ _ em
    have ex4 := (s3.trans s4) _ _ ex
    have ec4 := (s3.trans s4) _ _ ec
    walk_at "sts"
    refine L_dF (fun z => nomatch z) ?_
    walk_at "sts"
    refine L_dF (fun z => nomatch z) ?_
    walk_at "sts"
    refine L_ixT (.of el) rfl ?_
    refine L_gTup (.of elx) rfl ?_
    walk_at "sts"
    walk_at "nw"
    rename_i p5 hp5 H5 s5 e5
    walk_at "sts"
    refine L_ixT (.of (s5 _ _ em4)) rfl ?_
    walk_at "sts"
    refine L_ixT (.of (s5 _ _ el)) rfl ?_
    walk_at "sts"
    refine ⟨us, rows, _, _, (s14.trans s5).seq hL, hA.same (s14.trans s5), .of (s5 _ _ elc), lenL, hl, .inl ⟨rfl, rfl⟩, fun p6 H6 hp6 s6 e6 => ?_⟩
    walk_at "sts"
    refine L_ixT (.of ((s5.trans s6) _ _ em4)) rfl ?_
    walk_at "sts"
    have s16 := s14.trans (s5.trans s6)
    refine ⟨us, rows, _, _, s16.seq hL, hA.same s16, .of ((s5.trans s6) _ _ ec4), lenH, hl, .inr ⟨rfl, rfl⟩, fun p7 H7 hp7 s7 e7 => ?_⟩
    walk_at "sts"
    walk_at "nw"
    rename_i p8 hp8 H8 s8 e8
    have s68 := s7.trans s8
    exact q2 hno p8 p5 px p6 p7 H8 ((s16.trans s7).free hp8) ((s14.trans s5).free hp6) (s16.free hp7) (ne_new hp7 ⟨_, e6⟩).symm (s16.trans s68) e8 ((s6.trans s68) _ _ e5) ((s5.trans (s6.trans s68)) _ _ ex4) (s68 _ _ e6) (s8 _ _ e7)
def sp__law_answers (K : PySem.W.Frag) (mg : Str → Option Value) : Sp := fun vs H Q _ => match vs with | [.ref a] => ∃ ns : List Int, SqL K H a (ns.map V.int) ∧ ∀ rows : List R4, rows.length ≤ 24 → (∀ r ∈ rows, Ok4 r) → ∀ p H' us, H p = none → Same H H' → H' p = some (.lst us) → DpAll K (rs (· ≠ p) H') us (rows.map d4) → Q (.ref p) H' | _ => False
theorem q__law_answers {H : Hp} {Q : VK} {E : XK} {a : Addr} (q : ∃ ns : List Int, SqL K H a (ns.map V.int) ∧ ∀ rows : List R4, rows.length ≤ 24 → (∀ r ∈ rows, Ok4 r) → ∀ p H' us, H p = none → Same H H' → H' p = some (.lst us) → DpAll K (rs (· ≠ p) H') us (rows.map d4) → Q (.ref p) H') : sp__law_answers K mg [.ref a] H Q E := q
local macro_rules | `(tactic| walk_at "op") => `(tactic| with_reducible refine q__law_answers ?_)
theorem c__law_answers (T : Txt K mg) : Cal P w K mg base 3 "_law_answers" (sp__law_answers K mg) := by
  refine T.d__law_answers.cal (k := 2) sc__law_answers (by intro vs H Q E h; unfold sp__law_answers at h; split at h <;> first | rfl | exact h.elim) fun f cdv A outer s H vs Q E hr h => ?_
  refine ⟨_, (pss_cons (ps_set (i := 1) sc__law_answers.nd rfl (.inl rfl) (pe_op op_mod (pe_c (c__law_cell T) hr (by decide) (by rfl) (pa_cons (pv 0) (pa_cons pe_int pa_nil))) pe_int))
    (pss_cons (ps_set (i := 2) sc__law_answers.nd rfl (.inl rfl) (pe_c (c__law_cell T) hr (by decide) (by rfl) (pa_cons (pv 0) (pa_cons pe_int pa_nil))))
    (pss_cons (ps_set (i := 3) sc__law_answers.nd rfl (.inl rfl) (pe_c (c__law_row T) hr (by decide) (by rfl) (pa_cons (pe_c (c__law_cell T) hr (by decide) (by rfl) (pa_cons (pv 0) (pa_cons pe_int pa_nil))) (pa_cons (pv 2) (pa_cons (pe_op op_mulA pe_int (pv 1)) (pa_cons (pe_op op_addA (pe_op op_mulA pe_int (pe_op op_pow pe_int pe_int)) pe_int) pa_nil))))))
    (pss_cons (ps_set (i := 4) sc__law_answers.nd rfl (.inl rfl) (pe_ix ix_seq (pe_lst (pa_cons pe_int (pa_cons pe_int (pa_cons pe_int pa_nil)))) (pe_op op_mod (pe_op op_fdivW (pv 2) pe_int) pe_int) (fun _ _ => rfl)))
    (pss_cons (ps_set (i := 5) sc__law_answers.nd rfl (.inl rfl) (pe_ix ix_seq (pe_lst (pa_cons pe_int (pa_cons pe_int (pa_cons (pe_op op_pow pe_int pe_int) pa_nil)))) (pe_op op_mod (pe_op op_fdivW (pv 2) pe_int) pe_int) (fun _ _ => rfl)))
    (pss_cons (ps_set (i := 6) sc__law_answers.nd rfl (.inl rfl) (pe_ix ix_seq (pe_lst (pa_cons (pe_lst (pa_cons pe_str (pa_cons pe_str (pa_cons pe_str pa_nil)))) (pa_cons (pe_lst (pa_cons pe_str (pa_cons pe_str (pa_cons pe_str pa_nil)))) (pa_cons (pe_lst (pa_cons pe_str (pa_cons pe_str (pa_cons pe_str pa_nil)))) (pa_cons (pe_lst (pa_cons pe_str (pa_cons pe_str (pa_cons pe_str pa_nil)))) pa_nil))))) (pe_op op_mod (pe_op op_fdivW (pv 2) pe_int) pe_int) (fun _ _ => rfl)))
    (pss_cons (ps_set (i := 7) sc__law_answers.nd rfl (.inl rfl) (pe_lst pa_nil))
    (pss_cons (ps_for PassesOwn.never rfl (pi_range1 (by rfl) T.n_range (pa_cons (pv 1) pa_nil)) (pg_name (i := 8) sc__law_answers.nd rfl (.inl rfl))
    (pss_cons (ps_set (i := 9) sc__law_answers.nd rfl (.inl rfl) (pe_callB cr_sorted (by rfl) T.n_sorted (by decide +kernel) (pa_cons (pe_lst (pa_cons (pe_op op_sub (pe_op op_mod (pe_ix ix_seq (pv 3) (pe_op op_addA (pe_op op_mulA pe_int (pv 8)) pe_int) (fun _ _ => rfl)) (pe_op op_addA (pe_op op_mulA pe_int (pv 5)) pe_int)) (pv 5)) (pa_cons (pe_op op_sub (pe_op op_mod (pe_ix ix_seq (pv 3) (pe_op op_addA (pe_op op_mulA pe_int (pv 8)) pe_int) (fun _ _ => rfl)) (pe_op op_addA (pe_op op_mulA pe_int (pv 5)) pe_int)) (pv 5)) pa_nil))) pa_nil)))
    (Evl.pss_cut (ps_if (pt_cmpR (op_eqA hr) (pe_op op_mod (pe_op op_fdivW (pe_ix ix_seq (pv 3) (pe_op op_mulA pe_int (pv 8)) (fun _ _ => rfl)) (pv 4)) pe_int) pe_int (nomark _))
    (pss_one (ps_asg (pe_ix ix_seq (pv 9) pe_int (fun _ _ => rfl)) (pg_sub (pv 9) pe_int set_list)))
    pss_nil)
    (pss_one (ps_expr (pe_bm PySem.F.plainAttrs_list PySem.F.slot_list_append PySem.F.type_list_append mt_append (pv 7) (pa_cons (pe_tup (pa_cons (pe_op op_addA pe_int (pe_op op_mod (pe_ix ix_seq (pv 3) (pe_op op_mulA pe_int (pv 8)) (fun _ _ => rfl)) (pv 4))) (pa_cons (pe_ix ix_seq (pv 9) pe_int (fun _ _ => rfl)) (pa_cons (pe_ix ix_seq (pv 9) pe_int (fun _ _ => rfl)) (pa_cons (pe_ix ix_seq (pv 6) (pe_op op_mod (pe_ix ix_seq (pv 3) (pe_op op_addA (pe_op op_mulA pe_int (pv 8)) pe_int) (fun _ _ => rfl)) pe_int) (fun _ _ => rfl)) pa_nil))))) pa_nil)))))))
    (pss_one (ps_ret (pv 7))))))))))), ?_⟩
  try simp only [cxOf_K, cxOf_K', cxOf_mg, cxOf_mg']
  unfold sp__law_answers at h
  split at h
  case h_2 => exact h.elim
  rename_i a
  rw [show L2.start ["_law_script", "_law_many", "_law_bit", "_law_row_here", "_law_heavy", "_law_far", "_law_words", "_law_found", "_law_k", "_law_ends"] [V.ref a] = [some (V.ref a), none, none, none, none, none, none, none, none, none] from rfl]
  obtain ⟨ns, hS, q⟩ := h
  walk_at "sts"
  refine ⟨ns, hS, by decide, by decide, ?_⟩
  walk_at "sa"
  generalize hm : cellAt ns 0 (7919 * 0 + 13) % 25 = many
  have m0 : 0 ≤ many ∧ many < 25 := by rw [← hm]; omega
  refine ⟨ns, hS, by decide, by decide, ?_⟩
  walk_at "sa"
  generalize cellAt ns 1 (7919 * 1 + 13) = bit
  refine ⟨ns, hS, by decide, by decide, ?_⟩
  walk_at "sa"
  refine ⟨by omega, by omega, by decide, by decide, ?_⟩
  intro row hlen hrow
  refine fun p0 H1 hp0 s1 e1 => ?_
  walk_at "sts"
  walk_at "nw"
  rename_i p2 hp2 H2 s2 e2
  walk_at "sa"
  refine L_menu (ns := [3, 1000, 1000000]) (.of e2) (by omega) (by show _ < (3 : Int); omega) fun heavy hh => ?_
  walk_at "sa"
  walk_at "nw"
  rename_i p3 hp3 H3 s3 e3
  walk_at "sa"
  refine L_menu (ns := [3, 1000, 1000000000]) (.of e3) (by omega) (by show _ < (3 : Int); omega) fun far hf => ?_
  replace hh : 3 ≤ heavy ∧ heavy ≤ 1000000 := by
    simp at hh; omega
  replace hf : 3 ≤ far ∧ far ≤ 1000000000 := by
    simp at hf; omega
  walk_at "sts"
  walk_at "nw"
  rename_i w1 hw1 G1 g1 ew1
  walk_at "sts"
  walk_at "nw"
  rename_i w2 hw2 G2 g2 ew2
  walk_at "sts"
  walk_at "nw"
  rename_i w3 hw3 G3 g3 ew3
  walk_at "sts"
  walk_at "nw"
  rename_i w4 hw4 G4 g4 ew4
  walk_at "sts"
  walk_at "nw"
  rename_i w5 hw5 G5 g5 ew5
  walk_at "sa"
  refine L_menuV (.of ew5) (by omega) (by show _ < (4 : Int); omega) fun vw hvw => ?_
  obtain ⟨pw, ws, rfl, ew, hwl, hws⟩ : ∃ (pw : Addr) (ws : List Str), vw = .ref pw ∧ G5 pw = some (.lst (ws.map V.str)) ∧ ws.length = 3 ∧ ∀ w ∈ ws, (w = ("yes" : Str) ∨ w = ("no" : Str) ∨ w = ("open" : Str)) := by
    simp only [List.mem_cons, List.not_mem_nil, or_false] at hvw
    rcases hvw with rfl | rfl | rfl | rfl
    · exact ⟨w1, ["yes", "no", "open"], rfl, (g2.trans (g3.trans (g4.trans g5))) _ _ ew1, rfl, by simp⟩
    · exact ⟨w2, ["open", "no", "open"], rfl, (g3.trans (g4.trans g5)) _ _ ew2, rfl, by simp⟩
    · exact ⟨w3, ["yes", "open", "open"], rfl, (g4.trans g5) _ _ ew3, rfl, by simp⟩
    · exact ⟨w4, ["no", "no", "no"], rfl, g5 _ _ ew4, rfl, by simp⟩
  have g35 : Same H3 G5 := g1.trans (g2.trans (g3.trans (g4.trans g5)))
  have hrl := (s2.trans (s3.trans g35)) _ _ e1
  have sA : Same H G5 := s1.trans (s2.trans (s3.trans g35))
  clear ew1 ew2 ew3 ew4 ew5 hw1 hw2 hw3 hw4 hw5 hvw hm e1 e2 e3 hp0 hp2 hp3
  walk_at "sts"
  walk_at "nw"
  rename_i p4 hp4 H4 s4 e4
  walk_at "sts"
  refine L_r1 (by omega) (by omega) ?_
  refine f_range (fun i σ' H' => ∃ (rows : List R4) (us : List V) (v1 v2 : Option V), σ' = [some (.ref a), some (.int many), some (.int bit), some (.ref p0), some (.int heavy), some (.int far), some (.ref pw), some (.ref p4), v1, v2] ∧ Same G5 H' ∧ H' p4 = some (.lst us) ∧ DpAll K (rs (· ≠ p4) H') us (rows.map d4) ∧ rows.length = i ∧ ∀ r ∈ rows, Ok4 r) ⟨[], [], none, none, rfl, s4, e4, .nil, rfl, by simp⟩ ?_ ?_
  · rintro i σ' H' hi ⟨rows, us, v1, v2, rfl, s, hd, hdp, hl, hok⟩
    have hr := SqL.of (K := K) (s _ _ hrl)
    have ub := hdp.len
    rw [List.length_map] at ub
    walk_at "sa"
    refine L_ixP hr hrow (by omega) (by omega) fun x1 hx1 => ?_
    walk_at "sa"
    refine L_ixP hr hrow (by omega) (by omega) fun x2 hx2 => ?_
    walk_at "sa"
    walk_at "nw"
    rename_i p5 hp5 H5 s5 e5
    have b1 := Int.emod_nonneg x1 (show 2 * far + 1 ≠ 0 by omega)
    have b2 := Int.emod_lt_of_pos x1 (show 0 < 2 * far + 1 by omega)
    have b3 := Int.emod_nonneg x2 (show 2 * far + 1 ≠ 0 by omega)
    have b4 := Int.emod_lt_of_pos x2 (show 0 < 2 * far + 1 by omega)
    generalize x1 % (2 * far + 1) = y1 at *
    generalize x2 % (2 * far + 1) = y2 at *
    walk_at "sa"
    refine L_sort2 (.of e5) fun p6 hp6 => ?_
    walk_at "sa"
    refine L_cut (Mid := fun σ' H' => ∃ lo hi : Int, -far ≤ lo ∧ lo ≤ hi ∧ hi ≤ far ∧ σ' = [some (.ref a), some (.int many), some (.int bit), some (.ref p0), some (.int heavy), some (.int far), some (.ref pw), some (.ref p4), some (.int (0 + i)), some (.ref p6)] ∧ Same H5 H' ∧ H' p6 = some (.lst [.int lo, .int hi])) ?_ ?_
    · walk_at "sa"
      refine L_ixP (SqL.of (K := K) (by walk_at "hp")) hrow (by omega) (by omega) fun x3 hx3 => ?_
      walk_at "sa"
      have b5 : Same H5 (upd H5 p6 (HO.lst [V.int (min (y1 - far) (y2 - far)), V.int (max (y1 - far) (y2 - far))])) := same_new hp6
      refine L_d (fun _ => ?_) (fun _ => ?_)
      · walk_at "sa"
        refine L_setL (xs := [.int _, .int _]) (j := 1) upd_same (by rfl) ?_
        exact ⟨_, _, by omega, Int.le_refl _, by omega, rfl, same_mut b5 hp6, upd_same⟩
      · walk_at "sa"
        exact ⟨_, _, by omega, by omega, by omega, rfl, b5, upd_same⟩
    · rintro σ' H6 ⟨lo, hi, l1, l2, l3, rfl, s6, e6⟩
      walk_at "sa"
      refine L_tyL (.of (by walk_at "hp")) ?_
      walk_at "sa"
      refine L_ixP (SqL.of (K := K) (by walk_at "hp")) hrow (by omega) (by omega) fun x4 hx4 => ?_
      walk_at "sa"
      refine L_ixP (SqL.of (K := K) (by walk_at "hp")) hrow (by omega) (by omega) fun x5 hx5 => ?_
      walk_at "sa"
      have c3 := Int.emod_nonneg x5 (show (3 : Int) ≠ 0 by decide)
      have c4 := Int.emod_lt_of_pos x5 (show (0 : Int) < 3 by decide)
      refine L_menuV (xs := ws.map V.str) (.of ((s.trans (s5.trans s6)) _ _ ew)) c3 (by rw [List.length_map]; omega) fun v hv => ?_
      obtain ⟨w, hw, rfl⟩ := List.mem_map.mp hv
      have hwok := hws w hw
      walk_at "sts"
      walk_at "nw"
      rename_i p7 hp7 H7 s7 e7
      walk_at "sts"
      have hd6 := (s5.trans s6) _ _ hd
      refine L_app (s7 _ _ hd6) (sz_lt (by omega)) ?_
      refine ⟨rows ++ [(1 + x4 % heavy, lo, hi, w)], _, _, _, rfl, same_mut (((s.trans s5).trans s6).trans s7) hp4, upd_same, ?_, by simp [hl], fun r hr => ?_⟩
      · rw [List.map_append]
        exact dp_grow hdp ((s5.trans s6).trans s7) (dp_tupN e7 (ne_new hp7 ⟨_, hd6⟩) (by walk_at "dpa"))
      · rcases List.mem_append.mp hr with hr | hr
        · exact hok r hr
        · rw [List.mem_singleton.mp hr]
          have c1 := Int.emod_nonneg x4 (show heavy ≠ 0 by omega)
          have c2 := Int.emod_lt_of_pos x4 (show 0 < heavy by omega)
          refine ⟨?_, ?_, ?_, l2, ?_, hwok⟩
          · show 1 ≤ 1 + x4 % heavy
            omega
          · show 1 + x4 % heavy ≤ 1000000
            omega
          · show -1000000000 ≤ lo
            omega
          · show hi ≤ 1000000000
            omega
  · rintro σ' H' ⟨rows, us, v1, v2, rfl, s, hd, hdp, hl, hok⟩
    walk_at "sts"
    exact q rows (by omega) hok p4 H' us (sA.free hp4) (sA.trans s) hd hdp
def zg (f : R4 → Int) (rows : List R4) (c : List Bool) (i : Nat) : Int := (((rows.zip c).take i).map fun z => if z.2 = true then f z.1 else 0).sum
theorem zg_next {f : R4 → Int} {rows : List R4} {c : List Bool} {i : Nat} {r : R4} {b : Bool} (h : (rows.zip c)[i]? = some (r, b)) : zg f rows c (i + 1) = zg f rows c i + (if b = true then f r else 0) := sum_take (f := fun z : R4 × Bool => if z.2 = true then f z.1 else 0) h
theorem zg_zs {f : Rv → Int} {h : R4 → Rv} {rows : List R4} {c : List Bool} {n : Nat} (hn : rows.length ≤ n) : zg (fun r => f (h r)) rows c n = zs f (rows.map h) c := by
  unfold zg zs
  rw [List.take_of_length_le (by rw [List.length_zip]; omega), List.zip_map_left, List.map_map]
  rfl
theorem low_self {x y : Int} (h : gc x y = 1) : low x y = (x, y) := by
  unfold low
  rw [h, Int.ediv_one, Int.ediv_one]
theorem gc_neg {x y : Int} : gc (0 - x) y = gc x y := by
  unfold gc
  rw [Int.zero_sub, Int.neg_gcd]
theorem low_neg {t b : Int} : low (0 - t) b = (0 - (low t b).1, (low t b).2) := by
  unfold low
  rw [gc_neg]
  refine Prod.ext ?_ rfl
  show (0 - t) / gc t b = 0 - t / gc t b
  rw [Int.zero_sub, Int.zero_sub, Int.neg_ediv_of_dvd gc_dl]
def sp__law_fraction (K : PySem.W.Frag) (mg : Str → Option Value) : Sp := fun vs H Q _ => match vs with | [.ref d] => ∃ x y : Int, SqT K H d [.int x, .int y] ∧ 0 < y ∧ gc x y = 1 ∧ Bd 2000 y ∧ ∀ H', Same H H' → Q (.bl true) H' | _ => False
theorem q__law_fraction {H : Hp} {Q : VK} {E : XK} {d : Addr} (q : ∃ x y : Int, SqT K H d [.int x, .int y] ∧ 0 < y ∧ gc x y = 1 ∧ Bd 2000 y ∧ ∀ H', Same H H' → Q (.bl true) H') : sp__law_fraction K mg [.ref d] H Q E := q
local macro_rules | `(tactic| walk_at "op") => `(tactic| with_reducible refine q__law_fraction ?_)
theorem c__law_fraction (T : Txt K mg) : Cal P w K mg base 2 "_law_fraction" (sp__law_fraction K mg) := by
  refine T.d__law_fraction.cal (k := 1) sc__law_fraction (by intro vs H Q E h; unfold sp__law_fraction at h; split at h <;> first | rfl | exact h.elim) fun f cdv A outer s H vs Q E hr h => ?_
  refine ⟨_, (pss_cons (ps_if (PW.pt (pw_or (pt_not (pt_val (pe_callB call_isi (by rfl) T.n_isinstance (by decide +kernel) (pa_cons (pv 0) (pa_cons (pe_ty "tuple" (by rfl) T.n_tuple (by decide +kernel)) pa_nil))))) (pw_or (pt_cmpR (op_neA hr) (pe_callB call_lenA (by rfl) T.n_len (by decide +kernel) (pa_cons (pv 0) pa_nil)) pe_int (nomark _)) (pw_or (pt_not (pt_val (pe_c (c__law_whole T) hr (by decide) (by rfl) (pa_cons (pe_ix ix_seq (pv 0) pe_int (fun _ _ => rfl)) pa_nil)))) (pw_or1 (pt_not (pt_val (pe_c (c__law_whole T) hr (by decide) (by rfl) (pa_cons (pe_ix ix_seq (pv 0) pe_int (fun _ _ => rfl)) pa_nil)))))))))
    (pss_one (ps_ret pe_bl))
    pss_nil)
    (pss_one (ps_ret (pe_and (pe_cmpR op_gt (pe_ix ix_seq (pv 0) pe_int (fun _ _ => rfl)) pe_int (nomark _)) (pe_one (pe_cmpR (op_eqA hr) (pe_c (c__law_low T) hr (by decide) (by rfl) (pa_cons (pe_ix ix_seq (pv 0) pe_int (fun _ _ => rfl)) (pa_cons (pe_ix ix_seq (pv 0) pe_int (fun _ _ => rfl)) pa_nil))) (pv 0) (nomark _))))))), ?_⟩
  try simp only [cxOf_K, cxOf_K', cxOf_mg, cxOf_mg']
  unfold sp__law_fraction at h
  split at h
  case h_2 => exact h.elim
  rename_i d
  rw [show L2.start ["_law_found"] [V.ref d] = [some (V.ref d)] from rfl]
  obtain ⟨x, y, hd, hy, hg, hb, q⟩ := h
  walk_at "sts"
  refine L_isi (tyx_T hd) (b := true) (by decide +kernel) ?_
  walk_at "sts"
  refine L_lenT hd ?_
  walk_at "sts"
  refine L_ndF rfl ?_
  walk_at "sts"
  refine L_ixT hd rfl ?_
  walk_at "sts"
  refine L_ixT hd rfl ?_
  walk_at "sts"
  refine L_ixT hd rfl ?_
  walk_at "sts"
  refine L_dT hy ?_
  walk_at "sts"
  refine L_ixT hd rfl ?_
  walk_at "sts"
  refine L_ixT hd rfl ?_
  walk_at "sts"
  refine ⟨hy, hb, fun p H1 hp s1 e1 => ?_⟩
  rw [low_self hg] at e1
  walk_at "sts"
  refine L_eqR (d := .tuple [.int x, .int y]) (.tup (.of e1) (.cons (.int _) (.cons (.int _) .nil))) (.tup (s1.seqT hd) (.cons (.int _) (.cons (.int _) .nil))) (shp_tup (n := 0) (shp_cons shp_int (shp_cons shp_int shp_nil))).ok ?_
  exact q _ s1
def sp__law_filling (K : PySem.W.Frag) (mg : Str → Option Value) : Sp := fun vs H Q _ => match vs with | [.ref a, .ref b, .ref d] => ∃ (us : List V) (rows : List R4) (c : List Bool) (g : R4 → Int), SqL K H a (fill g rows c) ∧ SqL K H b us ∧ DpAll K H us (rows.map d4) ∧ c.length = rows.length ∧ rows.length ≤ 24 ∧ (∀ r ∈ rows, Ok4 r) ∧ (∀ r, r.2.1 ≤ r.2.2.1 → r.2.1 ≤ g r ∧ g r ≤ r.2.2.1) ∧ (∀ (i : Nat) r, rows[i]? = some r → r.2.2.2 = ("yes" : Str) → c[i]? = some true) ∧ (∀ (i : Nat) r, rows[i]? = some r → r.2.2.2 = ("no" : Str) → c[i]? = some false) ∧ 0 < zg (fun r => r.1) rows c rows.length ∧ SqT K H d [.int (low (zg (fun r => g r * r.1) rows c rows.length) (zg (fun r => r.1) rows c rows.length)).1, .int (low (zg (fun r => g r * r.1) rows c rows.length) (zg (fun r => r.1) rows c rows.length)).2] ∧ ∀ H', Same H H' → Q (.bl true) H' | _ => False
theorem q__law_filling {H : Hp} {Q : VK} {E : XK} {a : Addr} {b : Addr} {d : Addr} (q : ∃ (us : List V) (rows : List R4) (c : List Bool) (g : R4 → Int), SqL K H a (fill g rows c) ∧ SqL K H b us ∧ DpAll K H us (rows.map d4) ∧ c.length = rows.length ∧ rows.length ≤ 24 ∧ (∀ r ∈ rows, Ok4 r) ∧ (∀ r, r.2.1 ≤ r.2.2.1 → r.2.1 ≤ g r ∧ g r ≤ r.2.2.1) ∧ (∀ (i : Nat) r, rows[i]? = some r → r.2.2.2 = ("yes" : Str) → c[i]? = some true) ∧ (∀ (i : Nat) r, rows[i]? = some r → r.2.2.2 = ("no" : Str) → c[i]? = some false) ∧ 0 < zg (fun r => r.1) rows c rows.length ∧ SqT K H d [.int (low (zg (fun r => g r * r.1) rows c rows.length) (zg (fun r => r.1) rows c rows.length)).1, .int (low (zg (fun r => g r * r.1) rows c rows.length) (zg (fun r => r.1) rows c rows.length)).2] ∧ ∀ H', Same H H' → Q (.bl true) H') : sp__law_filling K mg [.ref a, .ref b, .ref d] H Q E := q
local macro_rules | `(tactic| walk_at "op") => `(tactic| with_reducible refine q__law_filling ?_)
theorem c__law_filling (T : Txt K mg) : Cal P w K mg base 2 "_law_filling" (sp__law_filling K mg) := by
  refine T.d__law_filling.cal (k := 1) sc__law_filling (by intro vs H Q E h; unfold sp__law_filling at h; split at h <;> first | rfl | exact h.elim) fun f cdv A outer s H vs Q E hr h => ?_
  refine ⟨_, (pss_cons (ps_if (PW.pt (pw_or (pt_not (pt_val (pe_callB call_isi (by rfl) T.n_isinstance (by decide +kernel) (pa_cons (pv 0) (pa_cons (pe_ty "list" (by rfl) T.n_list (by decide +kernel)) pa_nil))))) (pw_or1 (pt_cmpR (op_neA hr) (pe_callB call_lenA (by rfl) T.n_len (by decide +kernel) (pa_cons (pv 0) pa_nil)) (pe_callB call_lenA (by rfl) T.n_len (by decide +kernel) (pa_cons (pv 1) pa_nil)) (nomark _)))))
    (pss_one (ps_ret pe_bl))
    pss_nil)
    (pss_cons (ps_set (i := 3) sc__law_filling.nd rfl (.inl rfl) pe_int)
    (pss_cons (ps_set (i := 4) sc__law_filling.nd rfl (.inl rfl) pe_int)
    (pss_cons (ps_for PassesOwn.never rfl (pi_zip (by rfl) T.n_zip (pa_cons (pv 0) (pa_cons (pv 1) pa_nil))) (pg_tup rfl (pgs_cons (pg_name (i := 5) sc__law_filling.nd rfl (.inl rfl)) (pgs_cons (pg_name (i := 6) sc__law_filling.nd rfl (.inl rfl)) pgs_nil)))
    (pss_cons (ps_if (PW.pt (pw_or (PW.pt (pw_and (pt_cmpR (op_eqA hr) (pe_ix ix_seq (pv 6) pe_int (fun _ _ => rfl)) pe_str (nomark _)) (pw_and1 (pt_cmpR op_isNA (pv 5) pe_non (nomark _))))) (pw_or1 (PW.pt (pw_and (pt_cmpR (op_eqA hr) (pe_ix ix_seq (pv 6) pe_int (fun _ _ => rfl)) pe_str (nomark _)) (pw_and1 (pt_cmpR op_notNA (pv 5) pe_non (nomark _))))))))
    (pss_one (ps_ret pe_bl))
    pss_nil)
    (pss_one (ps_if (pt_cmpR op_notNA (pv 5) pe_non (nomark _))
    (pss_cons (ps_if (PW.pt (pw_or (pt_not (pt_val (pe_c (c__law_whole T) hr (by decide) (by rfl) (pa_cons (pv 5) pa_nil)))) (pw_or1 (pt_not (pt_chain op_leA op_leA (pe_ix ix_seq (pv 6) pe_int (fun _ _ => rfl)) (pv 5) (pe_ix ix_seq (pv 6) pe_int (fun _ _ => rfl)))))))
    (pss_one (ps_ret pe_bl))
    pss_nil)
    (pss_cons (ps_set (i := 3) sc__law_filling.nd rfl (.inl rfl) (pe_op op_addA (pv 3) (pe_op op_mulA (pv 5) (pe_ix ix_seq (pv 6) pe_int (fun _ _ => rfl)))))
    (pss_one (ps_set (i := 4) sc__law_filling.nd rfl (.inl rfl) (pe_op op_addA (pv 4) (pe_ix ix_seq (pv 6) pe_int (fun _ _ => rfl)))))))
    pss_nil))))
    (pss_one (ps_ret (pe_and (pe_cmpR op_gt (pv 4) pe_int (nomark _)) (pe_one (pe_cmpR (op_eqA hr) (pe_c (c__law_low T) hr (by decide) (by rfl) (pa_cons (pv 3) (pa_cons (pv 4) pa_nil))) (pv 2) (nomark _)))))))))), ?_⟩
  try simp only [cxOf_K, cxOf_K', cxOf_mg, cxOf_mg']
  unfold sp__law_filling at h
  split at h
  case h_2 => exact h.elim
  rename_i a b d
  rw [show L2.start ["_law_some", "_law_answers_here", "_law_due", "_law_top", "_law_bottom", "_law_value", "_law_answer"] [V.ref a, V.ref b, V.ref d] = [some (V.ref a), some (V.ref b), some (V.ref d), none, none, none, none] from rfl]
  obtain ⟨us, rows, c, g, ha, hb, hA, hcl, hl, ok, hgb, hy, hn, hB, hd, q⟩ := h
  have hul := hA.len
  rw [List.length_map] at hul
  have hfl : (fill g rows c).length = rows.length := by unfold fill; rw [List.length_map, List.length_zip]; omega
  walk_at "sts"
  refine L_isi (tyx_L ha) (b := true) (by decide +kernel) ?_
  walk_at "sts"
  refine L_lenL ha ?_
  walk_at "sts"
  refine L_lenL hb ?_
  refine L_neI ?_
  walk_at "sts"
  refine L_ndF (by omega) ?_
  walk_at "sts"
  refine L_rz ha hb ?_
  refine f_it (walk_zip (n := rows.length) (by omega)) (fun i σ' H' => ∃ v5 v6 : Option V, σ' = [some (.ref a), some (.ref b), some (.ref d), some (.int (zg (fun r => g r * r.1) rows c i)), some (.int (zg (fun r => r.1) rows c i)), v5, v6] ∧ Same H H' ∧ zg (fun r => r.1) rows c i ≤ 1000000 * (i : Int)) ⟨_, _, rfl, Same.refl _, by simp [zg]⟩ (fun i σ' H' _ ⟨_, _, _, e, _⟩ => ⟨e.seq ha, e.seq hb⟩) ?_ ?_
  · rintro i x σ' H' H'' hi ⟨v5, v6, rfl, s, hbd⟩ ⟨T1, y, z, rfl, hT, rfl, hyv, hz⟩
    obtain ⟨r, t, hr, rfl, ht⟩ := hit4 hA hz
    obtain ⟨o1, o2, o3, o4, o5, o6⟩ := ok r (List.mem_of_getElem? hr)
    obtain ⟨g1, g2⟩ := hgb r o4
    obtain ⟨b0, hb0⟩ : ∃ b0, c[i]? = some b0 := ⟨_, List.getElem?_eq_getElem (by omega)⟩
    have hzip : (rows.zip c)[i]? = some (r, b0) := by rw [List.getElem?_zip_eq_some]; exact ⟨hr, hb0⟩
    replace hyv : (fill g rows c)[i]? = some y := hyv
    unfold fill at hyv
    rw [List.getElem?_map, hzip] at hyv
    have hyv : (if b0 = true then V.int (g r) else V.non) = y := Option.some.inj hyv
    have n1 := zg_next (f := fun r => g r * r.1) hzip
    have n2 := zg_next (f := fun r => r.1) hzip
    have s' := same_upd (o := HO.tup [y, V.ref t]) s hT
    refine L_gTup (.of upd_same) rfl ?_
    generalize upd H' T1 (HO.tup [y, V.ref t]) = H5 at s'
    have ht5 := s'.seqT ht
    cases b0 with
    | true =>
      rw [if_pos rfl] at hyv n1 n2
      subst hyv
      walk_at "sts"
      refine L_ixT ht5 rfl ?_
      walk_at "sts"
      have hno : ¬ r.2.2.2 = ("no" : Str) := fun z => by rw [hn i r hr z] at hb0; cases hb0
      refine L_d (fun cy => ?_) (fun cy => ?_)
      · walk_at "sts"
        refine L_dF (fun z => nomatch z) ?_
        walk_at "sts"
        refine L_ixT ht5 rfl ?_
        walk_at "sts"
        refine L_dF hno ?_
        walk_at "sts"
        refine L_ndT (fun z => nomatch z) ?_
        walk_at "sts"
        refine L_ixT ht5 rfl ?_
        walk_at "sts"
        refine L_dT g1 ?_
        walk_at "sts"
        refine L_ixT ht5 rfl ?_
        walk_at "sts"
        refine L_ndF g2 ?_
        walk_at "sts"
        refine L_ixT ht5 rfl ?_
        refine L_mulI ((bd_64 (by omega)).cmul (bd_64 (by omega))) ?_
        walk_at "sts"
        refine L_ixT ht5 rfl ?_
        walk_at "sts"
        exact ⟨_, _, by rw [n1, n2], s', by omega⟩
      · walk_at "sts"
        refine L_ixT ht5 rfl ?_
        walk_at "sts"
        refine L_dF hno ?_
        walk_at "sts"
        refine L_ndT (fun z => nomatch z) ?_
        walk_at "sts"
        refine L_ixT ht5 rfl ?_
        walk_at "sts"
        refine L_dT g1 ?_
        walk_at "sts"
        refine L_ixT ht5 rfl ?_
        walk_at "sts"
        refine L_ndF g2 ?_
        walk_at "sts"
        refine L_ixT ht5 rfl ?_
        refine L_mulI ((bd_64 (by omega)).cmul (bd_64 (by omega))) ?_
        walk_at "sts"
        refine L_ixT ht5 rfl ?_
        walk_at "sts"
        exact ⟨_, _, by rw [n1, n2], s', by omega⟩
    | false =>
      rw [if_neg Bool.false_ne_true] at hyv n1 n2
      subst hyv
      have hyes : ¬ r.2.2.2 = ("yes" : Str) := fun z => by rw [hy i r hr z] at hb0; cases hb0
      walk_at "sts"
      refine L_ixT ht5 rfl ?_
      walk_at "sts"
      refine L_dF hyes ?_
      walk_at "sts"
      refine L_ixT ht5 rfl ?_
      walk_at "sts"
      refine L_d (fun cy => ?_) (fun cy => ?_)
      · walk_at "sts"
        refine L_ndF rfl ?_
        walk_at "sts"
        refine L_ndF rfl ?_
        walk_at "sts"
        exact ⟨_, _, by rw [n1, n2, Int.add_zero, Int.add_zero], s', by omega⟩
      · walk_at "sts"
        refine L_ndF rfl ?_
        walk_at "sts"
        exact ⟨_, _, by rw [n1, n2, Int.add_zero, Int.add_zero], s', by omega⟩
  · rintro σ' H' ⟨v5, v6, rfl, s, hbd⟩
    walk_at "sts"
    refine L_dT hB ?_
    walk_at "sts"
    refine ⟨hB, (bd_64 (by omega)).mono (by decide), fun p H1 hp s1 e1 => ?_⟩
    walk_at "sts"
    refine L_eqR (d := .tuple [.int _, .int _]) (.tup (.of e1) (.cons (.int _) (.cons (.int _) .nil))) (.tup ((s.trans s1).seqT hd) (.cons (.int _) (.cons (.int _) .nil))) (shp_tup (n := 0) (shp_cons shp_int (shp_cons shp_int shp_nil))).ok ?_
    exact q _ (s.trans s1)
def sp__law_none_above (K : PySem.W.Frag) (mg : Str → Option Value) : Sp := fun vs H Q _ => match vs with | [.ref a, .ref m, .int pl, .int sg] => ∃ (us : List V) (rows : List R4) (x y : Int) (h : R4 → Rv) (M : Int × Int), SqL K H a us ∧ DpAll K H us (rows.map d4) ∧ rows.length ≤ 24 ∧ (∀ r ∈ rows, Ok4 r) ∧ SqT K H m [.int x, .int y] ∧ Bd 64 x ∧ Bd 64 y ∧ ((pl = 2 ∧ sg = 1 ∧ h = hiR ∧ M = (x, y)) ∨ (pl = 1 ∧ sg = -1 ∧ h = loR ∧ M = (0 - x, y))) ∧ ((rows.map h).map (above M)).sum = 0 ∧ Q (.bl true) H | _ => False
theorem q__law_none_above {H : Hp} {Q : VK} {E : XK} {a : Addr} {m : Addr} {pl : Int} {sg : Int} (q : ∃ (us : List V) (rows : List R4) (x y : Int) (h : R4 → Rv) (M : Int × Int), SqL K H a us ∧ DpAll K H us (rows.map d4) ∧ rows.length ≤ 24 ∧ (∀ r ∈ rows, Ok4 r) ∧ SqT K H m [.int x, .int y] ∧ Bd 64 x ∧ Bd 64 y ∧ ((pl = 2 ∧ sg = 1 ∧ h = hiR ∧ M = (x, y)) ∨ (pl = 1 ∧ sg = -1 ∧ h = loR ∧ M = (0 - x, y))) ∧ ((rows.map h).map (above M)).sum = 0 ∧ Q (.bl true) H) : sp__law_none_above K mg [.ref a, .ref m, .int pl, .int sg] H Q E := q
local macro_rules | `(tactic| walk_at "op") => `(tactic| with_reducible refine q__law_none_above ?_)
theorem c__law_none_above (T : Txt K mg) : Cal P w K mg base 1 "_law_none_above" (sp__law_none_above K mg) := by
  refine T.d__law_none_above.cal (k := 0) sc__law_none_above (by intro vs H Q E h; unfold sp__law_none_above at h; split at h <;> first | rfl | exact h.elim) fun f cdv A outer s H vs Q E hr h => ?_
  refine ⟨_, (pss_cons (ps_set (i := 4) sc__law_none_above.nd rfl (.inl rfl) pe_int)
    (pss_cons (ps_for PassesOwn.never rfl (pi_list (pv 0)) (pg_name (i := 5) sc__law_none_above.nd rfl (.inl rfl))
    (pss_cons (ps_set (i := 6) sc__law_none_above.nd rfl (.inl rfl) (pe_op op_mulA (pe_op op_mulA (pe_op op_sub (pe_op op_mulA (pe_ix ix_seq (pv 5) (pv 2) (fun _ _ => rfl)) (pe_ix ix_seq (pv 1) pe_int (fun _ _ => rfl))) (pe_ix ix_seq (pv 1) pe_int (fun _ _ => rfl))) (pe_ix ix_seq (pv 5) pe_int (fun _ _ => rfl))) (pv 3)))
    (pss_one (ps_if (PW.pt (pw_or (pt_cmpR (op_eqA hr) (pe_ix ix_seq (pv 5) pe_int (fun _ _ => rfl)) pe_str (nomark _)) (pw_or1 (PW.pt (pw_and (pt_cmpR (op_eqA hr) (pe_ix ix_seq (pv 5) pe_int (fun _ _ => rfl)) pe_str (nomark _)) (pw_and1 (pt_cmpR op_gt (pv 6) pe_int (nomark _))))))))
    (pss_one (ps_set (i := 4) sc__law_none_above.nd rfl (.inl rfl) (pe_op op_addA (pv 4) (pv 6))))
    pss_nil))))
    (pss_one (ps_ret (pe_cmpR op_leA (pv 4) pe_int (nomark _)))))), ?_⟩
  try simp only [cxOf_K, cxOf_K', cxOf_mg, cxOf_mg']
  unfold sp__law_none_above at h
  split at h
  case h_2 => exact h.elim
  rename_i a m pl sg
  rw [show L2.start ["_law_answers_here", "_law_mean", "_law_place", "_law_sign", "_law_total", "_law_answer", "_law_more"] [V.ref a, V.ref m, V.int pl, V.int sg] = [some (V.ref a), some (V.ref m), some (V.int pl), some (V.int sg), none, none, none] from rfl]
  obtain ⟨us, rows, x, y, h, M, hL, hA, hl, ok, hm, bx, by_, hv, h0, q⟩ := h
  have hul := hA.len
  rw [List.length_map] at hul
  walk_at "sts"
  refine L_rl hL ?_
  refine f_it walk_list (fun i σ' H' => ∃ v5 v6 : Option V, σ' = [some (.ref a), some (.ref m), some (.int pl), some (.int sg), some (.int (((rows.take i).map fun r => above M (h r)).sum)), v5, v6] ∧ H' = H) ⟨_, _, rfl, rfl⟩ (fun i σ' H' _ ⟨_, _, _, e⟩ => e ▸ hL) ?_ ?_
  · rintro i z σ' H' H'' hi ⟨v5, v6, rfl, rfl⟩ ⟨e, hz⟩
    subst e
    obtain ⟨r, t, hr, rfl, ht⟩ := hit4 hA hz
    obtain ⟨o1, o2, o3, o4, o5, o6⟩ := ok r (List.mem_of_getElem? hr)
    have hst := sum_take (f := fun r => above M (h r)) hr
    have key : ∀ v : Int, ((pl = 2 ∧ v = r.2.2.1) ∨ (pl = 1 ∧ v = r.2.1)) → (v * y - x) * r.1 * sg = ((h r).2.1 * M.2 - M.1) * (h r).1 ∧ (h r).2.2 = r.2.2.2 := fun v hvv => by
      rcases hv with ⟨p1, rfl, rfl, rfl⟩ | ⟨p1, rfl, rfl, rfl⟩
      · have : v = r.2.2.1 := by omega
        subst this
        refine ⟨?_, rfl⟩
        show _ = (r.2.2.1 * y - x) * r.1
        rw [Int.mul_one]
      · have : v = r.2.1 := by omega
        subst this
        refine ⟨?_, rfl⟩
        show _ = ((0 - r.2.1) * y - (0 - x)) * r.1
        grind
    have hsg : Bd 64 sg := by rcases hv with ⟨_, rfl, _⟩ | ⟨_, rfl, _⟩ <;> exact bd_64 (by decide)
    obtain ⟨v, hvv, hat, hvb⟩ : ∃ v, ((pl = 2 ∧ v = r.2.2.1) ∨ (pl = 1 ∧ v = r.2.1)) ∧ atI [V.int r.1, V.int r.2.1, V.int r.2.2.1, V.str r.2.2.2] pl = some (.int v) ∧ Bd 64 v := by
      rcases hv with ⟨rfl, _⟩ | ⟨rfl, _⟩
      · exact ⟨_, .inl ⟨rfl, rfl⟩, rfl, bd_64 (by omega)⟩
      · exact ⟨_, .inr ⟨rfl, rfl⟩, rfl, bd_64 (by omega)⟩
    obtain ⟨k1, k2⟩ := key v hvv
    walk_at "sts"
    refine L_ixT ht hat ?_
    walk_at "sts"
    refine L_ixT hm rfl ?_
    refine L_mulI (hvb.cmul by_) ?_
    walk_at "sts"
    refine L_ixT hm rfl ?_
    walk_at "sts"
    refine L_ixT ht rfl ?_
    have b1 : Bd 129 (v * y - x) := (hvb.mul by_).sub bx
    have b2 : Bd 64 r.1 := bd_64 (by omega)
    refine L_mulI (b1.cmul b2) ?_
    walk_at "sts"
    refine L_mulI ((b1.mul b2).cmul hsg) ?_
    rw [k1]
    have hab : above M (h r) = if (h r).2.2 = ("yes" : Str) ∨ (h r).2.2 = ("open" : Str) ∧ 0 < ((h r).2.1 * M.2 - M.1) * (h r).1 then ((h r).2.1 * M.2 - M.1) * (h r).1 else 0 := rfl
    rw [k2] at hab
    generalize ((h r).2.1 * M.2 - M.1) * (h r).1 = mo at hab
    walk_at "sts"
    refine L_ixT ht rfl ?_
    walk_at "sts"
    refine L_d (fun c => ?_) (fun c => ?_)
    · walk_at "sts"
      rw [if_pos (.inl c)] at hab
      exact ⟨_, _, by rw [hst, hab], rfl⟩
    · walk_at "sts"
      refine L_ixT ht rfl ?_
      walk_at "sts"
      refine L_d (fun c2 => ?_) (fun c2 => ?_)
      · walk_at "sts"
        refine L_d (fun c3 => ?_) (fun c3 => ?_)
        · walk_at "sts"
          rw [if_pos (.inr ⟨c2, c3⟩)] at hab
          exact ⟨_, _, by rw [hst, hab], rfl⟩
        · walk_at "sts"
          rw [if_neg (fun z => z.elim c fun z => c3 z.2)] at hab
          exact ⟨_, _, by rw [hst, hab, Int.add_zero], rfl⟩
      · walk_at "sts"
        rw [if_neg (fun z => z.elim c fun z => c2 z.1)] at hab
        exact ⟨_, _, by rw [hst, hab, Int.add_zero], rfl⟩
  · rintro σ' H' ⟨v5, v6, rfl, rfl⟩
    rw [List.take_of_length_le (by omega), show (rows.map fun r => above M (h r)) = (rows.map h).map (above M) by rw [List.map_map]; rfl, h0]
    walk_at "sts"
    exact q
theorem dpa_flt {H : Hp} (c : R4 → Bool) : ∀ (rows : List R4) {us : List V}, DpAll K H us (rows.map d4) → DpAll K H (((us.zip rows).filter fun z => c z.2).map (·.1)) ((rows.filter c).map d4)
  | [], _, h => by cases h; exact .nil
  | r :: rows, _, h => by
    cases h with
    | cons h1 h2 =>
      have ih := dpa_flt c rows h2
      rw [List.zip_cons_cons, List.filter_cons, List.filter_cons]
      cases hc : c r with
      | true => exact .cons h1 ih
      | false => exact ih
theorem shp_d4 {rows : List R4} (ok : ∀ r ∈ rows, Ok4 r) : SeqAt.shaped (.list (rows.map d4)) = true := (shp_lst (n := 1) (shp_map fun r hr => shp_tup (n := 0) (shp_cons shp_int (shp_cons shp_int (shp_cons shp_int (shp_cons (shp_str (by
  rcases (ok r hr).2.2.2.2.2 with h | h | h <;> rw [h] <;> decide +kernel)) shp_nil)))))).ok
def fillD (g : R4 → Int) (rows : List R4) (c : List Bool) : List PyData := (rows.zip c).map fun z => if z.2 = true then .int (g z.1) else .none
theorem dp_fill {H : Hp} (g : R4 → Int) (rows : List R4) (c : List Bool) : DpAll K H (fill g rows c) (fillD g rows c) := by
  unfold fill fillD
  generalize rows.zip c = l
  induction l with
  | nil => exact .nil
  | cons z l ih =>
    rw [List.map_cons, List.map_cons]
    refine .cons ?_ ih
    cases z.2 with
    | true => exact .int _
    | false => exact .non
theorem shp_fill (g : R4 → Int) (rows : List R4) (c : List Bool) : ∀ n, Shp (n + 1) (.list (fillD g rows c)) := fun n => shp_lst (shp_map fun z _ => by
  cases z.2 with
  | true => exact shp_int
  | false => exact shp_non)
theorem shp_f2 {n : Nat} {x y : Int} : Shp (n + 1) (.tuple [.int x, .int y]) := shp_tup (shp_cons shp_int (shp_cons shp_int shp_nil))
theorem zg_neg (f : R4 → Int) (rows : List R4) (c : List Bool) (n : Nat) : zg (fun r => 0 - f r) rows c n = 0 - zg f rows c n := by
  unfold zg
  generalize (rows.zip c).take n = l
  induction l with
  | nil => rfl
  | cons z l ih =>
    rw [List.map_cons, List.map_cons, List.sum_cons, List.sum_cons, ih]
    dsimp only
    split <;> omega
theorem gm_bds {rows : List Rv} (ok : ∀ r ∈ rows, OkV r) (hl : rows.length ≤ 24) (hB : 0 < (gm rows).2.1) : 1 ≤ (low (gm rows).1 (gm rows).2.1).2 ∧ gc (low (gm rows).1 (gm rows).2.1).1 (low (gm rows).1 (gm rows).2.1).2 = 1 ∧ Bd 64 (low (gm rows).1 (gm rows).2.1).1 ∧ Bd 64 (low (gm rows).1 (gm rows).2.1).2 := by
  have g := gm_ok ok
  have h1 := zs_bd (fun r => r.1 * r.2.1) 1000000000000000 rows (gm rows).2.2 (fun r hr => by
    obtain ⟨h1, h2, h3, h4, _⟩ := ok r hr
    have h5 : r.1 * r.2.1 ≤ r.1 * 1000000000 := Int.mul_le_mul_of_nonneg_left h4 (by omega)
    have h6 : r.1 * (-1000000000) ≤ r.1 * r.2.1 := Int.mul_le_mul_of_nonneg_left h3 (by omega)
    first | omega | (dsimp only; omega)) (by decide)
  have h2 := zs_bd (fun r => r.1) 1000000 rows (gm rows).2.2 (fun r hr => by obtain ⟨h1, h2, _⟩ := ok r hr; first | omega | (dsimp only; omega)) (by decide)
  rw [← g.t] at h1
  rw [← g.b] at h2
  obtain ⟨b1, b2⟩ := low_bd (n := 64) (t := (gm rows).1) hB (bd_64 (by omega)) (bd_64 (by omega))
  exact ⟨low_pos hB, low_gc hB, b1, b2⟩
def sp_law (K : PySem.W.Frag) (mg : Str → Option Value) : Sp := fun vs H Q _ => match vs with | [.ref a] => ∃ ns : List Int, SqL K H a (ns.map V.int) ∧ ns.length ≤ 63 ∧ (∀ z ∈ ns, Builtin.Int.intBits z ≤ 1048576) ∧ ∀ H', Q (.bl true) H' | _ => False
theorem q_law {H : Hp} {Q : VK} {E : XK} {a : Addr} (q : ∃ ns : List Int, SqL K H a (ns.map V.int) ∧ ns.length ≤ 63 ∧ (∀ z ∈ ns, Builtin.Int.intBits z ≤ 1048576) ∧ ∀ H', Q (.bl true) H') : sp_law K mg [.ref a] H Q E := q
local macro_rules | `(tactic| walk_at "op") => `(tactic| with_reducible refine q_law ?_)
theorem c_law (T : Txt K mg) {f : Addr} {fd : FuncData} (F : Fun K "law" "law" s_law f fd) : FnOk P w K mg base CX0 5 f fd ["_law_script"] (sp_law K mg) := by
  refine F.ok (k := 4) sc_law (by intro vs H Q E h; unfold sp_law at h; split at h <;> first | rfl | exact h.elim) fun cdv A outer s H vs Q E hr h => ?_
  refine ⟨_, (pss_cons (ps_set (i := 1) sc_law.nd rfl (.inl rfl) (pe_c (c__law_answers T) hr (by decide) (by rfl) (pa_cons (pv 0) pa_nil)))
    (pss_cons (ps_set (i := 2) sc_law.nd rfl (.inl rfl) (pe_callTy call_list1A (by rfl) T.n_list (by decide +kernel) (pa_cons (pv 1) pa_nil)))
    (pss_cons (ps_set (i := 3) sc_law.nd rfl (.inl rfl) (pe_c (c_mean_stretch T) hr (by decide) (by rfl) (pa_cons (pv 2) pa_nil)))
    (pss_cons (ps_if (pt_cmpR (op_eqA hr) (pe_lc (own := [("_law_answer", 9)]) (g := (gName 9)) (tt := (tTest (tOp (aNe K) (tOp (rIx K) (tVar 9) (tC (.int 3))) (tC (.str "no"))))) (te := (tVar 9)) rfl sc_law.nd (pi_list (pv 1)) (blkOk_by (N := ["_law_script", "_law_answers_here", "_law_handed", "_law_told", "_law_least", "_law_most", "_law_lows", "_law_highs", "_law_kept", "_law_answer"]) (sc := defScope s_law) (by decide +kernel)) (fun _ _ _ _ _ => by exact (pg_name (i := 9) sc_law.nd rfl (.inl rfl))) (fun _ _ _ _ _ => by exact pts_one (pt_cmpR (op_neA hr) (pe_ix ix_seq (pv 9) pe_int (fun _ _ => rfl)) pe_str (nomark _))) (fun _ _ _ _ _ => by exact (pv 9))) (pe_lst pa_nil) (nomark _))
    (pss_one (ps_ret (pe_and (pe_cmpR op_isNA (pv 3) pe_non (nomark _)) (pe_one (pe_cmpR (op_eqA hr) (pv 2) (pv 1) (nomark _))))))
    pss_nil)
    (pss_cons (ps_if (PW.pt (pw_or (pt_not (pt_val (pe_callB call_isi (by rfl) T.n_isinstance (by decide +kernel) (pa_cons (pv 3) (pa_cons (pe_ty "tuple" (by rfl) T.n_tuple (by decide +kernel)) pa_nil))))) (pw_or (pt_cmpR (op_neA hr) (pe_callB call_lenA (by rfl) T.n_len (by decide +kernel) (pa_cons (pv 3) pa_nil)) pe_int (nomark _)) (pw_or1 (pt_cmpR (op_neA hr) (pv 2) (pv 1) (nomark _))))))
    (pss_one (ps_ret pe_bl))
    pss_nil)
    (pss_cons (ps_asg (pv 3) (pg_tup rfl (pgs_cons (pg_name (i := 4) sc_law.nd rfl (.inl rfl)) (pgs_cons (pg_name (i := 5) sc_law.nd rfl (.inl rfl)) (pgs_cons (pg_name (i := 6) sc_law.nd rfl (.inl rfl)) (pgs_cons (pg_name (i := 7) sc_law.nd rfl (.inl rfl)) pgs_nil))))))
    (pss_cons (ps_if (PW.pt (pw_or (pt_not (pt_val (pe_c (c__law_fraction T) hr (by decide) (by rfl) (pa_cons (pv 4) pa_nil)))) (pw_or1 (pt_not (pt_val (pe_c (c__law_fraction T) hr (by decide) (by rfl) (pa_cons (pv 5) pa_nil)))))))
    (pss_one (ps_ret pe_bl))
    pss_nil)
    (pss_cons (ps_if (PW.pt (pw_or (pt_not (pt_val (pe_c (c__law_filling T) hr (by decide) (by rfl) (pa_cons (pv 6) (pa_cons (pv 1) (pa_cons (pv 4) pa_nil)))))) (pw_or1 (pt_not (pt_val (pe_c (c__law_filling T) hr (by decide) (by rfl) (pa_cons (pv 7) (pa_cons (pv 1) (pa_cons (pv 5) pa_nil)))))))))
    (pss_one (ps_ret pe_bl))
    pss_nil)
    (pss_cons (ps_if (PW.pt (pw_or (pt_not (pt_val (pe_c (c__law_none_above T) hr (by decide) (by rfl) (pa_cons (pv 1) (pa_cons (pv 5) (pa_cons pe_int (pa_cons pe_int pa_nil))))))) (pw_or1 (pt_not (pt_val (pe_c (c__law_none_above T) hr (by decide) (by rfl) (pa_cons (pv 1) (pa_cons (pv 4) (pa_cons pe_int (pa_cons (pe_un un_neg pe_int) pa_nil))))))))))
    (pss_one (ps_ret pe_bl))
    pss_nil)
    (pss_cons (ps_set (i := 8) sc_law.nd rfl (.inl rfl) (pe_tup (pa_cons (pv 4) (pa_cons (pv 5) (pa_cons (pe_callTy call_list1A (by rfl) T.n_list (by decide +kernel) (pa_cons (pv 6) pa_nil)) (pa_cons (pe_callTy call_list1A (by rfl) T.n_list (by decide +kernel) (pa_cons (pv 7) pa_nil)) pa_nil))))))
    (pss_cons (ps_expr (pe_bm0 PySem.F.plainAttrs_list PySem.F.slot_list_clear PySem.F.type_list_clear mt_clear (pv 6)))
    (pss_cons (ps_if (pt_cmpR (op_neA hr) (pv 7) (pe_ix ix_seq (pv 8) pe_int (fun _ _ => rfl)) (nomark _))
    (pss_one (ps_ret pe_bl))
    pss_nil)
    (pss_cons (ps_expr (pe_bm0 PySem.F.plainAttrs_list PySem.F.slot_list_clear PySem.F.type_list_clear mt_clear (pv 7)))
    (pss_one (ps_ret (pe_cmpR (op_eqA hr) (pe_c (c_mean_stretch T) hr (by decide) (by rfl) (pa_cons (pv 2) pa_nil)) (pv 8) (nomark _))))))))))))))))), ?_⟩
  try simp only [cxOf_K, cxOf_K', cxOf_mg, cxOf_mg']
  unfold sp_law at h
  split at h
  case h_2 => exact h.elim
  rename_i a
  rw [show L2.start ["_law_script", "_law_answers_here", "_law_handed", "_law_told", "_law_least", "_law_most", "_law_lows", "_law_highs", "_law_kept", "_law_answer"] [V.ref a] = [some (V.ref a), none, none, none, none, none, none, none, none, none] from rfl]
  obtain ⟨ns, hS, hl0, hbits, q⟩ := h
  walk_at "sts"
  refine ⟨ns, hS, fun rows hl ok p1 H1 us hp1 s1 e1 hA => ?_⟩
  replace hA := hA.same rs_sub
  have hul := hA.len
  rw [List.length_map] at hul
  walk_at "sts"
  refine L_list1 (.of e1) ?_
  walk_at "nwp"
  rename_i p2 hp2 H2 s2 e2
  walk_at "sts"
  have e12 := s2 _ _ e1
  have hA2 := hA.same s2
  have okH := hi_ok ok
  have okL := lo_ok ok
  obtain ⟨zH1, zH2⟩ := b_zero (h := hiR) (fun _ => rfl) okH
  obtain ⟨zL1, zL2⟩ := b_zero (h := loR) (fun _ => rfl) okL
  have zlen : us.length = (us.zip rows).length := by rw [List.length_zip]; omega
  by_cases hno : AllNo rows
  · refine ⟨us, rows, .of e2, hA2, hl, ok, fun _ H3 s3 => ?_, fun h => absurd hno h⟩
    walk_at "sts"
    refine L_rl (.of (s3 _ _ e12)) ?_
    refine lc_fm walk_list (fun i => ((us.zip rows)[i]?).bind fun z => if (!decide (z.2.2.2.2 = ("no" : Str))) = true then some z.1 else none) (by omega) (fun H' e => .of (e _ _ (s3 _ _ e12))) ?_ ?_
    · rintro j x H4 H4' R1 R2 hj s4 ⟨e, hx⟩ r1 r2
      subst e
      obtain ⟨r, t, hr, rfl, ht⟩ := hit4 hA2 hx
      walk_at "sts"
      refine ⟨rfl, ?_⟩
      walk_at "sts"
      refine L_ixT ((s3.trans s4).seqT ht) rfl ?_
      walk_at "sts"
      refine L_ndF (hno r (List.mem_of_getElem? hr)) ?_
      have hz : (us.zip rows)[j]? = some (.ref t, r) := by rw [List.getElem?_zip_eq_some]; exact ⟨hx, hr⟩
      exact r2 _ (by rw [hz, Option.bind_some, if_neg (by rw [decide_eq_true (hno r (List.mem_of_getElem? hr))]; exact Bool.false_ne_true)]) (Same.refl _)
    intro p4 H4 hp4 s4 e4
    rw [zlen, fm_flt, List.filter_eq_nil_iff.mpr (fun z hz => by rw [decide_eq_true (hno z.2 (List.of_mem_zip hz).2)]; exact Bool.false_ne_true)] at e4
    walk_at "sts"
    walk_at "nw"
    rename_i p5 hp5 H5 s5 e5
    refine L_eqR (d := .list []) (.lst (.of (s5 _ _ e4)) .nil) (.lst (.of e5) .nil) (shp_lst (n := 0) shp_nil).ok ?_
    walk_at "sts"
    refine L_dT rfl ?_
    walk_at "sts"
    have s25 := s3.trans (s4.trans s5)
    refine L_eqR (d := .list (rows.map d4)) (.lst (.of (s25 _ _ e2)) (hA2.same s25)) (.lst (.of (s25 _ _ e12)) (hA2.same s25)) (shp_d4 ok) ?_
    exact q _
  refine ⟨us, rows, .of e2, hA2, hl, ok, fun h => absurd h hno, fun _ pt q1 q2 q3 q4 H3 npt n3 n4 n34 s3 et eq1 eq2 eq3 eq4 => ?_⟩
  have gH := gm_ok okH
  have gL := gm_ok okL
  have naH := none_above okH gH (zH2 hno)
  have naL := none_above okL gL (zL2 hno)
  obtain ⟨h1, h2, h3, h4⟩ := gm_bds okH (by rw [List.length_map]; exact hl) (zH2 hno)
  obtain ⟨l1, l2, l3, l4⟩ := gm_bds okL (by rw [List.length_map]; exact hl) (zL2 hno)
  have zgHb : zg (fun r => r.1) rows (gm (rows.map hiR)).2.2 rows.length = (gm (rows.map hiR)).2.1 := (zg_zs (f := fun r => r.1) (h := hiR) (Nat.le_refl _)).trans gH.b.symm
  have zgLb : zg (fun r => r.1) rows (gm (rows.map loR)).2.2 rows.length = (gm (rows.map loR)).2.1 := (zg_zs (f := fun r => r.1) (h := loR) (Nat.le_refl _)).trans gL.b.symm
  have zgHt : zg (fun r => r.2.2.1 * r.1) rows (gm (rows.map hiR)).2.2 rows.length = (gm (rows.map hiR)).1 := by
    rw [show (fun r : R4 => r.2.2.1 * r.1) = fun r => (hiR r).1 * (hiR r).2.1 from funext fun r => Int.mul_comm _ _]
    exact (zg_zs (f := fun r => r.1 * r.2.1) (h := hiR) (Nat.le_refl _)).trans gH.t.symm
  have zgLt : zg (fun r => r.2.1 * r.1) rows (gm (rows.map loR)).2.2 rows.length = 0 - (gm (rows.map loR)).1 := by
    rw [show (fun r : R4 => r.2.1 * r.1) = fun r => 0 - (loR r).1 * (loR r).2.1 from funext fun r => by show r.2.1 * r.1 = 0 - r.1 * (0 - r.2.1); grind]
    rw [zg_neg]
    congr 1
    exact (zg_zs (f := fun r => r.1 * r.2.1) (h := loR) (Nat.le_refl _)).trans gL.t.symm
  have lenH := gH.len
  have lenL := gL.len
  rw [List.length_map] at lenH lenL
  have yH : ∀ (i : Nat) r, rows[i]? = some r → r.2.2.2 = ("yes" : Str) → (gm (rows.map hiR)).2.2[i]? = some true := fun i r hr h => gH.yes i (hiR r) (by rw [List.getElem?_map, hr]; rfl) h
  have nH : ∀ (i : Nat) r, rows[i]? = some r → r.2.2.2 = ("no" : Str) → (gm (rows.map hiR)).2.2[i]? = some false := fun i r hr h => gH.no i (hiR r) (by rw [List.getElem?_map, hr]; rfl) h
  have yL : ∀ (i : Nat) r, rows[i]? = some r → r.2.2.2 = ("yes" : Str) → (gm (rows.map loR)).2.2[i]? = some true := fun i r hr h => gL.yes i (loR r) (by rw [List.getElem?_map, hr]; rfl) h
  have nL : ∀ (i : Nat) r, rows[i]? = some r → r.2.2.2 = ("no" : Str) → (gm (rows.map loR)).2.2[i]? = some false := fun i r hr h => gL.no i (loR r) (by rw [List.getElem?_map, hr]; rfl) h
  have zH := zH2 hno
  have zL := zL2 hno
  clear zH1 zH2 zL1 zL2 gH gL
  generalize hGH : gm (rows.map hiR) = GH at *
  generalize hGL : gm (rows.map loR) = GL at *
  walk_at "sts"
  refine L_rl (.of (s3 _ _ e12)) ?_
  refine lc_fm walk_list (fun i => ((us.zip rows)[i]?).bind fun z => if (!decide (z.2.2.2.2 = ("no" : Str))) = true then some z.1 else none) (by omega) (fun H' e => .of (e _ _ (s3 _ _ e12))) ?_ ?_
  · rintro j x H4 H4' R1 R2 hj s4 ⟨e, hx⟩ r1 r2
    subst e
    obtain ⟨r, t, hr, rfl, ht⟩ := hit4 hA2 hx
    have hz : (us.zip rows)[j]? = some (.ref t, r) := by rw [List.getElem?_zip_eq_some]; exact ⟨hx, hr⟩
    walk_at "sts"
    refine ⟨rfl, ?_⟩
    walk_at "sts"
    refine L_ixT ((s3.trans s4).seqT ht) rfl ?_
    walk_at "sts"
    refine L_nd (fun c => ?_) (fun c => ?_)
    · walk_at "sts"
      exact r1 _ _ (by rw [hz, Option.bind_some, if_pos (by rw [decide_eq_false c]; rfl)]) (Same.refl _)
    · exact r2 _ (by rw [hz, Option.bind_some, if_neg (by rw [decide_eq_true c]; exact Bool.false_ne_true)]) (Same.refl _)
  intro p4 H4 hp4 s4 e4
  rw [zlen, fm_flt] at e4
  have s24 := s3.trans s4
  have dF := dpa_flt (fun r => !decide (r.2.2.2 = ("no" : Str))) rows (hA2.same s24)
  have hne : (rows.filter fun r => !decide (r.2.2.2 = ("no" : Str))).isEmpty = false := by
    cases e : rows.filter fun r => !decide (r.2.2.2 = ("no" : Str)) with
    | cons _ _ => rfl
    | nil =>
      refine absurd (fun r hr => ?_) hno
      have := List.filter_eq_nil_iff.mp e r hr
      simpa using this
  walk_at "sts"
  walk_at "nw"
  rename_i p5 hp5 H5 s5 e5
  refine L_eqD (d := .list ((rows.filter fun r => !decide (r.2.2.2 = ("no" : Str))).map d4)) (e := .list []) (.lst (.of (s5 _ _ e4)) (dF.same s5)) (.lst (.of e5) .nil) (shp_d4 fun r hr => ok r (List.mem_filter.mp hr).1) (shp_lst (n := 0) shp_nil).ok ?_
  rw [eqv_nil, List.isEmpty_map, hne]
  walk_at "sts"
  have s35 := s4.trans s5
  have s25 := s3.trans s35
  refine L_isi (tyx_T (.of (s35 _ _ et))) (b := true) (by decide +kernel) ?_
  walk_at "sts"
  refine L_lenT (.of (s35 _ _ et)) ?_
  walk_at "sts"
  refine L_ndF rfl ?_
  walk_at "sts"
  refine L_neR (d := .list (rows.map d4)) (.lst (.of (s25 _ _ e2)) (hA2.same s25)) (.lst (.of (s25 _ _ e12)) (hA2.same s25)) (shp_d4 ok) ?_
  walk_at "sts"
  refine L_gTup (.of (s35 _ _ et)) rfl ?_
  walk_at "sts"
  have eq1 := s35 _ _ eq1
  have eq2 := s35 _ _ eq2
  have eq3 := s35 _ _ eq3
  have eq4 := s35 _ _ eq4
  have e15 := s25 _ _ e12
  have hA5 := hA2.same s25
  refine ⟨_, _, .of eq1, by omega, by rw [gc_neg]; exact l2, l4.mono (by decide), fun H6 s6 => ?_⟩
  walk_at "sts"
  refine ⟨_, _, .of (s6 _ _ eq2), by omega, h2, h4.mono (by decide), fun H7 s7 => ?_⟩
  have s57 := s6.trans s7
  walk_at "sts"
  refine ⟨us, rows, GL.2.2, fun r => r.2.1, .of (s57 _ _ eq3), .of (s57 _ _ e15), hA5.same s57, lenL, hl, ok, fun r h => ⟨Int.le_refl _, h⟩, yL, nL, by rw [zgLb]; exact zL, ?_, fun H8 s8 => ?_⟩
  · rw [zgLt, zgLb, low_neg]
    exact .of (s57 _ _ eq1)
  have s58 := s57.trans s8
  walk_at "sts"
  refine ⟨us, rows, GH.2.2, fun r => r.2.2.1, .of (s58 _ _ eq4), .of (s58 _ _ e15), hA5.same s58, lenH, hl, ok, fun r h => ⟨h, Int.le_refl _⟩, yH, nH, by rw [zgHb]; exact zH, ?_, fun H9 s9 => ?_⟩
  · rw [zgHt, zgHb]
    exact .of (s58 _ _ eq2)
  have s59 := s58.trans s9
  walk_at "sts"
  refine ⟨us, rows, _, _, hiR, low GH.1 GH.2.1, .of (s59 _ _ e15), hA5.same s59, hl, ok, .of (s59 _ _ eq2), h3, h4, .inl ⟨rfl, rfl, rfl, rfl⟩, naH, ?_⟩
  walk_at "sts"
  refine ⟨us, rows, _, _, loR, low GL.1 GL.2.1, .of (s59 _ _ e15), hA5.same s59, hl, ok, .of (s59 _ _ eq1), by rw [Int.zero_sub]; exact l3.neg, l4, .inr ⟨rfl, rfl, rfl, by rw [Int.sub_sub_self]⟩, naL, ?_⟩
  walk_at "sts"
  refine L_list1 (.of (s59 _ _ eq3)) ?_
  walk_at "nwp"
  rename_i p10 hp10 H10 s10 e10
  walk_at "sts"
  refine L_list1 (.of ((s59.trans s10) _ _ eq4)) ?_
  walk_at "nwp"
  rename_i p11 hp11 H11 s11 e11
  walk_at "sts"
  walk_at "nw"
  rename_i p12 hp12 H12 s12 e12'
  have s512 := s59.trans (s10.trans (s11.trans s12))
  walk_at "sts"
  refine L_tyL (.of (s512 _ _ eq3)) ?_
  walk_at "sts"
  refine L_clear (s512 _ _ eq3) ?_
  have s2x : Same H2 (upd H12 q3 (.lst [])) := same_mut (s25.trans s512) n3
  have x3 := s512 _ _ eq3
  have up : ∀ b o, H12 b = some o → b ≠ q3 → upd H12 q3 (.lst []) b = some o := fun b o h ne => by rw [upd_ne ne]; exact h
  have ut : ∀ b xs, H12 b = some (.tup xs) → upd H12 q3 (.lst []) b = some (.tup xs) := fun b xs h => up b _ h fun z => by rw [z, x3] at h; cases h
  have y4 := up _ _ (s512 _ _ eq4) n34.symm
  have k3 := up _ _ ((s11.trans s12) _ _ e10) (ne_new hp10 ⟨_, s59 _ _ eq3⟩)
  have k4 := up _ _ (s12 _ _ e11) (ne_new hp11 ⟨_, (s59.trans s10) _ _ eq3⟩)
  have kt := ut _ _ e12'
  have y1 := ut _ _ (s512 _ _ eq1)
  have y2 := ut _ _ (s512 _ _ eq2)
  have n11 : p11 ≠ q4 := ne_new hp11 ⟨_, (s59.trans s10) _ _ eq4⟩
  have n10 : p10 ≠ q4 := ne_new hp10 ⟨_, s59 _ _ eq4⟩
  generalize upd H12 q3 (.lst []) = HA at s2x y4 k3 k4 kt y1 y2
  clear up ut x3
  walk_at "sts"
  refine L_ixT (.of kt) rfl ?_
  refine L_neR (d := .list (fillD (fun r => r.2.2.1) rows GH.2.2)) (.lst (.of y4) (dp_fill ..)) (.lst (.of k4) (dp_fill ..)) (shp_fill _ _ _ 1).ok ?_
  walk_at "sts"
  refine L_tyL (.of y4) ?_
  walk_at "sts"
  refine L_clear y4 ?_
  have s2y : Same H2 (upd HA q4 (.lst [])) := same_mut s2x n4
  have up : ∀ b o, HA b = some o → b ≠ q4 → upd HA q4 (.lst []) b = some o := fun b o h ne => by rw [upd_ne ne]; exact h
  have ut : ∀ b xs, HA b = some (.tup xs) → upd HA q4 (.lst []) b = some (.tup xs) := fun b xs h => up b _ h fun z => by rw [z, y4] at h; cases h
  have w3 := up _ _ k3 n10
  have w4 := up _ _ k4 n11
  have wt := ut _ _ kt
  have w1 := ut _ _ y1
  have w2 := ut _ _ y2
  generalize upd HA q4 (.lst []) = HB at s2y w3 w4 wt w1 w2
  clear up ut
  walk_at "sts"
  refine ⟨us, rows, .of (s2y _ _ e2), hA2.same s2y, hl, ok, fun h => absurd h hno, fun _ rt r1 r2 r3 r4 HC nrt nr3 nr4 nr34 sC ct c1 c2 c3 c4 => ?_⟩
  rw [hGL] at c1 c3
  rw [hGH] at c2 c4
  walk_at "sts"
  refine L_eqR (d := .tuple [.tuple [.int _, .int _], .tuple [.int _, .int _], .list (fillD (fun r => r.2.1) rows GL.2.2), .list (fillD (fun r => r.2.2.1) rows GH.2.2)])
    (.tup (.of ct) (.cons (.tup (.of c1) (.cons (.int _) (.cons (.int _) .nil))) (.cons (.tup (.of c2) (.cons (.int _) (.cons (.int _) .nil))) (.cons (.lst (.of c3) (dp_fill ..)) (.cons (.lst (.of c4) (dp_fill ..)) .nil)))))
    (.tup (.of (sC _ _ wt)) (.cons (.tup (.of (sC _ _ w1)) (.cons (.int _) (.cons (.int _) .nil))) (.cons (.tup (.of (sC _ _ w2)) (.cons (.int _) (.cons (.int _) .nil))) (.cons (.lst (.of (sC _ _ w3)) (dp_fill ..)) (.cons (.lst (.of (sC _ _ w4)) (dp_fill ..)) .nil)))))
    (shp_tup (n := 1) (shp_cons shp_f2 (shp_cons shp_f2 (shp_cons (shp_fill _ _ _ 0) (shp_cons (shp_fill _ _ _ 0) shp_nil))))).ok ?_
  exact q _
end
theorem txt_mk {K : PySem.W.Frag} {h : Heap} {mg : Str → Option Value} (X : K.In h) (G : h.Ns mainGlobals mg)
    (z_n_abs : PySem.W.nsIn K mainGlobals "abs" = some none)
    (z_n_len : PySem.W.nsIn K mainGlobals "len" = some none)
    (z_n_range : PySem.W.nsIn K mainGlobals "range" = some none)
    (z_n_bool : PySem.W.nsIn K mainGlobals "bool" = some none)
    (z_n_int : PySem.W.nsIn K mainGlobals "int" = some none)
    (z_n_isinstance : PySem.W.nsIn K mainGlobals "isinstance" = some none)
    (z_n_enumerate : PySem.W.nsIn K mainGlobals "enumerate" = some none)
    (z_n_sorted : PySem.W.nsIn K mainGlobals "sorted" = some none)
    (z_n_sum : PySem.W.nsIn K mainGlobals "sum" = some none)
    (z_n_tuple : PySem.W.nsIn K mainGlobals "tuple" = some none)
    {u_g_FAR : Value} (z_g_FAR : PySem.W.nsIn K mainGlobals "FAR" = some (some u_g_FAR)) (y_g_FAR : RelV (.int 1000000000) u_g_FAR)
    {u_g_MOST_WEIGHT : Value} (z_g_MOST_WEIGHT : PySem.W.nsIn K mainGlobals "MOST_WEIGHT" = some (some u_g_MOST_WEIGHT)) (y_g_MOST_WEIGHT : RelV (.int 1000000) u_g_MOST_WEIGHT)
    (z_n_list : PySem.W.nsIn K mainGlobals "list" = some none)
    {u_g_MOST_ANSWERS : Value} (z_g_MOST_ANSWERS : PySem.W.nsIn K mainGlobals "MOST_ANSWERS" = some (some u_g_MOST_ANSWERS)) (y_g_MOST_ANSWERS : RelV (.int 24) u_g_MOST_ANSWERS)
    (z_n_zip : PySem.W.nsIn K mainGlobals "zip" = some none)
    {f_divisor : Addr} {od_divisor an_divisor : Option Addr} {sl_divisor : Array (Option Value)} {oc_divisor kV_divisor dc_divisor pm_divisor cd_divisor ct_divisor : Value}
    (a_divisor : PySem.W.nsIn K mainGlobals "divisor" = some (some (.ref f_divisor))) (l_divisor : K.lookup f_divisor = some ⟨oc_divisor, od_divisor, .func (PySem.W.fnOf "divisor" "divisor" (defArgs s_divisor) (defBody s_divisor) (defScope s_divisor) .none kV_divisor dc_divisor pm_divisor an_divisor cd_divisor ct_divisor), sl_divisor⟩) (c_divisor : PySem.W.codeIn K cd_divisor "divisor" = true) (k_divisor : PySem.W.keepIn K (.ref f_divisor) = true)
    {f_share : Addr} {od_share an_share : Option Addr} {sl_share : Array (Option Value)} {oc_share kV_share dc_share pm_share cd_share ct_share : Value}
    (a_share : PySem.W.nsIn K mainGlobals "share" = some (some (.ref f_share))) (l_share : K.lookup f_share = some ⟨oc_share, od_share, .func (PySem.W.fnOf "share" "share" (defArgs s_share) (defBody s_share) (defScope s_share) .none kV_share dc_share pm_share an_share cd_share ct_share), sl_share⟩) (c_share : PySem.W.codeIn K cd_share "share" = true) (k_share : PySem.W.keepIn K (.ref f_share) = true)
    {f_below : Addr} {od_below an_below : Option Addr} {sl_below : Array (Option Value)} {oc_below kV_below dc_below pm_below cd_below ct_below : Value}
    (a_below : PySem.W.nsIn K mainGlobals "below" = some (some (.ref f_below))) (l_below : K.lookup f_below = some ⟨oc_below, od_below, .func (PySem.W.fnOf "below" "below" (defArgs s_below) (defBody s_below) (defScope s_below) .none kV_below dc_below pm_below an_below cd_below ct_below), sl_below⟩) (c_below : PySem.W.codeIn K cd_below "below" = true) (k_below : PySem.W.keepIn K (.ref f_below) = true)
    {f__law_cell : Addr} {od__law_cell an__law_cell : Option Addr} {sl__law_cell : Array (Option Value)} {oc__law_cell kV__law_cell dc__law_cell pm__law_cell cd__law_cell ct__law_cell : Value}
    (a__law_cell : PySem.W.nsIn K mainGlobals "_law_cell" = some (some (.ref f__law_cell))) (l__law_cell : K.lookup f__law_cell = some ⟨oc__law_cell, od__law_cell, .func (PySem.W.fnOf "_law_cell" "_law_cell" (defArgs s__law_cell) (defBody s__law_cell) (defScope s__law_cell) .none kV__law_cell dc__law_cell pm__law_cell an__law_cell cd__law_cell ct__law_cell), sl__law_cell⟩) (c__law_cell : PySem.W.codeIn K cd__law_cell "_law_cell" = true) (k__law_cell : PySem.W.keepIn K (.ref f__law_cell) = true)
    {f__law_mix : Addr} {od__law_mix an__law_mix : Option Addr} {sl__law_mix : Array (Option Value)} {oc__law_mix kV__law_mix dc__law_mix pm__law_mix cd__law_mix ct__law_mix : Value}
    (a__law_mix : PySem.W.nsIn K mainGlobals "_law_mix" = some (some (.ref f__law_mix))) (l__law_mix : K.lookup f__law_mix = some ⟨oc__law_mix, od__law_mix, .func (PySem.W.fnOf "_law_mix" "_law_mix" (defArgs s__law_mix) (defBody s__law_mix) (defScope s__law_mix) .none kV__law_mix dc__law_mix pm__law_mix an__law_mix cd__law_mix ct__law_mix), sl__law_mix⟩) (c__law_mix : PySem.W.codeIn K cd__law_mix "_law_mix" = true) (k__law_mix : PySem.W.keepIn K (.ref f__law_mix) = true)
    {f__law_row : Addr} {od__law_row an__law_row : Option Addr} {sl__law_row : Array (Option Value)} {oc__law_row kV__law_row dc__law_row pm__law_row cd__law_row ct__law_row : Value}
    (a__law_row : PySem.W.nsIn K mainGlobals "_law_row" = some (some (.ref f__law_row))) (l__law_row : K.lookup f__law_row = some ⟨oc__law_row, od__law_row, .func (PySem.W.fnOf "_law_row" "_law_row" (defArgs s__law_row) (defBody s__law_row) (defScope s__law_row) .none kV__law_row dc__law_row pm__law_row an__law_row cd__law_row ct__law_row), sl__law_row⟩) (c__law_row : PySem.W.codeIn K cd__law_row "_law_row" = true) (k__law_row : PySem.W.keepIn K (.ref f__law_row) = true)
    {f__law_whole : Addr} {od__law_whole an__law_whole : Option Addr} {sl__law_whole : Array (Option Value)} {oc__law_whole kV__law_whole dc__law_whole pm__law_whole cd__law_whole ct__law_whole : Value}
    (a__law_whole : PySem.W.nsIn K mainGlobals "_law_whole" = some (some (.ref f__law_whole))) (l__law_whole : K.lookup f__law_whole = some ⟨oc__law_whole, od__law_whole, .func (PySem.W.fnOf "_law_whole" "_law_whole" (defArgs s__law_whole) (defBody s__law_whole) (defScope s__law_whole) .none kV__law_whole dc__law_whole pm__law_whole an__law_whole cd__law_whole ct__law_whole), sl__law_whole⟩) (c__law_whole : PySem.W.codeIn K cd__law_whole "_law_whole" = true) (k__law_whole : PySem.W.keepIn K (.ref f__law_whole) = true)
    {f_is_whole : Addr} {od_is_whole an_is_whole : Option Addr} {sl_is_whole : Array (Option Value)} {oc_is_whole kV_is_whole dc_is_whole pm_is_whole cd_is_whole ct_is_whole : Value}
    (a_is_whole : PySem.W.nsIn K mainGlobals "is_whole" = some (some (.ref f_is_whole))) (l_is_whole : K.lookup f_is_whole = some ⟨oc_is_whole, od_is_whole, .func (PySem.W.fnOf "is_whole" "is_whole" (defArgs s_is_whole) (defBody s_is_whole) (defScope s_is_whole) .none kV_is_whole dc_is_whole pm_is_whole an_is_whole cd_is_whole ct_is_whole), sl_is_whole⟩) (c_is_whole : PySem.W.codeIn K cd_is_whole "is_whole" = true) (k_is_whole : PySem.W.keepIn K (.ref f_is_whole) = true)
    {f_greatest_mean : Addr} {od_greatest_mean an_greatest_mean : Option Addr} {sl_greatest_mean : Array (Option Value)} {oc_greatest_mean kV_greatest_mean dc_greatest_mean pm_greatest_mean cd_greatest_mean ct_greatest_mean : Value}
    (a_greatest_mean : PySem.W.nsIn K mainGlobals "greatest_mean" = some (some (.ref f_greatest_mean))) (l_greatest_mean : K.lookup f_greatest_mean = some ⟨oc_greatest_mean, od_greatest_mean, .func (PySem.W.fnOf "greatest_mean" "greatest_mean" (defArgs s_greatest_mean) (defBody s_greatest_mean) (defScope s_greatest_mean) .none kV_greatest_mean dc_greatest_mean pm_greatest_mean an_greatest_mean cd_greatest_mean ct_greatest_mean), sl_greatest_mean⟩) (c_greatest_mean : PySem.W.codeIn K cd_greatest_mean "greatest_mean" = true) (k_greatest_mean : PySem.W.keepIn K (.ref f_greatest_mean) = true)
    {f__law_low : Addr} {od__law_low an__law_low : Option Addr} {sl__law_low : Array (Option Value)} {oc__law_low kV__law_low dc__law_low pm__law_low cd__law_low ct__law_low : Value}
    (a__law_low : PySem.W.nsIn K mainGlobals "_law_low" = some (some (.ref f__law_low))) (l__law_low : K.lookup f__law_low = some ⟨oc__law_low, od__law_low, .func (PySem.W.fnOf "_law_low" "_law_low" (defArgs s__law_low) (defBody s__law_low) (defScope s__law_low) .none kV__law_low dc__law_low pm__law_low an__law_low cd__law_low ct__law_low), sl__law_low⟩) (c__law_low : PySem.W.codeIn K cd__law_low "_law_low" = true) (k__law_low : PySem.W.keepIn K (.ref f__law_low) = true)
    {f_is_answer : Addr} {od_is_answer an_is_answer : Option Addr} {sl_is_answer : Array (Option Value)} {oc_is_answer kV_is_answer dc_is_answer pm_is_answer cd_is_answer ct_is_answer : Value}
    (a_is_answer : PySem.W.nsIn K mainGlobals "is_answer" = some (some (.ref f_is_answer))) (l_is_answer : K.lookup f_is_answer = some ⟨oc_is_answer, od_is_answer, .func (PySem.W.fnOf "is_answer" "is_answer" (defArgs s_is_answer) (defBody s_is_answer) (defScope s_is_answer) .none kV_is_answer dc_is_answer pm_is_answer an_is_answer cd_is_answer ct_is_answer), sl_is_answer⟩) (c_is_answer : PySem.W.codeIn K cd_is_answer "is_answer" = true) (k_is_answer : PySem.W.keepIn K (.ref f_is_answer) = true)
    {f_look : Addr} {od_look an_look : Option Addr} {sl_look : Array (Option Value)} {oc_look kV_look dc_look pm_look cd_look ct_look : Value}
    (a_look : PySem.W.nsIn K mainGlobals "look" = some (some (.ref f_look))) (l_look : K.lookup f_look = some ⟨oc_look, od_look, .func (PySem.W.fnOf "look" "look" (defArgs s_look) (defBody s_look) (defScope s_look) .none kV_look dc_look pm_look an_look cd_look ct_look), sl_look⟩) (c_look : PySem.W.codeIn K cd_look "look" = true) (k_look : PySem.W.keepIn K (.ref f_look) = true)
    {f_filled : Addr} {od_filled an_filled : Option Addr} {sl_filled : Array (Option Value)} {oc_filled kV_filled dc_filled pm_filled cd_filled ct_filled : Value}
    (a_filled : PySem.W.nsIn K mainGlobals "filled" = some (some (.ref f_filled))) (l_filled : K.lookup f_filled = some ⟨oc_filled, od_filled, .func (PySem.W.fnOf "filled" "filled" (defArgs s_filled) (defBody s_filled) (defScope s_filled) .none kV_filled dc_filled pm_filled an_filled cd_filled ct_filled), sl_filled⟩) (c_filled : PySem.W.codeIn K cd_filled "filled" = true) (k_filled : PySem.W.keepIn K (.ref f_filled) = true)
    {f_mean_stretch : Addr} {od_mean_stretch an_mean_stretch : Option Addr} {sl_mean_stretch : Array (Option Value)} {oc_mean_stretch kV_mean_stretch dc_mean_stretch pm_mean_stretch cd_mean_stretch ct_mean_stretch : Value}
    (a_mean_stretch : PySem.W.nsIn K mainGlobals "mean_stretch" = some (some (.ref f_mean_stretch))) (l_mean_stretch : K.lookup f_mean_stretch = some ⟨oc_mean_stretch, od_mean_stretch, .func (PySem.W.fnOf "mean_stretch" "mean_stretch" (defArgs s_mean_stretch) (defBody s_mean_stretch) (defScope s_mean_stretch) .none kV_mean_stretch dc_mean_stretch pm_mean_stretch an_mean_stretch cd_mean_stretch ct_mean_stretch), sl_mean_stretch⟩) (c_mean_stretch : PySem.W.codeIn K cd_mean_stretch "mean_stretch" = true) (k_mean_stretch : PySem.W.keepIn K (.ref f_mean_stretch) = true)
    {f__law_answers : Addr} {od__law_answers an__law_answers : Option Addr} {sl__law_answers : Array (Option Value)} {oc__law_answers kV__law_answers dc__law_answers pm__law_answers cd__law_answers ct__law_answers : Value}
    (a__law_answers : PySem.W.nsIn K mainGlobals "_law_answers" = some (some (.ref f__law_answers))) (l__law_answers : K.lookup f__law_answers = some ⟨oc__law_answers, od__law_answers, .func (PySem.W.fnOf "_law_answers" "_law_answers" (defArgs s__law_answers) (defBody s__law_answers) (defScope s__law_answers) .none kV__law_answers dc__law_answers pm__law_answers an__law_answers cd__law_answers ct__law_answers), sl__law_answers⟩) (c__law_answers : PySem.W.codeIn K cd__law_answers "_law_answers" = true) (k__law_answers : PySem.W.keepIn K (.ref f__law_answers) = true)
    {f__law_fraction : Addr} {od__law_fraction an__law_fraction : Option Addr} {sl__law_fraction : Array (Option Value)} {oc__law_fraction kV__law_fraction dc__law_fraction pm__law_fraction cd__law_fraction ct__law_fraction : Value}
    (a__law_fraction : PySem.W.nsIn K mainGlobals "_law_fraction" = some (some (.ref f__law_fraction))) (l__law_fraction : K.lookup f__law_fraction = some ⟨oc__law_fraction, od__law_fraction, .func (PySem.W.fnOf "_law_fraction" "_law_fraction" (defArgs s__law_fraction) (defBody s__law_fraction) (defScope s__law_fraction) .none kV__law_fraction dc__law_fraction pm__law_fraction an__law_fraction cd__law_fraction ct__law_fraction), sl__law_fraction⟩) (c__law_fraction : PySem.W.codeIn K cd__law_fraction "_law_fraction" = true) (k__law_fraction : PySem.W.keepIn K (.ref f__law_fraction) = true)
    {f__law_filling : Addr} {od__law_filling an__law_filling : Option Addr} {sl__law_filling : Array (Option Value)} {oc__law_filling kV__law_filling dc__law_filling pm__law_filling cd__law_filling ct__law_filling : Value}
    (a__law_filling : PySem.W.nsIn K mainGlobals "_law_filling" = some (some (.ref f__law_filling))) (l__law_filling : K.lookup f__law_filling = some ⟨oc__law_filling, od__law_filling, .func (PySem.W.fnOf "_law_filling" "_law_filling" (defArgs s__law_filling) (defBody s__law_filling) (defScope s__law_filling) .none kV__law_filling dc__law_filling pm__law_filling an__law_filling cd__law_filling ct__law_filling), sl__law_filling⟩) (c__law_filling : PySem.W.codeIn K cd__law_filling "_law_filling" = true) (k__law_filling : PySem.W.keepIn K (.ref f__law_filling) = true)
    {f__law_none_above : Addr} {od__law_none_above an__law_none_above : Option Addr} {sl__law_none_above : Array (Option Value)} {oc__law_none_above kV__law_none_above dc__law_none_above pm__law_none_above cd__law_none_above ct__law_none_above : Value}
    (a__law_none_above : PySem.W.nsIn K mainGlobals "_law_none_above" = some (some (.ref f__law_none_above))) (l__law_none_above : K.lookup f__law_none_above = some ⟨oc__law_none_above, od__law_none_above, .func (PySem.W.fnOf "_law_none_above" "_law_none_above" (defArgs s__law_none_above) (defBody s__law_none_above) (defScope s__law_none_above) .none kV__law_none_above dc__law_none_above pm__law_none_above an__law_none_above cd__law_none_above ct__law_none_above), sl__law_none_above⟩) (c__law_none_above : PySem.W.codeIn K cd__law_none_above "_law_none_above" = true) (k__law_none_above : PySem.W.keepIn K (.ref f__law_none_above) = true)
    {f_law : Addr} {od_law an_law : Option Addr} {sl_law : Array (Option Value)} {oc_law kV_law dc_law pm_law cd_law ct_law : Value}
    (a_law : PySem.W.nsIn K mainGlobals "law" = some (some (.ref f_law))) (l_law : K.lookup f_law = some ⟨oc_law, od_law, .func (PySem.W.fnOf "law" "law" (defArgs s_law) (defBody s_law) (defScope s_law) .none kV_law dc_law pm_law an_law cd_law ct_law), sl_law⟩) (c_law : PySem.W.codeIn K cd_law "law" = true) (k_law : PySem.W.keepIn K (.ref f_law) = true) : Txt K mg := by

  exact ⟨(PySem.W.mg_none_of X G z_n_abs), (PySem.W.mg_none_of X G z_n_len), (PySem.W.mg_none_of X G z_n_range), (PySem.W.mg_none_of X G z_n_bool), (PySem.W.mg_none_of X G z_n_int), (PySem.W.mg_none_of X G z_n_isinstance), (PySem.W.mg_none_of X G z_n_enumerate), (PySem.W.mg_none_of X G z_n_sorted), (PySem.W.mg_none_of X G z_n_sum), (PySem.W.mg_none_of X G z_n_tuple), (⟨_, PySem.W.mg_of X G z_g_FAR, y_g_FAR⟩), (⟨_, PySem.W.mg_of X G z_g_MOST_WEIGHT, y_g_MOST_WEIGHT⟩), (PySem.W.mg_none_of X G z_n_list), (⟨_, PySem.W.mg_of X G z_g_MOST_ANSWERS, y_g_MOST_ANSWERS⟩), (PySem.W.mg_none_of X G z_n_zip), (⟨f_divisor, _, fun_mk (st := s_divisor) l_divisor c_divisor k_divisor, PySem.W.mg_of X G a_divisor, (fun_mk (st := s_divisor) l_divisor c_divisor k_divisor).binds (ps := ["one", "other"]) fun _ _ _ _ _ _ us hl => match us, hl with | [_, _], _ => rfl⟩), (⟨f_share, _, fun_mk (st := s_share) l_share c_share k_share, PySem.W.mg_of X G a_share, (fun_mk (st := s_share) l_share c_share k_share).binds (ps := ["top", "bottom"]) fun _ _ _ _ _ _ us hl => match us, hl with | [_, _], _ => rfl⟩), (⟨f_below, _, fun_mk (st := s_below) l_below c_below k_below, PySem.W.mg_of X G a_below, (fun_mk (st := s_below) l_below c_below k_below).binds (ps := ["one", "other"]) fun _ _ _ _ _ _ us hl => match us, hl with | [_, _], _ => rfl⟩), (⟨f__law_cell, _, fun_mk (st := s__law_cell) l__law_cell c__law_cell k__law_cell, PySem.W.mg_of X G a__law_cell, (fun_mk (st := s__law_cell) l__law_cell c__law_cell k__law_cell).binds (ps := ["_law_script", "_law_k"]) fun _ _ _ _ _ _ us hl => match us, hl with | [_, _], _ => rfl⟩), (⟨f__law_mix, _, fun_mk (st := s__law_mix) l__law_mix c__law_mix k__law_mix, PySem.W.mg_of X G a__law_mix, (fun_mk (st := s__law_mix) l__law_mix c__law_mix k__law_mix).binds (ps := ["_law_cell_here", "_law_k"]) fun _ _ _ _ _ _ us hl => match us, hl with | [_, _], _ => rfl⟩), (⟨f__law_row, _, fun_mk (st := s__law_row) l__law_row c__law_row k__law_row, PySem.W.mg_of X G a__law_row, (fun_mk (st := s__law_row) l__law_row c__law_row k__law_row).binds (ps := ["_law_cell_here", "_law_bit", "_law_many", "_law_most"]) fun _ _ _ _ _ _ us hl => match us, hl with | [_, _, _, _], _ => rfl⟩), (⟨f__law_whole, _, fun_mk (st := s__law_whole) l__law_whole c__law_whole k__law_whole, PySem.W.mg_of X G a__law_whole, (fun_mk (st := s__law_whole) l__law_whole c__law_whole k__law_whole).binds (ps := ["_law_found"]) fun _ _ _ _ _ _ us hl => match us, hl with | [_], _ => rfl⟩), (⟨f_is_whole, _, fun_mk (st := s_is_whole) l_is_whole c_is_whole k_is_whole, PySem.W.mg_of X G a_is_whole, (fun_mk (st := s_is_whole) l_is_whole c_is_whole k_is_whole).binds (ps := ["thing", "low", "high"]) fun _ _ _ _ _ _ us hl => match us, hl with | [_, _, _], _ => rfl⟩), (⟨f_greatest_mean, _, fun_mk (st := s_greatest_mean) l_greatest_mean c_greatest_mean k_greatest_mean, PySem.W.mg_of X G a_greatest_mean, (fun_mk (st := s_greatest_mean) l_greatest_mean c_greatest_mean k_greatest_mean).binds (ps := ["rows"]) fun _ _ _ _ _ _ us hl => match us, hl with | [_], _ => rfl⟩), (⟨f__law_low, _, fun_mk (st := s__law_low) l__law_low c__law_low k__law_low, PySem.W.mg_of X G a__law_low, (fun_mk (st := s__law_low) l__law_low c__law_low k__law_low).binds (ps := ["_law_top", "_law_bottom"]) fun _ _ _ _ _ _ us hl => match us, hl with | [_, _], _ => rfl⟩), (⟨f_is_answer, _, fun_mk (st := s_is_answer) l_is_answer c_is_answer k_is_answer, PySem.W.mg_of X G a_is_answer, (fun_mk (st := s_is_answer) l_is_answer c_is_answer k_is_answer).binds (ps := ["thing", "many"]) fun _ _ _ _ _ _ us hl => match us, hl with | [_, _], _ => rfl⟩), (⟨f_look, _, fun_mk (st := s_look) l_look c_look k_look, PySem.W.mg_of X G a_look, (fun_mk (st := s_look) l_look c_look k_look).binds (ps := ["answers", "many"]) fun _ _ _ _ _ _ us hl => match us, hl with | [_, _], _ => rfl⟩), (⟨f_filled, _, fun_mk (st := s_filled) l_filled c_filled k_filled, PySem.W.mg_of X G a_filled, (fun_mk (st := s_filled) l_filled c_filled k_filled).binds (ps := ["answers", "counted", "place"]) fun _ _ _ _ _ _ us hl => match us, hl with | [_, _, _], _ => rfl⟩), (⟨f_mean_stretch, _, fun_mk (st := s_mean_stretch) l_mean_stretch c_mean_stretch k_mean_stretch, PySem.W.mg_of X G a_mean_stretch, (fun_mk (st := s_mean_stretch) l_mean_stretch c_mean_stretch k_mean_stretch).binds (ps := ["answers"]) fun _ _ _ _ _ _ us hl => match us, hl with | [_], _ => rfl⟩), (⟨f__law_answers, _, fun_mk (st := s__law_answers) l__law_answers c__law_answers k__law_answers, PySem.W.mg_of X G a__law_answers, (fun_mk (st := s__law_answers) l__law_answers c__law_answers k__law_answers).binds (ps := ["_law_script"]) fun _ _ _ _ _ _ us hl => match us, hl with | [_], _ => rfl⟩), (⟨f__law_fraction, _, fun_mk (st := s__law_fraction) l__law_fraction c__law_fraction k__law_fraction, PySem.W.mg_of X G a__law_fraction, (fun_mk (st := s__law_fraction) l__law_fraction c__law_fraction k__law_fraction).binds (ps := ["_law_found"]) fun _ _ _ _ _ _ us hl => match us, hl with | [_], _ => rfl⟩), (⟨f__law_filling, _, fun_mk (st := s__law_filling) l__law_filling c__law_filling k__law_filling, PySem.W.mg_of X G a__law_filling, (fun_mk (st := s__law_filling) l__law_filling c__law_filling k__law_filling).binds (ps := ["_law_some", "_law_answers_here", "_law_due"]) fun _ _ _ _ _ _ us hl => match us, hl with | [_, _, _], _ => rfl⟩), (⟨f__law_none_above, _, fun_mk (st := s__law_none_above) l__law_none_above c__law_none_above k__law_none_above, PySem.W.mg_of X G a__law_none_above, (fun_mk (st := s__law_none_above) l__law_none_above c__law_none_above k__law_none_above).binds (ps := ["_law_answers_here", "_law_mean", "_law_place", "_law_sign"]) fun _ _ _ _ _ _ us hl => match us, hl with | [_, _, _, _], _ => rfl⟩), (⟨f_law, _, fun_mk (st := s_law) l_law c_law k_law, PySem.W.mg_of X G a_law, (fun_mk (st := s_law) l_law c_law k_law).binds (ps := ["_law_script"]) fun _ _ _ _ _ _ us hl => match us, hl with | [_], _ => rfl⟩)⟩
theorem law_mk {P : Program} {w : World} {K : PySem.W.Frag} {mg : Str → Option Value} {fa : Addr} (T : Txt K mg) (hfa : mg "law" = some (.ref fa)) :
    ∃ fd : FuncData, (∀ (s : Shared) (v : Value), BindsTo s fd ⟨[v], []⟩ [("_law_script", v)]) ∧ ∀ base : Heap, K.In base → base.Ns mainGlobals mg → FnOk P w K mg base CX0 5 fa fd ["_law_script"] (sp_law K mg) := by
  obtain ⟨f, fd, F, hm, b⟩ := T.d_law.ex
  have e := hfa.symm.trans hm
  cases e
  refine ⟨fd, fun s v => ?_, fun base _ _ => c_law T F⟩
  obtain ⟨oc, od, kV, doc, pm, an, cdv, ct, osl, rfl, lk, hcd⟩ := F.ex
  exact .of_eq rfl
end My
open PySem PySem.W PyProof.Rows
set_option maxRecDepth 100000 in
set_option maxHeartbeats 0 in
theorem PySem.Challenge.cw_fewspeak_k79_whole_stretches_of_means_holds : PySem.Challenge.rw_fewspeak_k79_whole_stretches_of_means.Holds := by
  w_on; o_law; k_head; (case hw => w_witness2)
  k_fill
  refine L2.walk_ofB (l := PySem.Challenge.rw_fewspeak_k79_whole_stretches_of_means) (n := 63) (k := 5) (x := "_law_script") (CX := fun _ => L2.CX0) (sp := fun w => My.sp_law _ (fun _ => none)) rfl (by decide) rfl ⟨rfl, by decide, by decide⟩ (fun w h Y => PySem.W.kIn_of Y) ?F (fun _ _ a ns hl hb _ hS => ⟨ns, hS, hl, hb, fun _ => rfl⟩) (fun _ _ _ _ _ h => h)
  case F =>
    intro w mg fa h KX G hmg
    refine' My.law_mk (My.txt_mk KX G ?z_n_abs ?z_n_len ?z_n_range ?z_n_bool ?z_n_int ?z_n_isinstance ?z_n_enumerate ?z_n_sorted ?z_n_sum ?z_n_tuple ?z_g_FAR ?y_g_FAR ?z_g_MOST_WEIGHT ?y_g_MOST_WEIGHT ?z_n_list ?z_g_MOST_ANSWERS ?y_g_MOST_ANSWERS ?z_n_zip ?a_divisor ?l_divisor ?c_divisor ?k_divisor ?a_share ?l_share ?c_share ?k_share ?a_below ?l_below ?c_below ?k_below ?a__law_cell ?l__law_cell ?c__law_cell ?k__law_cell ?a__law_mix ?l__law_mix ?c__law_mix ?k__law_mix ?a__law_row ?l__law_row ?c__law_row ?k__law_row ?a__law_whole ?l__law_whole ?c__law_whole ?k__law_whole ?a_is_whole ?l_is_whole ?c_is_whole ?k_is_whole ?a_greatest_mean ?l_greatest_mean ?c_greatest_mean ?k_greatest_mean ?a__law_low ?l__law_low ?c__law_low ?k__law_low ?a_is_answer ?l_is_answer ?c_is_answer ?k_is_answer ?a_look ?l_look ?c_look ?k_look ?a_filled ?l_filled ?c_filled ?k_filled ?a_mean_stretch ?l_mean_stretch ?c_mean_stretch ?k_mean_stretch ?a__law_answers ?l__law_answers ?c__law_answers ?k__law_answers ?a__law_fraction ?l__law_fraction ?c__law_fraction ?k__law_fraction ?a__law_filling ?l__law_filling ?c__law_filling ?k__law_filling ?a__law_none_above ?l__law_none_above ?c__law_none_above ?k__law_none_above ?a_law ?l_law ?c_law ?k_law) hmg
    (case z_n_abs => k_is)
    (case z_n_len => k_is)
    (case z_n_range => k_is)
    (case z_n_bool => k_is)
    (case z_n_int => k_is)
    (case z_n_isinstance => k_is)
    (case z_n_enumerate => k_is)
    (case z_n_sorted => k_is)
    (case z_n_sum => k_is)
    (case z_n_tuple => k_is)
    (case z_g_FAR => k_is)
    (case y_g_FAR => exact ⟨_, rfl⟩)
    (case z_g_MOST_WEIGHT => k_is)
    (case y_g_MOST_WEIGHT => exact ⟨_, rfl⟩)
    (case z_n_list => k_is)
    (case z_g_MOST_ANSWERS => k_is)
    (case y_g_MOST_ANSWERS => exact ⟨_, rfl⟩)
    (case z_n_zip => k_is)
    (case a_divisor => k_is)
    (case l_divisor => k_is)
    (case c_divisor => k_is)
    (case k_divisor => k_is)
    (case a_share => k_is)
    (case l_share => k_is)
    (case c_share => k_is)
    (case k_share => k_is)
    (case a_below => k_is)
    (case l_below => k_is)
    (case c_below => k_is)
    (case k_below => k_is)
    (case a__law_cell => k_is)
    (case l__law_cell => k_is)
    (case c__law_cell => k_is)
    (case k__law_cell => k_is)
    (case a__law_mix => k_is)
    (case l__law_mix => k_is)
    (case c__law_mix => k_is)
    (case k__law_mix => k_is)
    (case a__law_row => k_is)
    (case l__law_row => k_is)
    (case c__law_row => k_is)
    (case k__law_row => k_is)
    (case a__law_whole => k_is)
    (case l__law_whole => k_is)
    (case c__law_whole => k_is)
    (case k__law_whole => k_is)
    (case a_is_whole => k_is)
    (case l_is_whole => k_is)
    (case c_is_whole => k_is)
    (case k_is_whole => k_is)
    (case a_greatest_mean => k_is)
    (case l_greatest_mean => k_is)
    (case c_greatest_mean => k_is)
    (case k_greatest_mean => k_is)
    (case a__law_low => k_is)
    (case l__law_low => k_is)
    (case c__law_low => k_is)
    (case k__law_low => k_is)
    (case a_is_answer => k_is)
    (case l_is_answer => k_is)
    (case c_is_answer => k_is)
    (case k_is_answer => k_is)
    (case a_look => k_is)
    (case l_look => k_is)
    (case c_look => k_is)
    (case k_look => k_is)
    (case a_filled => k_is)
    (case l_filled => k_is)
    (case c_filled => k_is)
    (case k_filled => k_is)
    (case a_mean_stretch => k_is)
    (case l_mean_stretch => k_is)
    (case c_mean_stretch => k_is)
    (case k_mean_stretch => k_is)
    (case a__law_answers => k_is)
    (case l__law_answers => k_is)
    (case c__law_answers => k_is)
    (case k__law_answers => k_is)
    (case a__law_fraction => k_is)
    (case l__law_fraction => k_is)
    (case c__law_fraction => k_is)
    (case k__law_fraction => k_is)
    (case a__law_filling => k_is)
    (case l__law_filling => k_is)
    (case c__law_filling => k_is)
    (case k__law_filling => k_is)
    (case a__law_none_above => k_is)
    (case l__law_none_above => k_is)
    (case c__law_none_above => k_is)
    (case k__law_none_above => k_is)
    (case a_law => k_is)
    (case l_law => k_is)
    (case c_law => k_is)
    (case k_law => k_is)
#print axioms PySem.Challenge.cw_fewspeak_k79_whole_stretches_of_means_holds

