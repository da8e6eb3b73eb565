import PyProof.Rows.All
import Wide.All
import OpenK.AllK
import Wide.FinOn
import HandS.ForMost
import HandS.Exc
import HandS.TryOnly
import HandS.ExcOwn
import HandS.WordsExc
import HandS.Wide
import HandS.IsInst
import HandS.EndBits
import HandS.Conv
import HandS.Style
import HandS.TupAny
import HandS.Evl
import HandS.Walk
import HandS.ExcIs
import HandS.ExcInit
import HandS.ExcField
import HandS.ExcValue
import HandS.SetKeys
import KE.KExcIs
import PyProof.StrBlock2
import HandS.Iter
import HandS.Flt
import PySem.Challenge.RW_fewspeak_k72_whole_no_candidate_is_needl
set_option Elab.async false
set_option linter.all false
set_option maxRecDepth 100000
set_option maxHeartbeats 4000000
namespace Kt
open PySem PySem.Spec PyProof.Rows L2
/-- a def of the top, as it stands behind the top -/
structure DefAt (K : PySem.W.Frag) (mg : Str → Option Value) (x : Str) (st : Stmt) (ps : List Str) : Prop where
  ex : ∃ (f : Addr) (fd : FuncData), Fun K x x st f fd ∧ mg x = some (.ref f) ∧ Binds K fd ps []
/-- a method of the class at C -/
structure MethAt (K : PySem.W.Frag) (C : Addr) (m qual : Str) (st : Stmt) (ps : List Str) : Prop where
  ex : ∃ (f : Addr) (fd : FuncData), Fun K m qual st f fd ∧ Meth K C m f ∧ Binds K fd ps []
structure InitAt (K : PySem.W.Frag) (C : Addr) (qual : Str) (st : Stmt) (ps : List Str) : Prop where
  ex : ∃ (f : Addr) (fd : FuncData), Fun K "__init__" qual st f fd ∧ Mk K C f ∧ Binds K fd ps []
/-- the class that a name of the module holds -/
def cA (mg : Str → Option Value) (x : Str) : Addr := match mg x with | some (.ref a) => a | _ => 0
theorem cA_of {mg : Str → Option Value} {x : Str} {a : Addr} (h : mg x = some (.ref a)) : cA mg x = a := by unfold cA; rw [h]
/-- a def that may be called by its name; a method of the class at C; a class that may be made -/
structure Cal (P : Program) (w : World) (K : PySem.W.Frag) (mg : Str → Option Value) (base : Heap) (k : Nat) (x : Str) (sp : Sp) : Prop where
  ex : ∃ (f : Addr) (fd : FuncData) (ps : List Str), FnOk P w K mg base CX0 k f fd ps sp ∧ mg x = some (.ref f) ∧ PySem.W.keepIn K (.ref f) = true ∧ Binds K fd ps []
structure Met (P : Program) (w : World) (K : PySem.W.Frag) (mg : Str → Option Value) (base : Heap) (k : Nat) (C : Addr) (m : Str) (sp : Sp) : Prop where
  ex : ∃ (f : Addr) (fd : FuncData) (ps : List Str), Cls K C ∧ Meth K C m f ∧ FnOk P w K mg base CX0 k f fd ps sp ∧ Binds K fd ps []
structure Mak (P : Program) (w : World) (K : PySem.W.Frag) (mg : Str → Option Value) (base : Heap) (k : Nat) (x : Str) (C : Addr) (sp : Sp) : Prop where
  ex : ∃ (f : Addr) (fd : FuncData) (ps : List Str), Mk K C f ∧ FnOk P w K mg base CX0 k f fd ps sp ∧ mg x = some (.ref C) ∧ Binds K fd ps []
section
variable {P : Program} {w : World} {K : PySem.W.Frag} {mg : Str → Option Value} {base : Heap}
theorem DefAt.cal {x : Str} {st : Stmt} {N ps : List Str} {k : Nat} {sp : Sp} (d : DefAt K mg x st ps) (S : FnScope N ps (defScope st)) (len : ∀ vs H Q E, sp vs H Q E → vs.length = ps.length)
    (hbody : ∀ (f : Addr) (cdv : Value) (A : Around) (outer : List Env) (s : Shared) (H : Hp) (vs : List V) (Q : VK) (E : XK), Room k (A.deeper (envOfC x (defScope st) s.heap.objs.size f cdv)) → sp vs H Q E →
      ∃ t, PSs (cxOf CX0 P w K mg base N x (defScope st) f cdv A outer s H E).nox (defBody st) t ∧ t { nx := fun _ H' => Q .non H', rt := Q } (start N vs) H) : Cal P w K mg base (k + 1) x sp := by
  obtain ⟨f, fd, F, hm, b⟩ := d.ex
  exact ⟨f, fd, ps, F.ok S len (hbody f), hm, F.kp, b⟩
theorem MethAt.met {C : Addr} {m qual : Str} {st : Stmt} {N ps : List Str} {k : Nat} {sp : Sp} (c : Cls K C) (d : MethAt K C m qual st ps) (S : FnScope N ps (defScope st)) (len : ∀ vs H Q E, sp vs H Q E → vs.length = ps.length)
    (hbody : ∀ (f : Addr) (cdv : Value) (A : Around) (outer : List Env) (s : Shared) (H : Hp) (vs : List V) (Q : VK) (E : XK), Room k (A.deeper (envOfC qual (defScope st) s.heap.objs.size f cdv)) → sp vs H Q E →
      ∃ t, PSs (cxOf CX0 P w K mg base N qual (defScope st) f cdv A outer s H E).nox (defBody st) t ∧ t { nx := fun _ H' => Q .non H', rt := Q } (start N vs) H) : Met P w K mg base (k + 1) C m sp := by
  obtain ⟨f, fd, F, hm, b⟩ := d.ex
  exact ⟨f, fd, ps, c, hm, F.ok S len (hbody f), b⟩
theorem InitAt.mak {x : Str} {C : Addr} {qual : Str} {st : Stmt} {N ps : List Str} {k : Nat} {sp : Sp} (hx : mg x = some (.ref C)) (d : InitAt K C qual st ps) (S : FnScope N ps (defScope st)) (len : ∀ vs H Q E, sp vs H Q E → vs.length = ps.length)
    (hbody : ∀ (f : Addr) (cdv : Value) (A : Around) (outer : List Env) (s : Shared) (H : Hp) (vs : List V) (Q : VK) (E : XK), Room k (A.deeper (envOfC qual (defScope st) s.heap.objs.size f cdv)) → sp vs H Q E →
      ∃ t, PSs (cxOf CX0 P w K mg base N qual (defScope st) f cdv A outer s H E).nox (defBody st) t ∧ t { nx := fun _ H' => Q .non H', rt := Q } (start N vs) H) : Mak P w K mg base (k + 1) x C sp := by
  obtain ⟨f, fd, F, hm, b⟩ := d.ex
  exact ⟨f, fd, ps, hm, F.ok S len (hbody f), hx, b⟩
/-- a def that may raise -/
structure CalX (P : Program) (w : World) (K : PySem.W.Frag) (mg : Str → Option Value) (base : Heap) (k : Nat) (x : Str) (sp : Sp) : Prop where
  ex : ∃ (f : Addr) (fd : FuncData) (ps : List Str), FnOk P w K mg base (L2.CX P w) k f fd ps sp ∧ mg x = some (.ref f) ∧ PySem.W.keepIn K (.ref f) = true ∧ Binds K fd ps []
theorem DefAt.calX {x : Str} {st : Stmt} {N ps : List Str} {k : Nat} {sp : Sp} (d : DefAt K mg x st ps) (S : FnScope N ps (defScope st)) (len : ∀ vs H Q E, sp vs H Q E → vs.length = ps.length)
    (hbody : ∀ (f : Addr) (cdv : Value) (A : Around) (outer : List Env) (s : Shared) (H : Hp) (vs : List V) (Q : VK) (E : XK), Room k (A.deeper (envOfC x (defScope st) s.heap.objs.size f cdv)) → sp vs H Q E →
      ∃ t, PSs (cxOf (L2.CX P w) P w K mg base N x (defScope st) f cdv A outer s H E) (defBody st) t ∧ t { nx := fun _ H' => Q .non H', rt := Q } (start N vs) H) : CalX P w K mg base (k + 1) x sp := by
  obtain ⟨f, fd, F, hm, b⟩ := d.ex
  exact ⟨f, fd, ps, F.okX S len (hbody f), hm, F.kp, b⟩
end
section
variable {X : Cx} {k j : Nat} {C : Addr} {x m : Str} {sp : Sp} {p pos apos : Pos} {e o : Expr} {es : List Expr} {ta : TE} {t : TA}
theorem pe_c (c : Cal X.prog X.w X.K X.mg X.base k x sp) (hr : Room j X.A) (hk : k ≤ j) (hg : Gl X x) (ha : PA X (e :: es) t)
    (hdb : (x == ("__debug__" : Str)) = false := by decide) (he : starEach (e :: es) X.env = (false, eval e X.env) :: starEach es X.env := by rfl) (hpl : (backTo pos (starEach es X.env)).any (·.1) = false := by rfl) :
    PE X (.Call (.Name x p) (e :: es) [] pos) (tCall sp [] E0 t) := by
  obtain ⟨f, fd, ps, F, hm, kp, b⟩ := c.ex
  exact pe_call F (hr.mono hk) hg hm kp b .nil pass0 ha hdb he hpl
theorem pe_c0 (c : Cal X.prog X.w X.K X.mg X.base k x sp) (hr : Room j X.A) (hk : k ≤ j) (hg : Gl X x)
    (hdb : (x == ("__debug__" : Str)) = false := by decide) :
    PE X (.Call (.Name x p) [] [] pos) (tCall sp [] E0 tNil) := by
  obtain ⟨f, fd, ps, F, hm, kp, b⟩ := c.ex
  exact pe_call0 F (hr.mono hk) hg hm kp b .nil pass0 hdb
theorem pe_mk (c : Mak X.prog X.w X.K X.mg X.base k x C sp) (hr : Room j X.A) (hk : k + 1 ≤ j) (hg : Gl X x) (ha : PA X (e :: es) t)
    (hdb : (x == ("__debug__" : Str)) = false := by decide) (he : starEach (e :: es) X.env = (false, eval e X.env) :: starEach es X.env := by rfl) (hpl : (backTo pos (starEach es X.env)).any (·.1) = false := by rfl) :
    PE X (.Call (.Name x p) (e :: es) [] pos) (tMake C sp [] E0 t) := by
  obtain ⟨f, fd, ps, M, F, hm, b⟩ := c.ex
  exact pe_make M F (hr.mono hk) hg hm b .nil pass0 ha hdb he hpl
theorem pe_mt {pl : Sem Bool} (c : Met X.prog X.w X.K X.mg X.base k C m sp) (hr : Room j X.A) (hk : k ≤ j) (he : PE X o ta) (ha : PA X (e :: es) t)
    (hst : starEach (e :: es) X.env = (false, eval e X.env) :: starEach es X.env := by rfl) (hpl : (backTo pos (starEach es X.env)).any (·.1) = false := by rfl)
    (ht : eval (.Call (.Attribute o m apos) (e :: es) [] pos) X.env = (do
      let ov ← eval o X.env
      standAt apos.atName
      let (f, first) ← holding [ov] (getMethod ov m pl)
      callWith pos f first (backTo pos (starEach (e :: es) X.env)) (backToKw pos (keywordEach [] X.env))) := by rfl) :
    PE X (.Call (.Attribute o m apos) (e :: es) [] pos) (tMeth C m sp [] E0 ta t) := by
  obtain ⟨f, fd, ps, hc, hm, F, b⟩ := c.ex
  exact pe_meth (pl := pl) he hc hm F (hr.mono hk) b .nil pass0 ha hst hpl ht
theorem pe_mt0 {pl : Sem Bool} (c : Met X.prog X.w X.K X.mg X.base k C m sp) (hr : Room j X.A) (hk : k ≤ j) (he : PE X o ta)
    (ht : eval (.Call (.Attribute o m apos) [] [] pos) X.env = (do
      let ov ← eval o X.env
      standAt apos.atName
      let (f, first) ← holding [ov] (getMethod ov m pl)
      callWith pos f first (backTo pos (starEach [] X.env)) (backToKw pos (keywordEach [] X.env))) := by rfl) :
    PE X (.Call (.Attribute o m apos) [] [] pos) (tMeth C m sp [] E0 ta tNil) := by
  obtain ⟨f, fd, ps, hc, hm, F, b⟩ := c.ex
  exact pe_meth0 (pl := pl) he hc hm F (hr.mono hk) b .nil pass0 ht
/-- a call of a def that may raise, where nothing is raised -/
theorem pe_x0 (c : CalX X.prog X.w X.K X.mg X.base k x sp) (hr : Room j X.A) (hk : k ≤ j) (hg : Gl X x) (ha : PA X (e :: es) t)
    (hdb : (x == ("__debug__" : Str)) = false := by decide) (he : starEach (e :: es) X.env = (false, eval e X.env) :: starEach es X.env := by rfl) (hpl : (backTo pos (starEach es X.env)).any (·.1) = false := by rfl) :
    PE X (.Call (.Name x p) (e :: es) [] pos) (tCall sp [] E0 t) := by
  obtain ⟨f, fd, ps, F, hm, kp, b⟩ := c.ex
  exact pe_call F (hr.mono hk) hg hm kp b .nil passL ha hdb he hpl
end
/-- a built-in class as a value -/
theorem pe_ty {X : Cx} {x : Str} {pos : Pos} (n : String) (hg : Gl X x) (hm : X.mg x = none) (hv : bootBuiltins x = some (.type n)) (hn : x ≠ "__name__" := by decide) (hdb : (x == ("__debug__" : Str)) = false := by decide) : PE X (.Name x pos) (tC (.ty n)) :=
  pe_bltn hg hm hv rfl hn hdb
/-- a constant of the module -/
theorem pe_gc {X : Cx} {x : Str} {pos : Pos} {v : V} (hg : Gl X x) (h : ∃ u, X.mg x = some u ∧ RelV v u) (hdb : (x == ("__debug__" : Str)) = false := by decide) : PE X (.Name x pos) (tC v) := by
  obtain ⟨u, h1, h2⟩ := h
  exact pe_glob hg h1 h2 hdb
/-! ### heaps -/
theorem hp_new {H : Hp} {a b : Addr} {o o' : HO} (h : H a = none) (h' : H b = some o') : upd H a o b = some o' := by
  rw [upd_ne (ne_of_none h' h)]; exact h'
theorem hp_same {H H' : Hp} {b : Addr} {o : HO} (e : Same H H') (h : H b = some o) : H' b = some o := e b o h
theorem same_upd {H H' : Hp} {a : Addr} {o : HO} (e : Same H H') (h : H' a = none) : Same H (upd H' a o) := fun b o' q => hp_new h (e b o' q)
theorem same_new {H : Hp} {a : Addr} {o : HO} (h : H a = none) : Same H (upd H a o) := fun b o' q => hp_new h q
theorem cxOf_K {CX : CXT} {P : Program} {w : World} {K : PySem.W.Frag} {mg : Str → Option Value} {base : Heap} {N : List Str} {qual : Str} {scope : Scope} {f : Addr} {cd : Value} {A : Around} {outer : List Env} {s : Shared} {H : Hp} {E : XK} : (cxOf CX P w K mg base N qual scope f cd A outer s H E).nox.K = K := rfl
theorem cxOf_K' {CX : CXT} {P : Program} {w : World} {K : PySem.W.Frag} {mg : Str → Option Value} {base : Heap} {N : List Str} {qual : Str} {scope : Scope} {f : Addr} {cd : Value} {A : Around} {outer : List Env} {s : Shared} {H : Hp} {E : XK} : (cxOf CX P w K mg base N qual scope f cd A outer s H E).K = K := rfl
theorem cxOf_mg {CX : CXT} {P : Program} {w : World} {K : PySem.W.Frag} {mg : Str → Option Value} {base : Heap} {N : List Str} {qual : Str} {scope : Scope} {f : Addr} {cd : Value} {A : Around} {outer : List Env} {s : Shared} {H : Hp} {E : XK} : (cxOf CX P w K mg base N qual scope f cd A outer s H E).nox.mg = mg := rfl
theorem cxOf_mg' {CX : CXT} {P : Program} {w : World} {K : PySem.W.Frag} {mg : Str → Option Value} {base : Heap} {N : List Str} {qual : Str} {scope : Scope} {f : Addr} {cd : Value} {A : Around} {outer : List Env} {s : Shared} {H : Hp} {E : XK} : (cxOf CX P w K mg base N qual scope f cd A outer s H E).mg = mg := rfl
/-- a new tuple, a new list: all that stood stands -/
def NewT (H : Hp) (xs : List V) (Q : VK) : Prop := ∀ p H', H p = none → Same H H' → H' p = some (.tup xs) → Q (.ref p) H'
def NewL (H : Hp) (xs : List V) (Q : VK) : Prop := ∀ p H', H p = none → Same H H' → H' p = some (.lst xs) → Q (.ref p) H'
theorem NewT.at {H : Hp} {xs : List V} {Q : VK} (q : NewT H xs Q) (p : Addr) (h : H p = none) : Q (.ref p) (upd H p (.tup xs)) := q p _ h (same_new h) upd_same
theorem NewL.at {H : Hp} {xs : List V} {Q : VK} (q : NewL H xs Q) (p : Addr) (h : H p = none) : Q (.ref p) (upd H p (.lst xs)) := q p _ h (same_new h) upd_same
theorem NewT.of {H H' : Hp} {xs : List V} {Q : VK} (q : NewT H xs Q) (e : Same H H') : NewT H' xs Q := fun p H2 h s x => q p H2 (e.free h) (e.trans s) x
theorem NewL.of {H H' : Hp} {xs : List V} {Q : VK} (q : NewL H xs Q) (e : Same H H') : NewL H' xs Q := fun p H2 h s x => q p H2 (e.free h) (e.trans s) x
/-! ### readings by name -/
section
variable {X : Cx}
def aAdd (K : PySem.W.Frag) : R2 := fun x y H Q => rI0 (fun i j => .int (i + j)) x y H Q ∨ (∃ i j, x = .str i ∧ y = .str j ∧ i.length + j.length ≤ sizeLine ∧ Q (.str (i ++ j)) H) ∨ rCat x y H Q ∨ rCatA K x y H Q
theorem op_addA : OpR X (binaryOp .Add) (aAdd X.K) := op_add.or (op_add_str.or (op_cat.or op_catA))
def aMul : R2 := fun x y H Q => rI CMulW (fun i j => .int (i * j)) x y H Q ∨ rRep x y H Q
theorem op_mulA : OpR X (binaryOp .Mult) aMul := op_mulW.or op_rep
def aEq (K : PySem.W.Frag) : R2 := fun x y H Q => rEq x y H Q ∨ rEqD K x y H Q
theorem op_eqA {k : Nat} (hr : Room k X.A) : OpR X (compareOp .Eq) (aEq X.K) := op_eq.or (op_eqD hr.units)
def aNe (K : PySem.W.Frag) : R2 := fun x y H Q => rNe x y H Q ∨ rNeD K x y H Q
theorem op_neA {k : Nat} (hr : Room k X.A) : OpR X (compareOp .NotEq) (aNe X.K) := op_ne.or (op_neD hr.units)
def aLe : R2 := fun x y H Q => rI0 (fun i j => .bl (decide (i ≤ j))) x y H Q ∨ ∃ i j, x = .str i ∧ y = .str j ∧ Q (.bl (!decide (j.cps.toList < i.cps.toList))) H
theorem op_leA : OpR X (compareOp .LtE) aLe := op_le.or op_le_str
def aLt : R2 := fun x y H Q => rI0 (fun i j => .bl (decide (i < j))) x y H Q ∨ ∃ i j, x = .str i ∧ y = .str j ∧ Q (.bl (decide (i.cps.toList < j.cps.toList))) H
theorem op_ltA : OpR X (compareOp .Lt) aLt := op_lt.or op_lt_str
def aIn (K : PySem.W.Frag) : R2 := fun x y H Q => (∃ (c : Nat) (z : Str), x = .str ⟨#[c]⟩ ∧ y = .str z ∧ Q (.bl (decide (c ∈ z.cps.toList))) H) ∨ rIn K false x y H Q
theorem op_inA : OpR X (compareOp .In) (aIn X.K) := op_in_sign.or op_in_seq
def aNotIn (K : PySem.W.Frag) : R2 := fun x y H Q => (∃ (c : Nat) (z : Str), x = .str ⟨#[c]⟩ ∧ y = .str z ∧ Q (.bl (!decide (c ∈ z.cps.toList))) H) ∨ rIn K true x y H Q
theorem op_notInA : OpR X (compareOp .NotIn) (aNotIn X.K) := op_notIn_sign.or op_notIn_seq
def aLen (K : PySem.W.Frag) : List V → Hp → VK → Prop := fun xs H Q => (∃ p ys, xs = [.ref p] ∧ (SqL K H p ys ∨ SqT K H p ys) ∧ Q (.int ys.length) H) ∨ (∃ z, xs = [.str z] ∧ z.length ≤ sizeLine ∧ Q (.int z.length) H) ∨ (∃ a kvs, xs = [V.ref a] ∧ H a = some (.dK kvs) ∧ Q (.int kvs.length) H)
theorem call_lenA : CallR X (.builtin "len") (aLen X.K) := call_len_seq.or (call_len_str.or call_lenD)
def aAbs : List V → Hp → VK → Prop := fun xs H Q => ∃ i, xs = [.int i] ∧ Q (.int (if i < 0 then -i else i)) H
theorem call_absA : CallR X (.builtin "abs") aAbs := call_abs
def aMax2 : List V → Hp → VK → Prop := fun xs H Q => ∃ i j, xs = [.int i, .int j] ∧ Q (.int (if j > i then j else i)) H
theorem call_max2A (hc : X.calm = true) : CallR X (.builtin "max") aMax2 := call_max2 hc
def aMin2 : List V → Hp → VK → Prop := fun xs H Q => ∃ i j, xs = [.int i, .int j] ∧ Q (.int (if j < i then j else i)) H
theorem call_min2A (hc : X.calm = true) : CallR X (.builtin "min") aMin2 := call_min2 hc
def aInt1 : List V → Hp → VK → Prop := fun xs H Q => (∃ i, xs = [.int i] ∧ Q (.int i) H) ∨ ∃ k, xs = [.bl k] ∧ Q (.int (if k then 1 else 0)) H
theorem call_int1A : CallR X (.type "int") aInt1 := call_int1
def aStr1 : List V → Hp → VK → Prop := fun xs H Q => ∃ i, xs = [.int i] ∧ i.natAbs.log2 < 1920 ∧ Q (.str (toString i)) H
theorem call_str1A : CallR X (.type "str") aStr1 := call_str_int
def aList1 (K : PySem.W.Frag) : List V → Hp → VK → Prop := fun xs H Q => ∃ p ys, xs = [.ref p] ∧ (SqL K H p ys ∨ SqT K H p ys) ∧ ∀ l, H l = none → Q (.ref l) (upd H l (.lst ys))
theorem call_list1A : CallR X (.type "list") (aList1 X.K) := call_list_of
def aTuple1 (K : PySem.W.Frag) : List V → Hp → VK → Prop := fun xs H Q => ∃ p ys, xs = [.ref p] ∧ ((SqL K H p ys ∧ ∀ l, H l = none → Q (.ref l) (upd H l (.tup ys))) ∨ (SqT K H p ys ∧ Q (.ref p) H))
theorem call_tuple1A : CallR X (.type "tuple") (aTuple1 X.K) := call_tuple_of
def aTru (K : PySem.W.Frag) (ta : TE) : TT := fun σ H Q => ta σ H fun x H' => ∃ k, TruV K x H' k ∧ Q k H'
theorem pt_tru {a : Expr} {ta : TE} (ha : PE X a ta) (he : ∀ whole, isTrue a X.env whole = (do let v ← whole; standAt a.pos; holding [v] (truthy v))) : PT X a (aTru X.K ta) := pt_truth ha he
def aIsN : R2 := fun x y H Q => y = .non ∧ Q (.bl (decide (x = .non))) H
theorem op_isNA : OpR X (compareOp .Is) aIsN := op_isN
def aNotN : R2 := fun x y H Q => y = .non ∧ Q (.bl (!decide (x = .non))) H
theorem op_notNA : OpR X (compareOp .IsNot) aNotN := op_notN
end
/-! ### one step of a reading -/
section
variable {K : PySem.W.Frag} {σ : L2.St} {H : Hp} {N B C : L2.St → Hp → Prop} {R : VK} {t u : TS} {c d : TT} {ta tb te tc : TE} {tr : TA} {Q : VK} {g : TG} {i j : Nat} {v x y : V} {r r' : R2}
theorem L_seq (h : t ⟨u ⟨N, R, B, C⟩, R, B, C⟩ σ H) : tSeq t u ⟨N, R, B, C⟩ σ H := h
theorem L_next (h : N σ H) : tNext ⟨N, R, B, C⟩ σ H := h
theorem L_brk (h : B σ H) : tBreak ⟨N, R, B, C⟩ σ H := h
theorem L_cont (h : C σ H) : tCont ⟨N, R, B, C⟩ σ H := h
theorem L_ret (h : te σ H R) : tRet te ⟨N, R, B, C⟩ σ H := h
theorem L_retN (h : R .non H) : tRetN ⟨N, R, B, C⟩ σ H := h
theorem L_drop (h : te σ H fun _ H1 => N σ H1) : tDrop te ⟨N, R, B, C⟩ σ H := h
theorem L_asg (h : te σ H fun x H1 => g x σ H1 N) : tAsg te g ⟨N, R, B, C⟩ σ H := h
theorem L_gname {Q : L2.St → Hp → Prop} (h : Q (σ.set i (some v)) H) : gName i v σ H Q := h
theorem L_aug {ti : TIp} (hx : σ[i]? = some (some x)) (h : te σ H fun y H1 => ti x y H1 fun z H2 => N (σ.set i (some z)) H2) : tAug i te ti ⟨N, R, B, C⟩ σ H := ⟨x, hx, h⟩
theorem L_ipI {f : Int → Int → Int} {a b : Int} (h : Q (.int (f a b)) H) : ipI f (.int a) (.int b) H Q := ⟨a, b, rfl, rfl, h⟩
theorem L_ifS (h : c σ H fun b H1 => if b = true then t ⟨N, R, B, C⟩ σ H1 else u ⟨N, R, B, C⟩ σ H1) : tIfS c t u ⟨N, R, B, C⟩ σ H := h
theorem L_par (h : tr σ H fun vs H1 => ∃ v w, vs = [v, w] ∧ N ((σ.set i (some v)).set j (some w)) H1) : tPar i j tr ⟨N, R, B, C⟩ σ H := h
theorem L_par3 {l : Nat} (h : tr σ H fun vs H1 => ∃ u v w, vs = [u, v, w] ∧ N (((σ.set i (some u)).set j (some v)).set l (some w)) H1) : tPar3 i j l tr ⟨N, R, B, C⟩ σ H := h
theorem L_vs2 {Q : V → V → Prop} (h : Q x y) : ∃ v w, [x, y] = [v, w] ∧ Q v w := ⟨x, y, rfl, h⟩
theorem L_vs3 {z : V} {Q : V → V → V → Prop} (h : Q x y z) : ∃ u v w, [x, y, z] = [u, v, w] ∧ Q u v w := ⟨x, y, z, rfl, h⟩
theorem L_var (h : σ[i]? = some (some v)) (q : Q v H) : tVar i σ H Q := ⟨v, h, q⟩
theorem L_c (q : Q v H) : tC v σ H Q := q
theorem L_op (h : ta σ H fun x H1 => tb σ H1 fun y H2 => r x y H2 Q) : tOp r ta tb σ H Q := h
theorem L_un {r : V → Hp → VK → Prop} (h : ta σ H fun x H1 => r x H1 Q) : tUn r ta σ H Q := h
theorem L_rU {g : Int → V} {i : Int} (q : Q (g i) H) : rU g (.int i) H Q := ⟨i, rfl, q⟩
theorem L_I0 {g : Int → Int → V} {i j : Int} (q : Q (g i j) H) : rI0 g (.int i) (.int j) H Q := ⟨i, j, rfl, rfl, q⟩
theorem L_I {C : Int → Int → Prop} {g : Int → Int → V} {i j : Int} (hc : C i j) (q : Q (g i j) H) : rI C g (.int i) (.int j) H Q := ⟨i, j, rfl, rfl, hc, q⟩
theorem L_addI {i j : Int} (q : Q (.int (i + j)) H) : aAdd K (.int i) (.int j) H Q := .inl ⟨i, j, rfl, rfl, q⟩
theorem L_addS {a b : Str} (hl : a.length + b.length ≤ sizeLine) (q : Q (.str (a ++ b)) H) : aAdd K (.str a) (.str b) H Q := .inr (.inl ⟨a, b, rfl, rfl, hl, q⟩)
theorem L_addL {a b : Addr} {xs ys : List V} (ha : H a = some (.lst xs)) (hb : H b = some (.lst ys)) (hl : xs.length + ys.length ≤ sizeLine) (q : ∀ p, H p = none → Q (.ref p) (upd H p (.lst (xs ++ ys)))) : aAdd K (.ref a) (.ref b) H Q := .inr (.inr (.inl ⟨a, b, xs, ys, rfl, rfl, ha, hb, hl, q⟩))
theorem L_mulI {i j : Int} (hc : CMulW i j) (q : Q (.int (i * j)) H) : aMul (.int i) (.int j) H Q := .inl ⟨i, j, rfl, rfl, hc, q⟩
theorem L_eqI {i j : Int} (q : Q (.bl (decide (i = j))) H) : aEq K (.int i) (.int j) H Q := .inl ⟨rfl, by rw [show decide (V.int i = V.int j) = decide (i = j) by simp]; exact q⟩
theorem L_eqS {i j : Str} (q : Q (.bl (decide (i = j))) H) : aEq K (.str i) (.str j) H Q := .inl ⟨rfl, by rw [show decide (V.str i = V.str j) = decide (i = j) by simp]; exact q⟩
theorem L_eqB {i j : Bool} (q : Q (.bl (decide (i = j))) H) : aEq K (.bl i) (.bl j) H Q := .inl ⟨rfl, by rw [show decide (V.bl i = V.bl j) = decide (i = j) by simp]; exact q⟩
theorem L_neI {i j : Int} (q : Q (.bl (!decide (i = j))) H) : aNe K (.int i) (.int j) H Q := .inl ⟨rfl, by rw [show decide (V.int i = V.int j) = decide (i = j) by simp]; exact q⟩
theorem L_neS {i j : Str} (q : Q (.bl (!decide (i = j))) H) : aNe K (.str i) (.str j) H Q := .inl ⟨rfl, by rw [show decide (V.str i = V.str j) = decide (i = j) by simp]; exact q⟩
theorem L_eqD {d e : PyData} (hx : Dp K H x d) (hy : Dp K H y e) (sd : SeqAt.shaped d = true) (se : SeqAt.shaped e = true) (q : Q (.bl (PyData.eqv d e)) H) : aEq K x y H Q := .inr ⟨d, e, hx, hy, sd, se, q⟩
theorem L_neD {d e : PyData} (hx : Dp K H x d) (hy : Dp K H y e) (sd : SeqAt.shaped d = true) (se : SeqAt.shaped e = true) (q : Q (.bl (!PyData.eqv d e)) H) : aNe K x y H Q := .inr ⟨d, e, hx, hy, sd, se, q⟩
theorem L_leI {i j : Int} (q : Q (.bl (decide (i ≤ j))) H) : aLe (.int i) (.int j) H Q := .inl ⟨i, j, rfl, rfl, q⟩
theorem L_leS {i j : Str} (q : Q (.bl (!decide (j.cps.toList < i.cps.toList))) H) : aLe (.str i) (.str j) H Q := .inr ⟨i, j, rfl, rfl, q⟩
theorem L_ltI {i j : Int} (q : Q (.bl (decide (i < j))) H) : aLt (.int i) (.int j) H Q := .inl ⟨i, j, rfl, rfl, q⟩
theorem L_isN (q : Q (.bl (decide (x = .non))) H) : aIsN x .non H Q := ⟨rfl, q⟩
theorem L_notN (q : Q (.bl (!decide (x = .non))) H) : aNotN x .non H Q := ⟨rfl, q⟩
theorem L_inC {a : Nat} {z : Str} (q : Q (.bl (decide (a ∈ z.cps.toList))) H) : aIn K (.str ⟨#[a]⟩) (.str z) H Q := .inl ⟨a, z, rfl, rfl, q⟩
theorem L_notInC {a : Nat} {z : Str} (q : Q (.bl (!decide (a ∈ z.cps.toList))) H) : aNotIn K (.str ⟨#[a]⟩) (.str z) H Q := .inl ⟨a, z, rfl, rfl, q⟩
theorem L_fld {f : Str} (h : ta σ H fun x H1 => ∃ a C dx fs v, x = .ref a ∧ H1 a = some (.ins C dx fs) ∧ Cls K C ∧ NoAttr K C f ∧ fs.lookup f = some v ∧ Q v H1) : tFld K ta f σ H Q := h
theorem L_fldv {a C dx : Addr} {fs : List (Str × V)} {f : Str} {Q : V → Prop} (h : H a = some (.ins C dx fs)) (cl : Cls K C) (n : NoAttr K C f) (l : fs.lookup f = some v) (q : Q v) :
    ∃ a' C dx fs v, V.ref a = V.ref a' ∧ H a' = some (.ins C dx fs) ∧ Cls K C ∧ NoAttr K C f ∧ fs.lookup f = some v ∧ Q v := ⟨a, C, dx, fs, v, rfl, h, cl, n, l, q⟩
theorem L_tTest {Q : Bool → Hp → Prop} (h : te σ H fun x H' => ∃ k, x = .bl k ∧ Q k H') : tTest te σ H Q := h
theorem L_tB {Q : Bool → Hp → Prop} (h : te σ H fun x H' => ∃ k, x = .bl k ∧ Q k H') : tB te σ H Q := h
theorem L_k {b : Bool} {Q : Bool → Prop} (q : Q b) : ∃ k, V.bl b = V.bl k ∧ Q k := ⟨b, rfl, q⟩
theorem L_tru {Q : Bool → Hp → Prop} (h : te σ H fun x H' => ∃ k, TruV K x H' k ∧ Q k H') : aTru K te σ H Q := h
theorem L_truB {b : Bool} {Q : Bool → Prop} (q : Q b) : ∃ k, TruV K (.bl b) H k ∧ Q k := ⟨b, rfl, q⟩
theorem L_truI {i : Int} {Q : Bool → Prop} (q : Q (i != 0)) : ∃ k, TruV K (.int i) H k ∧ Q k := ⟨_, rfl, q⟩
theorem L_and {Q : Bool → Hp → Prop} (h : c σ H fun b H1 => if b = true then d σ H1 Q else Q false H1) : tAnd c d σ H Q := h
theorem L_or {Q : Bool → Hp → Prop} (h : c σ H fun b H1 => if b = true then Q true H1 else d σ H1 Q) : tOr c d σ H Q := h
theorem L_not {Q : Bool → Hp → Prop} (h : c σ H fun b H1 => Q (!b) H1) : tNot c σ H Q := h
theorem L_andV (h : ta σ H fun x H1 => ∃ c, x = .bl c ∧ if c = true then tb σ H1 Q else Q (.bl false) H1) : tAndV ta tb σ H Q := h
theorem L_orV (h : ta σ H fun x H1 => ∃ c, x = .bl c ∧ if c = true then Q (.bl true) H1 else tb σ H1 Q) : tOrV ta tb σ H Q := h
theorem L_notV (h : ta σ H fun x H1 => ∃ c, x = .bl c ∧ Q (.bl (!c)) H1) : tNotV ta σ H Q := h
theorem L_ifE (h : c σ H fun b H1 => if b = true then ta σ H1 Q else tb σ H1 Q) : tIf c ta tb σ H Q := h
theorem L_chain (h : ta σ H fun x H1 => tb σ H1 fun y H2 => r x y H2 fun z H3 => ∃ k, z = .bl k ∧ (if k = true then tc σ H3 fun w' H4 => r' y w' H4 Q else Q (.bl false) H3)) : tChain r r' ta tb tc σ H Q := h
theorem L_T {A B : Prop} (a : A) : if true = true then A else B := by rw [if_pos rfl]; exact a
theorem L_F {A B : Prop} (b : B) : if false = true then A else B := by rw [if_neg Bool.false_ne_true]; exact b
theorem L_dT {p : Prop} [Decidable p] {A B : Prop} (h : p) (a : A) : if decide p = true then A else B := by rw [decide_eq_true h]; exact L_T a
theorem L_dF {p : Prop} [Decidable p] {A B : Prop} (h : ¬ p) (b : B) : if decide p = true then A else B := by rw [decide_eq_false h]; exact L_F b
theorem L_d {p : Prop} [Decidable p] {A B : Prop} (a : p → A) (b : ¬ p → B) : if decide p = true then A else B := by
  by_cases h : p
  · exact L_dT h (a h)
  · exact L_dF h (b h)
theorem L_nd {p : Prop} [Decidable p] {A B : Prop} (a : ¬ p → A) (b : p → B) : if (!decide p) = true then A else B := by
  by_cases h : p
  · rw [decide_eq_true h]; exact L_F (b h)
  · rw [decide_eq_false h]; exact L_T (a h)
theorem L_ndT {p : Prop} [Decidable p] {A B : Prop} (h : ¬ p) (a : A) : if (!decide p) = true then A else B := by rw [decide_eq_false h]; exact L_T a
theorem L_ndF {p : Prop} [Decidable p] {A B : Prop} (h : p) (b : B) : if (!decide p) = true then A else B := by rw [decide_eq_true h]; exact L_F b
theorem L_b {k : Bool} {A B : Prop} (a : k = true → A) (b : k = false → B) : if k = true then A else B := by
  cases k with
  | true => exact L_T (a rfl)
  | false => exact L_F (b rfl)
theorem L_nT {A B : Prop} (b : B) : if (!true) = true then A else B := L_F b
theorem L_nF {A B : Prop} (a : A) : if (!false) = true then A else B := L_T a
theorem L_nil {Q : List V → Hp → Prop} (q : Q [] H) : tNil σ H Q := q
theorem L_cons {Q : List V → Hp → Prop} (h : ta σ H fun x H1 => tr σ H1 fun xs H2 => Q (x :: xs) H2) : tCons ta tr σ H Q := h
theorem L_tup (h : tr σ H fun xs H1 => xs.length ≤ sizeLine ∧ ∀ p, H1 p = none → Q (.ref p) (upd H1 p (.tup xs))) : tTup tr σ H Q := h
theorem L_lst (h : tr σ H fun xs H1 => xs.length ≤ sizeLine ∧ ∀ p, H1 p = none → Q (.ref p) (upd H1 p (.lst xs))) : tLst tr σ H Q := h
theorem L_new {n : Nat} {R : Prop} (hl : n ≤ sizeLine) (q : R) : n ≤ sizeLine ∧ R := ⟨hl, q⟩
theorem L_call {sp : Sp} {E : XK} (h : tr σ H fun vs H1 => sp vs H1 Q E) : tCall sp [] E tr σ H Q := by
  unfold tCall
  simp only [List.append_nil]
  exact h
theorem L_cb {r : List V → Hp → VK → Prop} (h : tr σ H fun vs H1 => r vs H1 Q) : tCB r tr σ H Q := h
theorem L_lenL {a : Addr} {xs : List V} (h : SqL K H a xs) (q : Q (.int xs.length) H) : aLen K [.ref a] H Q := .inl ⟨a, xs, rfl, .inl h, q⟩
theorem L_lenT {a : Addr} {xs : List V} (h : SqT K H a xs) (q : Q (.int xs.length) H) : aLen K [.ref a] H Q := .inl ⟨a, xs, rfl, .inr h, q⟩
theorem L_lenS {z : Str} (h : z.length ≤ sizeLine) (q : Q (.int z.length) H) : aLen K [.str z] H Q := .inr (.inl ⟨z, rfl, h, q⟩)
theorem L_abs {i : Int} (q : Q (.int (if i < 0 then -i else i)) H) : aAbs [.int i] H Q := ⟨i, rfl, q⟩
theorem L_max2 {i j : Int} (q : Q (.int (max i j)) H) : aMax2 [.int i, .int j] H Q := ⟨i, j, rfl, by rw [show (if j > i then j else i) = max i j by omega]; exact q⟩
theorem L_min2 {i j : Int} (q : Q (.int (min i j)) H) : aMin2 [.int i, .int j] H Q := ⟨i, j, rfl, by rw [show (if j < i then j else i) = min i j by omega]; exact q⟩
theorem L_int1 {i : Int} (q : Q (.int i) H) : aInt1 [.int i] H Q := .inl ⟨i, rfl, q⟩
theorem L_int1B {k : Bool} (q : Q (.int (if k then 1 else 0)) H) : aInt1 [.bl k] H Q := .inr ⟨k, rfl, q⟩
theorem L_isi {a n : String} {b : Bool} (hx : TyX K H x (.type a)) (hk : kitB a n = some b) (q : Q (.bl b) H) : rIsi K [x, .ty n] H Q := ⟨x, .ty n, .type a, .type n, b, rfl, .ty n, hx, kit_ty hk, q⟩
theorem L_ixL {p : Addr} {xs : List V} {i : Int} (h : SqL K H p xs) (ha : atI xs i = some v) (q : Q v H) : rIx K (.ref p) (.int i) H Q := .inl ⟨p, xs, i, v, rfl, rfl, h, ha, q⟩
theorem L_ixT {p : Addr} {xs : List V} {i : Int} (h : SqT K H p xs) (ha : atI xs i = some v) (q : Q v H) : rIx K (.ref p) (.int i) H Q := .inr (.inl ⟨p, xs, i, v, rfl, rfl, h, ha, q⟩)
theorem L_ixS {z : Str} {i : Int} {a : Nat} (h : z.length ≤ sizeLine) (ha : atI z.cps.toList i = some a) (q : Q (.str ⟨#[a]⟩) H) : rIx K (.str z) (.int i) H Q := .inr (.inr ⟨z, i, a, rfl, rfl, h, ha, q⟩)
theorem L_bm {T : String} {r : V → List V → Hp → VK → Prop} (h : te σ H fun x H1 => tyV K T x H1 ∧ tr σ H1 fun xs H2 => r x xs H2 Q) : tBM K T r te tr σ H Q := h
theorem L_tyL {a : Addr} {xs : List V} {R : Prop} (h : SqL K H a xs) (q : R) : tyV K "list" (.ref a) H ∧ R := ⟨.inl ⟨rfl, xs, h⟩, q⟩
theorem L_app {a : Addr} {xs : List V} (h : H a = some (.lst xs)) (hl : xs.length < sizeLine) (q : Q .non (upd H a (.lst (xs ++ [v])))) : rAppend (.ref a) [v] H Q := ⟨a, xs, v, rfl, rfl, h, hl, q⟩
theorem L_sum {a : Addr} {ns : List Int} (h : SqL K H a (ns.map V.int)) (q : Q (.int ns.sum) H) : rSum K [.ref a] H Q := ⟨a, ns, rfl, h, q⟩
theorem L_while (W : Nat → L2.St → Hp → Prop) (h0 : ∃ m, W m σ H) (hs : ∀ m σ H, W m σ H → c σ H fun b H1 => if b = true then ∃ M : L2.St → Hp → Prop, (∀ σ' H', M σ' H' → ∃ m', m' < m ∧ W m' σ' H') ∧ t ⟨M, R, N, M⟩ σ H1 else N σ H1) : tWhile c t ⟨N, R, B, C⟩ σ H := ⟨W, h0, hs⟩
theorem L_N {W : Nat → L2.St → Hp → Prop} {m : Nat} (h : t ⟨fun σ' H' => ∃ m', m' < m ∧ W m' σ' H', R, N, fun σ' H' => ∃ m', m' < m ∧ W m' σ' H'⟩ σ H) :
    ∃ M : L2.St → Hp → Prop, (∀ σ' H', M σ' H' → ∃ m', m' < m ∧ W m' σ' H') ∧ t ⟨M, R, N, M⟩ σ H := ⟨_, fun _ _ h => h, h⟩
theorem L_cut {Mid : L2.St → Hp → Prop} (h : t ⟨Mid, R, B, C⟩ σ H) (k : ∀ σ' H', Mid σ' H' → u ⟨N, R, B, C⟩ σ' H') : Evl.tCut t u ⟨N, R, B, C⟩ σ H := ⟨Mid, h, k⟩
theorem L_for {wi : TI} (h : wi σ H fun J H1 => ∃ W : Nat → Nat → L2.St → Hp → Prop, (∃ m, W 0 m σ H1) ∧ ∀ i m σ H, W i m σ H →
      (J.stop i H ∧ N σ H) ∨ (J.go i H ∧ ∃ M : L2.St → Hp → Prop, (∀ σ' H', M σ' H' → ∃ m', m' < m ∧ W (i + 1) m' σ' H') ∧ ∀ x H', J.yld i H x H' → g x σ H' fun σ2 H2 => t ⟨M, R, N, M⟩ σ2 H2)) : tFor wi g t ⟨N, R, B, C⟩ σ H := h
theorem L_iRng1 {R : It → Hp → Prop} (h : tr σ H fun vs H1 => ∃ j : Int, vs = [.int j] ∧ -(2 ^ 62) ≤ j ∧ j < 2 ^ 62 ∧ R (Itr 0 j.toNat) H1) : iRng1 tr σ H R := h
theorem L_iRng2 {R : It → Hp → Prop} (h : tr σ H fun vs H1 => ∃ i j : Int, vs = [.int i, .int j] ∧ (-(2 ^ 62) ≤ i ∧ i < 2 ^ 62 ∧ -(2 ^ 62) ≤ j ∧ j < 2 ^ 62) ∧ R (Itr i (j - i).toNat) H1) : iRng2 tr σ H R := h
theorem L_iList {R : It → Hp → Prop} (h : te σ H fun x H1 => ∃ a, x = .ref a ∧ (∃ xs, SqL K H1 a xs) ∧ R (Itl K a) H1) : iList K te σ H R := h
theorem L_iTup {R : It → Hp → Prop} (h : te σ H fun x H1 => ∃ a, x = .ref a ∧ (∃ xs, SqT K H1 a xs) ∧ R (Itt K a) H1) : iTup K te σ H R := h
theorem L_r1 {n : Int} {R : Int → Prop} (h1 : -(2 ^ 62) ≤ n) (h2 : n < 2 ^ 62) (q : R n) : ∃ j : Int, [V.int n] = [V.int j] ∧ -(2 ^ 62) ≤ j ∧ j < 2 ^ 62 ∧ R j := ⟨n, rfl, h1, h2, q⟩
theorem L_r2 {a n : Int} {R : Int → Int → Prop} (h : -(2 ^ 62) ≤ a ∧ a < 2 ^ 62 ∧ -(2 ^ 62) ≤ n ∧ n < 2 ^ 62) (q : R a n) : ∃ i j : Int, [V.int a, V.int n] = [V.int i, V.int j] ∧ (-(2 ^ 62) ≤ i ∧ i < 2 ^ 62 ∧ -(2 ^ 62) ≤ j ∧ j < 2 ^ 62) ∧ R i j := ⟨a, n, rfl, h, q⟩
theorem L_rl {a : Addr} {xs : List V} {R : Addr → Prop} (h : SqL K H a xs) (q : R a) : ∃ b, V.ref a = V.ref b ∧ (∃ xs, SqL K H b xs) ∧ R b := ⟨a, rfl, ⟨xs, h⟩, q⟩
theorem L_rt {a : Addr} {xs : List V} {R : Addr → Prop} (h : SqT K H a xs) (q : R a) : ∃ b, V.ref a = V.ref b ∧ (∃ xs, SqT K H b xs) ∧ R b := ⟨a, rfl, ⟨xs, h⟩, q⟩
end
theorem sz_dec {n : Nat} (h : n ≤ 1000000) : n ≤ sizeLine := Nat.le_trans h (by decide)
theorem sz_lt {n : Nat} (h : n < 1000000) : n < sizeLine := Nat.lt_of_lt_of_le h (by decide)
/-! ### sizes of ints -/
/-- less than n bits -/
def Bd (n : Nat) (i : Int) : Prop := i.natAbs < 2 ^ n
theorem Bd.mono {n m : Nat} {i : Int} (h : Bd n i) (hm : n ≤ m) : Bd m i := Nat.lt_of_lt_of_le h (Nat.pow_le_pow_right (by decide) hm)
theorem Bd.mul {n m : Nat} {i j : Int} (h : Bd n i) (k : Bd m j) : Bd (n + m) (i * j) := wide_lt h k
theorem Bd.add {n m : Nat} {i j : Int} (h : Bd n i) (k : Bd m j) : Bd (max n m + 1) (i + j) := by
  have a := h.mono (Nat.le_max_left n m)
  have b := k.mono (Nat.le_max_right n m)
  unfold Bd at *
  rw [Nat.pow_succ]
  have := Int.natAbs_add_le i j
  omega
theorem Bd.neg {n : Nat} {i : Int} (h : Bd n i) : Bd n (-i) := by unfold Bd at *; rw [Int.natAbs_neg]; exact h
theorem Bd.sub {n m : Nat} {i j : Int} (h : Bd n i) (k : Bd m j) : Bd (max n m + 1) (i - j) := by
  rw [Int.sub_eq_add_neg]; exact h.add k.neg
theorem Bd.cmul {n m : Nat} {i j : Int} (h : Bd n i) (k : Bd m j) (hz : n + m + 2 ≤ 1000000 := by decide) : CMulW i j :=
  wide_mul (h.mono (Nat.le_succ n)) (k.mono (Nat.le_succ m)) (Nat.succ_pos _) (Nat.succ_pos _) (by omega)
theorem Bd.cdiv {n : Nat} {i j : Int} (k : Bd n j) (h : 0 < j) (hz : n + 1 ≤ 9000 := by decide) : CDivW i j := wide_div h (k.mono (Nat.le_succ n)) (Nat.succ_pos _) hz
theorem bd_lit {i : Int} (h : -4294967296 < i ∧ i < 4294967296) : Bd 32 i := by
  unfold Bd
  have : (2 : Nat) ^ 32 = 4294967296 := by decide
  omega
theorem bd_64 {i : Int} (h : -18446744073709551616 < i ∧ i < 18446744073709551616) : Bd 64 i := by
  unfold Bd
  have : (2 : Nat) ^ 64 = 18446744073709551616 := by decide
  omega
/-- an item of the script, or what stands in its place -/
def cellAt (ns : List Int) (k d : Int) : Int := if k < (ns.length : Int) then ns.getD k.toNat 0 else d
theorem cellAt_in {ns : List Int} {k d : Int} (h0 : 0 ≤ k) (h : k < (ns.length : Int)) : atI (ns.map V.int) k = some (V.int (cellAt ns k d)) := by
  obtain ⟨j, rfl⟩ : ∃ j : Nat, k = (j : Int) := ⟨k.toNat, by omega⟩
  have hl : j < ns.length := by omega
  unfold cellAt
  rw [if_pos h]
  refine atI_nat ?_
  rw [List.getElem?_map, List.getElem?_eq_getElem hl]
  simp [List.getD, List.getElem?_eq_getElem hl]
theorem cellAt_out {ns : List Int} {k d : Int} (h : ¬ k < (ns.length : Int)) : cellAt ns k d = d := if_neg h
theorem cellAt_mem {ns : List Int} {k d : Int} (h0 : 0 ≤ k) : cellAt ns k d ∈ ns ∨ cellAt ns k d = d := by
  unfold cellAt
  split
  · rename_i h
    have hl : k.toNat < ns.length := by omega
    left
    simp [List.getD, List.getElem?_eq_getElem hl]
  · exact .inr rfl
theorem _root_.L2.Same.seqT {K : PySem.W.Frag} {H H' : Hp} {a : Addr} {xs : List V} (e : Same H H') (h : SqT K H a xs) : SqT K H' a xs := by
  rcases h with (h | ⟨o, h⟩) | h
  · exact .inl (.inl (e _ _ h))
  · exact .inl (.inr ⟨o, e _ _ h⟩)
  · exact .inr h
/-! ### what is walked: more -/
section
variable {K : PySem.W.Frag} {σ : L2.St} {H : Hp} {te : TE} {tr : TA} {Q : VK} {g : TG} {tt : TT}
theorem L_yes {Q : Bool → Hp → Prop} (q : Q true H) : tYes σ H Q := q
theorem L_iZip {R : It → Hp → Prop} (h : tr σ H fun vs H1 => ∃ a b xs ys, vs = [.ref a, .ref b] ∧ SqL K H1 a xs ∧ SqL K H1 b ys ∧ R (Itz K a b) H1) : iZip K tr σ H R := h
theorem L_iEnum {R : It → Hp → Prop} (h : tr σ H fun vs H1 => ∃ a xs, vs = [.ref a] ∧ SqL K H1 a xs ∧ R (Ite K a) H1) : iEnum K tr σ H R := h
theorem L_iStr {R : It → Hp → Prop} (h : te σ H fun v H1 => ∃ x, v = .str x ∧ R (Its x) H1) : iStr te σ H R := h
theorem L_iRng3 {R : It → Hp → Prop} (h : tr σ H fun vs H1 => ∃ (i j c : Int) (n : Nat), vs = [.int i, .int j, .int c] ∧ RgC i j c n ∧ R (Itc i c n) H1) : iRng3 tr σ H R := h
theorem L_rz {a b : Addr} {xs ys : List V} {R : Addr → Addr → Prop} (h1 : SqL K H a xs) (h2 : SqL K H b ys) (q : R a b) : ∃ a' b' xs ys, [V.ref a, V.ref b] = [.ref a', .ref b'] ∧ SqL K H a' xs ∧ SqL K H b' ys ∧ R a' b' := ⟨a, b, xs, ys, rfl, h1, h2, q⟩
theorem L_re {a : Addr} {xs : List V} {R : Addr → Prop} (h1 : SqL K H a xs) (q : R a) : ∃ a' xs, [V.ref a] = [.ref a'] ∧ SqL K H a' xs ∧ R a' := ⟨a, xs, rfl, h1, q⟩
theorem L_rs {z : Str} {R : Str → Prop} (q : R z) : ∃ x, V.str z = .str x ∧ R x := ⟨z, rfl, q⟩
theorem L_r3 {i j c : Int} {n : Nat} {R : Int → Int → Nat → Prop} (h : RgC i j c n) (q : R i c n) : ∃ (i' j' c' : Int) (n : Nat), [V.int i, V.int j, V.int c] = [.int i', .int j', .int c'] ∧ RgC i' j' c' n ∧ R i' c' n := ⟨i, j, c, n, rfl, h, q⟩
theorem L_lc {wi : TI} {vs : List Nat} (h : wi σ H fun J H1 => ∀ D, H1 D = none → ∃ W : Nat → Nat → Hp → Prop, (∃ m, W 0 m (upd H1 D (.lst []))) ∧ ∀ i m H, W i m H →
  (J.stop i H ∧ Q (.ref D) H) ∨ (J.go i H ∧ ∃ Nx : Hp → Prop, (∀ H', Nx H' → ∃ m', m' < m ∧ W (i + 1) m' H') ∧ ∀ x H', J.yld i H x H' → g x (wipe σ vs) H' fun σ2 H2 => wipe σ2 vs = wipe σ vs ∧ tt σ2 H2 fun b H3 =>
    if b = true then te σ2 H3 fun y H4 => ∃ acc, H4 D = some (.lst acc) ∧ acc.length < sizeLine ∧ Nx (upd H4 D (.lst (acc ++ [y]))) else Nx H3)) : tLc wi g tt te vs σ H Q := h
theorem fm_succ (f : Nat → Option V) (i : Nat) : (List.range (i + 1)).filterMap f = (List.range i).filterMap f ++ (match f i with | some y => [y] | none => []) := by
  rw [List.range_succ, List.filterMap_append]
  cases h : f i <;> simp [h]
theorem fm_len (f : Nat → Option V) (i : Nat) : ((List.range i).filterMap f).length ≤ i := by
  have := List.length_filterMap_le f (List.range i)
  simpa using this
/-- a comprehension whose things are told one by one: f i is what turn i gives, none where its test is false -/
theorem lc_fm {J : It} {n : Nat} {G : Hp → Prop} {Y : Nat → Hp → V → Hp → Prop} (w : L2.Walk J n G Y) {vs : List Nat} {Qd : Addr → Hp → Prop} (f : Nat → Option V) (hn : n ≤ 1000000) (hG : ∀ H', Same H H' → G H')
    (hs : ∀ i x H2 H' (R : V → Hp → Prop) (R' : Hp → Prop), i < n → Same H H2 → Y i H2 x H' → (∀ y H4, f i = some y → Same H2 H4 → R y H4) → (∀ H3, f i = none → Same H2 H3 → R' H3) →
      g x (wipe σ vs) H' fun σ2 H2 => wipe σ2 vs = wipe σ vs ∧ tt σ2 H2 fun b H3 => if b = true then te σ2 H3 R else R' H3)
    (q : ∀ p H', H p = none → Same H H' → H' p = some (.lst ((List.range n).filterMap f)) → Qd p H') :
    ∀ D, H D = none → ∃ W : Nat → Nat → Hp → Prop, (∃ m, W 0 m (upd H D (.lst []))) ∧ ∀ i m H, W i m H →
      (J.stop i H ∧ Qd D H) ∨ (J.go i H ∧ ∃ Nx : Hp → Prop, (∀ H', Nx H' → ∃ m', m' < m ∧ W (i + 1) m' H') ∧ ∀ x H', J.yld i H x H' → g x (wipe σ vs) H' fun σ2 H2 => wipe σ2 vs = wipe σ vs ∧ tt σ2 H2 fun b H3 =>
        if b = true then te σ2 H3 fun y H4 => ∃ acc, H4 D = some (.lst acc) ∧ acc.length < sizeLine ∧ Nx (upd H4 D (.lst (acc ++ [y]))) else Nx H3) := by
  intro D hD
  refine lc_it w (fun i H2 => Same H H2 ∧ H2 D = some (.lst ((List.range i).filterMap f))) ⟨same_new hD, upd_same⟩ (fun i H2 _ p => hG H2 p.1) ?_ (fun H2 p => q D H2 hD p.1 p.2)
  intro i x H2 H' hi ⟨p1, p2⟩ y
  refine hs i x H2 H' _ _ hi p1 y (fun y H4 e s => ?_) (fun H3 e s => ?_)
  · refine ⟨_, s _ _ p2, sz_lt (by have := fm_len f i; omega), ?_, ?_⟩
    · intro b o hb
      rw [upd_ne (ne_of_none hb hD)]
      exact s _ _ (p1 _ _ hb)
    · rw [fm_succ, e]; exact upd_same
  · refine ⟨p1.trans s, ?_⟩
    rw [fm_succ, e, List.append_nil]
    exact s _ _ p2
theorem fm_map {α : Type} (f : Nat → α) (h : α → V) (n : Nat) : (List.range n).filterMap (fun i => some (h (f i))) = ((List.range n).map f).map h := by
  rw [List.map_map]
  induction n with
  | zero => rfl
  | succ n ih => rw [fm_succ (fun i => some (h (f i))), ih, List.range_succ, List.map_append]; rfl
theorem rgC_up {i j c : Int} (hc : 0 < c) (hc2 : c < 1000000) (hi : -1000000000 ≤ i ∧ i ≤ 1000000000) (hj : -1000000000 ≤ j ∧ j ≤ 1000000000) : RgC i j c (if i < j then ((j - i - 1) / c + 1).toNat else 0) := by
  have e : Builtin.Range.rangeSize i j c = ((if i < j then ((j - i - 1) / c + 1).toNat else 0 : Nat) : Int) := by
    unfold Builtin.Range.rangeSize
    rw [if_pos (by omega)]
    split
    · have : 0 ≤ (j - i - 1) / c := Int.ediv_nonneg (by omega) (by omega)
      omega
    · rfl
  refine ⟨by omega, by omega, ?_, e⟩
  unfold Builtin.Range.small
  rw [e]
  have hz : ((if i < j then ((j - i - 1) / c + 1).toNat else 0 : Nat) : Int) * c ≤ 4000000000 ∧ ((if i < j then ((j - i - 1) / c + 1).toNat else 0 : Nat) : Int) ≤ 4000000000 ∧ 0 ≤ ((if i < j then ((j - i - 1) / c + 1).toNat else 0 : Nat) : Int) := by
    split
    · have h0 : 0 ≤ (j - i - 1) / c := Int.ediv_nonneg (by omega) (by omega)
      have h1 : (j - i - 1) / c * c ≤ j - i - 1 := Int.ediv_mul_le _ (by omega)
      have h2 : (j - i - 1) / c ≤ j - i - 1 := Int.ediv_le_self _ (by omega)
      have h3 : (((j - i - 1) / c + 1).toNat : Int) = (j - i - 1) / c + 1 := by omega
      rw [h3, Int.add_mul]
      omega
    · simp
  generalize ((if i < j then ((j - i - 1) / c + 1).toNat else 0 : Nat) : Int) = n at *
  simp only [Builtin.Range.rangeFitsLong, Bool.and_eq_true, Bool.or_eq_true, decide_eq_true_eq, beq_iff_eq]
  refine ⟨by omega, .inr ?_⟩
  rw [if_pos (by omega), Bool.and_eq_true, decide_eq_true_eq, decide_eq_true_eq]
  omega
/-- what making an instance asks -/
def MakeP (C : Addr) (sp : Sp) (E : XK) (vs : List V) (H : Hp) (Q : VK) : Prop := ∀ x dx, H x = none → H dx = none → dx ≠ x → sp (.ref x :: vs) (upd (upd H dx (.own x)) x (.ins C dx [])) (fun v H2 => v = .non ∧ Q (.ref x) H2) E
theorem L_make {C : Addr} {sp : Sp} {E : XK} (h : tr σ H fun vs H1 => MakeP C sp E vs H1 Q) : tMake C sp [] E tr σ H Q := by
  unfold tMake
  simp only [List.append_nil]
  exact h
/-- a new instance: all that stood stands -/
def NewI (H : Hp) (C : Addr) (fs : List (Str × V)) (Q : VK) : Prop := ∀ p H' dx, H p = none → Same H H' → H' p = some (.ins C dx fs) → Q (.ref p) H'
theorem L_gTup {n : Nat} {t : TGs} {a : Addr} {xs : List V} {Q : L2.St → Hp → Prop} (h : SqT K H a xs) (hn : xs.length = n) (q : t xs σ H Q) : gTup K n t (.ref a) σ H Q := ⟨a, xs, rfl, h, hn, q⟩
theorem L_gLst {n : Nat} {t : TGs} {a : Addr} {xs : List V} {Q : L2.St → Hp → Prop} (h : SqL K H a xs) (hn : xs.length = n) (q : t xs σ H Q) : gLst K n t (.ref a) σ H Q := ⟨a, xs, rfl, h, hn, q⟩
theorem L_gCons {v : V} {r : List V} {t : TG} {u : TGs} {Q : L2.St → Hp → Prop} (q : t v σ H fun σ' H' => u r σ' H' Q) : gCons t u (v :: r) σ H Q := ⟨v, r, rfl, q⟩
theorem L_gNil {Q : L2.St → Hp → Prop} (q : Q σ H) : gNil [] σ H Q := ⟨rfl, q⟩
theorem L_sub {to ti : TE} {t : TSet} {v : V} {Q : L2.St → Hp → Prop} (h : to σ H fun o H1 => ti σ H1 fun i H2 => t o i v H2 fun H3 => Q σ H3) : gSub to ti t v σ H Q := h
theorem L_setL {p : Addr} {xs : List V} {k : Int} {j : Nat} {v : V} {Q : Hp → Prop} (h : H p = some (.lst xs)) (hj : ixN xs.length k = some j) (q : Q (upd H p (.lst (xs.set j v)))) : rSetL (.ref p) (.int k) v H Q := ⟨p, xs, k, j, rfl, rfl, h, hj, q⟩
theorem ixN_of {n : Nat} {k : Int} (h0 : 0 ≤ k) (h : k < n) : ixN n k = some k.toNat := by
  unfold ixN
  rw [if_pos h0, if_pos h]
theorem L_sFld {f : Str} {ta tv : TE} {N B C' : L2.St → Hp → Prop} {R : VK} (h : tv σ H fun y H1 => ta σ H1 fun x H2 => ∃ a C dx fs, x = .ref a ∧ H2 a = some (.ins C dx fs) ∧ Cls K C ∧ NoAttr K C f ∧ fs.length < 1000 ∧ N σ (upd H2 a (.ins C dx (putF f y fs)))) : sFld K ta tv f ⟨N, R, B, C'⟩ σ H := h
theorem L_sFldv {a C dx : Addr} {fs : List (Str × V)} {f : Str} {Q : Addr → Addr → Addr → List (Str × V) → Prop} (h : H a = some (.ins C dx fs)) (cl : Cls K C) (n : NoAttr K C f) (l : fs.length < 1000) (q : Q a C dx fs) :
    ∃ a' C dx fs, V.ref a = V.ref a' ∧ H a' = some (.ins C dx fs) ∧ Cls K C ∧ NoAttr K C f ∧ fs.length < 1000 ∧ Q a' C dx fs := ⟨a, C, dx, fs, rfl, h, cl, n, l, q⟩
theorem L_repL {a : Addr} {xs : List V} {k : Int} (h : H a = some (.lst xs)) (h1 : -(2 ^ 63) ≤ k) (h2 : k < 2 ^ 63) (h3 : xs.length * k.toNat ≤ sizeLine) (q : ∀ p, H p = none → Q (.ref p) (upd H p (.lst (List.replicate k.toNat xs).flatten))) : aMul (.ref a) (.int k) H Q := .inr ⟨a, k, xs, rfl, rfl, h, h1, h2, h3, q⟩
theorem atI_int {xs : List V} {k : Int} {v : V} (h0 : 0 ≤ k) (h : xs[k.toNat]? = some v) : atI xs k = some v := by
  obtain ⟨j, rfl⟩ : ∃ j : Nat, k = (j : Int) := ⟨k.toNat, by omega⟩
  exact atI_nat h
theorem atI_ints {xs : List Int} {k : Int} (h0 : 0 ≤ k) (h : k < xs.length) : atI (xs.map V.int) k = some (.int (xs.getD k.toNat 0)) := by
  refine atI_int h0 ?_
  have hl : k.toNat < xs.length := by omega
  rw [List.getElem?_map, List.getElem?_eq_getElem hl]
  simp [List.getD, List.getElem?_eq_getElem hl]
theorem L_nw {xs : List V} {R : Prop} (q : R) (hl : xs.length ≤ 1000000 := by simp) : xs.length ≤ sizeLine ∧ R := ⟨sz_dec hl, q⟩
end
theorem fm_succ' {α : Type} (f : Nat → Option α) (i : Nat) : (List.range (i + 1)).filterMap f = (List.range i).filterMap f ++ (match f i with | some y => [y] | none => []) := by
  rw [List.range_succ, List.filterMap_append]
  cases h : f i <;> simp [h]
theorem fm_len' {α : Type} (f : Nat → Option α) (i : Nat) : ((List.range i).filterMap f).length ≤ i := by
  have := List.length_filterMap_le f (List.range i)
  simpa using this
/-! ### data as trees -/
mutual
theorem Dp_same {K : PySem.W.Frag} {H H' : Hp} (e : Same H H') : ∀ (d : PyData) {v : V}, Dp K H v d → Dp K H' v d
  | .none, _, h => by cases h; exact .non
  | .bool b, _, h => by cases h; exact .bl b
  | .int i, _, h => by cases h; exact .int i
  | .str x, _, h => by cases h; exact .str x
  | .list ds, _, h => by cases h with | lst hs ha => exact .lst (e.seq hs) (DpAll_same e ds ha)
  | .tuple ds, _, h => by cases h with | tup hs ha => exact .tup (e.seqT hs) (DpAll_same e ds ha)
  | .dict _, _, h => by cases h
theorem DpAll_same {K : PySem.W.Frag} {H H' : Hp} (e : Same H H') : ∀ (ds : List PyData) {vs : List V}, DpAll K H vs ds → DpAll K H' vs ds
  | [], _, h => by cases h; exact .nil
  | d :: ds, _, h => by cases h with | cons h1 h2 => exact .cons (Dp_same e d h1) (DpAll_same e ds h2)
end
section
variable {K : PySem.W.Frag} {H H' : Hp} {v : V} {vs : List V} {d : PyData} {ds : List PyData}
theorem _root_.L2.Dp.same (h : Dp K H v d) (e : Same H H') : Dp K H' v d := Dp_same e d h
theorem _root_.L2.DpAll.same (h : DpAll K H vs ds) (e : Same H H') : DpAll K H' vs ds := DpAll_same e ds h
theorem _root_.L2.DpAll.len : ∀ {ds : List PyData} {vs : List V}, DpAll K H vs ds → vs.length = ds.length
  | [], _, h => by cases h; rfl
  | d :: ds, _, h => by cases h with | cons h1 h2 => rw [List.length_cons, List.length_cons, h2.len]
theorem _root_.L2.DpAll.at : ∀ {ds : List PyData} {vs : List V} {i : Nat}, DpAll K H vs ds → ds[i]? = some d → ∃ v, vs[i]? = some v ∧ Dp K H v d
  | [], _, i, h, e => by simp at e
  | c :: ds, _, 0, h, e => by
    cases h with
    | cons h1 h2 =>
      rename_i v vs
      have : c = d := by simpa using e
      subst this
      exact ⟨v, by simp, h1⟩
  | c :: ds, _, i + 1, h, e => by
    cases h with
    | cons h1 h2 =>
      obtain ⟨v, q1, q2⟩ := h2.at (i := i) (by simpa using e)
      exact ⟨v, by simpa using q1, q2⟩
theorem _root_.L2.DpAll.of : ∀ {ds : List PyData} {vs : List V} {i : Nat}, DpAll K H vs ds → vs[i]? = some v → ∃ d, ds[i]? = some d ∧ Dp K H v d
  | [], _, i, h, e => by cases h; simp at e
  | c :: ds, _, 0, h, e => by
    cases h with
    | cons h1 h2 =>
      rename_i w vs
      have : w = v := by simpa using e
      subst this
      exact ⟨c, by simp, h1⟩
  | c :: ds, _, i + 1, h, e => by
    cases h with
    | cons h1 h2 =>
      obtain ⟨d, q1, q2⟩ := h2.of (i := i) (by simpa using e)
      exact ⟨d, by simpa using q1, q2⟩
theorem _root_.L2.DpAll.app : ∀ {ds es : List PyData} {vs us : List V}, DpAll K H vs ds → DpAll K H us es → DpAll K H (vs ++ us) (ds ++ es)
  | [], _, _, _, h, g => by cases h; exact g
  | d :: ds, _, _, _, h, g => by cases h with | cons h1 h2 => exact .cons h1 (h2.app g)
theorem _root_.L2.DpAll.snoc (h : DpAll K H vs ds) (g : Dp K H v d) : DpAll K H (vs ++ [v]) (ds ++ [d]) := h.app (.cons g .nil)
theorem dp_ints : ∀ (ns : List Int), DpAll K H (ns.map V.int) (ns.map PyData.int)
  | [] => .nil
  | n :: ns => .cons (.int n) (dp_ints ns)
theorem dp_strs : ∀ (ns : List Str), DpAll K H (ns.map V.str) (ns.map PyData.str)
  | [] => .nil
  | n :: ns => .cons (.str n) (dp_strs ns)
theorem of_ints : ∀ {ns : List Int} {vs : List V}, DpAll K H vs (ns.map PyData.int) → vs = ns.map V.int
  | [], _, h => by cases h; rfl
  | n :: ns, _, h => by
    cases h with
    | cons h1 h2 => cases h1; rw [of_ints h2]; rfl
theorem of_strs : ∀ {ns : List Str} {vs : List V}, DpAll K H vs (ns.map PyData.str) → vs = ns.map V.str
  | [], _, h => by cases h; rfl
  | n :: ns, _, h => by
    cases h with
    | cons h1 h2 => cases h1; rw [of_strs h2]; rfl
theorem of_tup (h : Dp K H v (.tuple ds)) : ∃ a xs, v = .ref a ∧ SqT K H a xs ∧ DpAll K H xs ds := by
  cases h with | tup h1 h2 => exact ⟨_, _, rfl, h1, h2⟩
theorem of_lst (h : Dp K H v (.list ds)) : ∃ a xs, v = .ref a ∧ SqL K H a xs ∧ DpAll K H xs ds := by
  cases h with | lst h1 h2 => exact ⟨_, _, rfl, h1, h2⟩
theorem of_int {i : Int} (h : Dp K H v (.int i)) : v = .int i := by cases h; rfl
theorem of_str {i : Str} (h : Dp K H v (.str i)) : v = .str i := by cases h; rfl
theorem of_bl {i : Bool} (h : Dp K H v (.bool i)) : v = .bl i := by cases h; rfl
theorem of_non (h : Dp K H v .none) : v = .non := by cases h; rfl
theorem of_t2 {d e : PyData} (h : Dp K H v (.tuple [d, e])) : ∃ a x y, v = .ref a ∧ SqT K H a [x, y] ∧ Dp K H x d ∧ Dp K H y e := by
  obtain ⟨a, xs, rfl, h1, h2⟩ := of_tup h
  cases h2 with
  | cons p1 p2 => cases p2 with | cons p3 p4 => cases p4; exact ⟨a, _, _, rfl, h1, p1, p3⟩
theorem of_t3 {d e f : PyData} (h : Dp K H v (.tuple [d, e, f])) : ∃ a x y z, v = .ref a ∧ SqT K H a [x, y, z] ∧ Dp K H x d ∧ Dp K H y e ∧ Dp K H z f := by
  obtain ⟨a, xs, rfl, h1, h2⟩ := of_tup h
  cases h2 with
  | cons p1 p2 => cases p2 with | cons p3 p4 => cases p4 with | cons p5 p6 => cases p6; exact ⟨a, _, _, _, rfl, h1, p1, p3, p5⟩
theorem of_t4 {d e f g : PyData} (h : Dp K H v (.tuple [d, e, f, g])) : ∃ a x y z w, v = .ref a ∧ SqT K H a [x, y, z, w] ∧ Dp K H x d ∧ Dp K H y e ∧ Dp K H z f ∧ Dp K H w g := by
  obtain ⟨a, xs, rfl, h1, h2⟩ := of_tup h
  cases h2 with
  | cons p1 p2 => cases p2 with | cons p3 p4 => cases p4 with | cons p5 p6 => cases p6 with | cons p7 p8 => cases p8; exact ⟨a, _, _, _, _, rfl, h1, p1, p3, p5, p7⟩
end
/-- the part of a heap at which P holds -/
noncomputable def rs (P : Addr → Prop) (H : Hp) : Hp := fun a => @ite _ (P a) (Classical.propDecidable _) (H a) none
theorem rs_at {P : Addr → Prop} {H : Hp} {a : Addr} {o : HO} (p : P a) (h : H a = some o) : rs P H a = some o := by unfold rs; rw [if_pos p]; exact h
theorem rs_of {P : Addr → Prop} {H : Hp} {a : Addr} {o : HO} (h : rs P H a = some o) : P a ∧ H a = some o := by
  unfold rs at h
  split at h
  · rename_i p; exact ⟨p, h⟩
  · cases h
theorem rs_same {P P' : Addr → Prop} {H H' : Hp} (h : ∀ a o, P a → H a = some o → P' a ∧ H' a = some o) : Same (rs P H) (rs P' H') := fun a o e => by
  obtain ⟨p, q⟩ := rs_of e
  obtain ⟨p', q'⟩ := h a o p q
  exact rs_at p' q'
theorem rs_sub {P : Addr → Prop} {H : Hp} : Same (rs P H) H := fun a o e => (rs_of e).2
theorem rs_in {P : Addr → Prop} {H H' : Hp} (h : ∀ a o, P a → H a = some o → H' a = some o) : Same (rs P H) H' := fun a o e => h a o (rs_of e).1 (rs_of e).2
theorem rs_all {P : Addr → Prop} {H H' : Hp} (h : ∀ a o, H a = some o → P a ∧ H' a = some o) : Same H (rs P H') := fun a o e => rs_at (h a o e).1 (h a o e).2
/-- a list that changes: what stood ahead of it stands -/
theorem same_mut {H H' : Hp} {a : Addr} {o : HO} (e : Same H H') (h : H a = none) : Same H (upd H' a o) := fun b o' q => by
  rw [upd_ne (fun z => by rw [z, h] at q; cases q)]; exact e b o' q
section
variable {K : PySem.W.Frag} {σ : L2.St} {H : Hp} {g : TG} {tt : TT} {te : TE} {tb : TS} {D : Ends} {x y : V} {Q : VK}
theorem L_rlD {v : V} {ds : List PyData} {R : Addr → Prop} (h : Dp K H v (.list ds)) (q : ∀ a, v = .ref a → R a) : ∃ b, v = V.ref b ∧ (∃ xs, SqL K H b xs) ∧ R b := by
  obtain ⟨a, xs, rfl, h1, h2⟩ := of_lst h
  exact ⟨a, rfl, ⟨xs, h1⟩, q a rfl⟩
/-- for x in a list of data -/
theorem for_dp {a : Addr} {ds : List PyData} (h : Dp K H (.ref a) (.list ds)) (Pv : Nat → L2.St → Hp → Prop) (h0 : Pv 0 σ H) (hG : ∀ i σ' H', i ≤ ds.length → Pv i σ' H' → Same H H')
    (hs : ∀ i d x σ' H', i < ds.length → ds[i]? = some d → Pv i σ' H' → Dp K H' x d → g x σ' H' fun σ2 H2 => tb { D with nx := Pv (i + 1), ct := Pv (i + 1), bk := D.nx } σ2 H2) (hd : ∀ σ' H', Pv ds.length σ' H' → D.nx σ' H') :
    ∃ W : Nat → Nat → L2.St → Hp → Prop, (∃ m, W 0 m σ H) ∧ ∀ i m σ H, W i m σ H →
      ((Itl K a).stop i H ∧ D.nx σ H) ∨ ((Itl K a).go i H ∧ ∃ N : L2.St → Hp → Prop, (∀ σ' H', N σ' H' → ∃ m', m' < m ∧ W (i + 1) m' σ' H') ∧ ∀ x H', (Itl K a).yld i H x H' → g x σ H' fun σ2 H2 => tb { D with nx := N, ct := N, bk := D.nx } σ2 H2) := by
  obtain ⟨a', xs, ea, h1, h2⟩ := of_lst h
  cases ea
  have hl := h2.len
  refine for_it walk_list Pv h0 (fun i σ' H' hi p => (hG i σ' H' (by omega) p).seq h1) (fun i x σ' H' H'' hi p ⟨e1, e2⟩ => ?_) (fun σ' H' p => hd σ' H' (by rw [← hl]; exact p))
  subst e1
  obtain ⟨d, e3, e4⟩ := h2.of e2
  exact hs i d x σ' _ (by omega) e3 p (e4.same (hG i σ' _ (by omega) p))
/-- a comprehension: what turn i gives is told as data, or none; the new list's things stand apart from it -/
theorem lc_dp {J : It} {n : Nat} {G : Hp → Prop} {Y : Nat → Hp → V → Hp → Prop} (w : L2.Walk J n G Y) {vs : List Nat} {Qd : Addr → Hp → Prop} (f : Nat → Option PyData) (hn : n ≤ 1000000) (hG : ∀ H', Same H H' → G H')
    (hs : ∀ i x p H2 H' (R : V → Hp → Prop) (R' : Hp → Prop), i < n → H p = none → Same H H2 → (∃ o, H2 p = some o) → Y i H2 x H' → (∀ y d H4, f i = some d → Same H2 H4 → Dp K (rs (· ≠ p) H4) y d → R y H4) → (∀ H3, f i = none → Same H2 H3 → R' H3) →
      g x (wipe σ vs) H' fun σ2 H2 => wipe σ2 vs = wipe σ vs ∧ tt σ2 H2 fun b H3 => if b = true then te σ2 H3 R else R' H3)
    (q : ∀ p H' vs, H p = none → Same H H' → H' p = some (.lst vs) → DpAll K (rs (· ≠ p) H') vs ((List.range n).filterMap f) → Qd p H') :
    ∀ D, H D = none → ∃ W : Nat → Nat → Hp → Prop, (∃ m, W 0 m (upd H D (.lst []))) ∧ ∀ i m H, W i m H →
      (J.stop i H ∧ Qd D H) ∨ (J.go i H ∧ ∃ Nx : Hp → Prop, (∀ H', Nx H' → ∃ m', m' < m ∧ W (i + 1) m' H') ∧ ∀ x H', J.yld i H x H' → g x (wipe σ vs) H' fun σ2 H2 => wipe σ2 vs = wipe σ vs ∧ tt σ2 H2 fun b H3 =>
        if b = true then te σ2 H3 fun y H4 => ∃ acc, H4 D = some (.lst acc) ∧ acc.length < sizeLine ∧ Nx (upd H4 D (.lst (acc ++ [y]))) else Nx H3) := by
  intro D hD
  refine lc_it w (fun i H2 => Same H H2 ∧ ∃ us, H2 D = some (.lst us) ∧ DpAll K (rs (· ≠ D) H2) us ((List.range i).filterMap f)) ⟨same_new hD, [], upd_same, .nil⟩ (fun i H2 _ p => hG H2 p.1) ?_ (fun H2 ⟨p1, us, p2, p3⟩ => q D H2 us hD p1 p2 p3)
  rintro i x H2 H' hi ⟨p1, us, p2, p3⟩ y
  refine hs i x D H2 H' _ _ hi hD p1 ⟨_, p2⟩ y (fun y d H4 e s dy => ?_) (fun H3 e s => ?_)
  · have e4 : Same (rs (· ≠ D) H2) (rs (· ≠ D) H4) := rs_same fun a o h1 h2 => ⟨h1, s _ _ h2⟩
    have e5 : Same (rs (· ≠ D) H4) (rs (· ≠ D) (upd H4 D (.lst (us ++ [y])))) := rs_same fun a o h1 h2 => ⟨h1, by rw [upd_ne h1]; exact h2⟩
    refine ⟨us, s _ _ p2, sz_lt (by have := p3.len; have := fm_len' f i; omega), same_mut (p1.trans s) hD, _, upd_same, ?_⟩
    rw [fm_succ', e]
    exact ((p3.same e4).same e5).snoc (dy.same e5)
  · refine ⟨p1.trans s, us, s _ _ p2, ?_⟩
    rw [fm_succ', e, List.append_nil]
    exact p3.same (rs_same fun a o h1 h2 => ⟨h1, s _ _ h2⟩)
end
/-! ### defs that may raise -/
structure MetX (P : Program) (w : World) (K : PySem.W.Frag) (mg : Str → Option Value) (base : Heap) (k : Nat) (C : Addr) (m : Str) (sp : Sp) : Prop where
  ex : ∃ (f : Addr) (fd : FuncData) (ps : List Str), Cls K C ∧ Meth K C m f ∧ FnOk P w K mg base (L2.CX P w) k f fd ps sp ∧ Binds K fd ps []
structure MakX (P : Program) (w : World) (K : PySem.W.Frag) (mg : Str → Option Value) (base : Heap) (k : Nat) (x : Str) (C : Addr) (sp : Sp) : Prop where
  ex : ∃ (f : Addr) (fd : FuncData) (ps : List Str), Mk K C f ∧ FnOk P w K mg base (L2.CX P w) k f fd ps sp ∧ mg x = some (.ref C) ∧ Binds K fd ps []
section
variable {P : Program} {w : World} {K : PySem.W.Frag} {mg : Str → Option Value} {base : Heap}
theorem MethAt.metX {C : Addr} {m qual : Str} {st : Stmt} {N ps : List Str} {k : Nat} {sp : Sp} (c : Cls K C) (d : MethAt K C m qual st ps) (S : FnScope N ps (defScope st)) (len : ∀ vs H Q E, sp vs H Q E → vs.length = ps.length)
    (hbody : ∀ (f : Addr) (cdv : Value) (A : Around) (outer : List Env) (s : Shared) (H : Hp) (vs : List V) (Q : VK) (E : XK), Room k (A.deeper (envOfC qual (defScope st) s.heap.objs.size f cdv)) → sp vs H Q E →
      ∃ t, PSs (cxOf (L2.CX P w) P w K mg base N qual (defScope st) f cdv A outer s H E) (defBody st) t ∧ t { nx := fun _ H' => Q .non H', rt := Q } (start N vs) H) : MetX P w K mg base (k + 1) C m sp := by
  obtain ⟨f, fd, F, hm, b⟩ := d.ex
  exact ⟨f, fd, ps, c, hm, F.okX S len (hbody f), b⟩
theorem InitAt.makX {x : Str} {C : Addr} {qual : Str} {st : Stmt} {N ps : List Str} {k : Nat} {sp : Sp} (hx : mg x = some (.ref C)) (d : InitAt K C qual st ps) (S : FnScope N ps (defScope st)) (len : ∀ vs H Q E, sp vs H Q E → vs.length = ps.length)
    (hbody : ∀ (f : Addr) (cdv : Value) (A : Around) (outer : List Env) (s : Shared) (H : Hp) (vs : List V) (Q : VK) (E : XK), Room k (A.deeper (envOfC qual (defScope st) s.heap.objs.size f cdv)) → sp vs H Q E →
      ∃ t, PSs (cxOf (L2.CX P w) P w K mg base N qual (defScope st) f cdv A outer s H E) (defBody st) t ∧ t { nx := fun _ H' => Q .non H', rt := Q } (start N vs) H) : MakX P w K mg base (k + 1) x C sp := by
  obtain ⟨f, fd, F, hm, b⟩ := d.ex
  exact ⟨f, fd, ps, hm, F.okX S len (hbody f), hx, b⟩
end
/-- where no exception is wanted -/
theorem passN {X : Cx} (σ : L2.St) : PassesAt (L2.CX X.prog X.w) X σ ((fun _ => E0) σ) := fun pins H s e s' I c => passL pins σ H s e s' I c
/-- x.m(..), C(..), where what is raised is wished for at the caller's slots -/
def tMethE (C : Addr) (m : Str) (sp : Sp) (E : L2.St → XK) (ta : TE) (t : TA) : TE := fun σ H Q => ta σ H fun x H1 => ∃ a dx fs, x = .ref a ∧ H1 a = some (.ins C dx fs) ∧ fs.lookup m = none ∧ t σ H1 fun vs H2 => sp (x :: vs) H2 Q (E σ)
def tMakeE (C : Addr) (sp : Sp) (E : L2.St → XK) (t : TA) : TE := fun σ H Q => t σ H fun vs H1 => ∀ x dx, H1 x = none → H1 dx = none → dx ≠ x →
  sp (.ref x :: vs) (upd (upd H1 dx (.own x)) x (.ins C dx [])) (fun v H2 => v = .non ∧ Q (.ref x) H2) (E σ)
section
variable {X : Cx} {CX : CXT} {k j : Nat} {f C : Addr} {fd : FuncData} {ps : List Str} {x m : Str} {sp : Sp} {p pos apos : Pos} {e o : Expr} {es : List Expr} {ta : TE} {t : TA} {E : L2.St → XK}
theorem run_makeS {pins : List (Addr × Obj)} {σ : L2.St} {H : Hp} {s : Shared} {Q : VK} {us : List Value} {vs : List V} (M : Mk X.K C f) (F : FnOk X.prog X.w X.K X.mg X.base CX k f fd ps sp) (hr : Room (k + 1) X.A) (hb : Binds X.K fd ps [])
    (hx : PassesAt CX X σ (E σ)) (I : Inv X pins σ H s) (r : Vals vs us)
    (h : ∀ x dx, H x = none → H dx = none → dx ≠ x → sp (.ref x :: vs) (upd (upd H dx (.own x)) x (.ins C dx [])) (fun v H2 => v = .non ∧ Q (.ref x) H2) (E σ)) :
    wpAny (model X.prog X.w) X.A (call (.ref C) us) (EP X pins σ Q) X.xe s := by
  -- the new object's place, its dict's place
  obtain ⟨dn, hdn⟩ : ∃ dn, dn = s.heap.objs.size := ⟨_, rfl⟩
  have fresh1 : H dn = none := I.hok.fresh (Nat.le_of_eq hdn.symm)
  have fresh2 : H (dn + 1) = none := I.hok.fresh (Nat.le_succ_of_le (Nat.le_of_eq hdn.symm))
  have asked := h (dn + 1) dn fresh2 fresh1 (Nat.ne_of_lt (Nat.lt_succ_self _))
  have J := Inv.made (C := C) I
  rw [← hdn] at J
  have args : Vals (V.ref (dn + 1) :: vs) (Value.ref (dn + 1) :: us) := .cons rfl r
  have many : (Value.ref (dn + 1) :: us).length = ps.length := args.length.symm.trans (F.len _ _ _ _ asked)
  have bound := hb _ (Value.ref (dn + 1) :: us) J.kIn (by rw [List.append_nil]; exact many)
  rw [List.append_nil] at bound
  subst hdn
  refine wpAny_call (make_map (f := f) I.kIn M.makes M.init (beq_iff_eq.mp M.fn) ?_)
  refine codeAny_mono (F.run _ X.stack _ _ ⟨_, []⟩ _ _ _ (E σ) (hr.make C us []) (J.env0.make C us []) bound args asked) fun out s' ho => ?_
  match out, ho with
  | .error e, ho => exact hx pins _ _ e s' J ho
  | .ok (.ret u), ho =>
    obtain ⟨v, H', J', rel, hv, rest⟩ := J.after ho
    cases hv
    exact ⟨rel, .ref (s.heap.objs.size + 1), H', J', rfl, rest⟩
  | .ok .next, ho => exact ho.elim
  | .ok .brk, ho => exact ho.elim
  | .ok .cont, ho => exact ho.elim
theorem pe_xS (c : CalX X.prog X.w X.K X.mg X.base k x sp) (hr : Room j X.A) (hk : k ≤ j) (hg : Gl X x) (hx : ∀ σ, PassesAt (L2.CX X.prog X.w) X σ (E σ)) (ha : PA X (e :: es) t)
    (hdb : (x == ("__debug__" : Str)) = false := by decide) (he : starEach (e :: es) X.env = (false, eval e X.env) :: starEach es X.env := by rfl) (hpl : (backTo pos (starEach es X.env)).any (·.1) = false := by rfl) :
    PE X (.Call (.Name x p) (e :: es) [] pos) (tCallS sp E t) := by
  obtain ⟨f, fd, ps, F, hm, kp, b⟩ := c.ex
  exact pe_callS F (hr.mono hk) hg hm kp b hx ha hdb he hpl
theorem pe_xMk (c : MakX X.prog X.w X.K X.mg X.base k x C sp) (hr : Room j X.A) (hk : k + 1 ≤ j) (hg : Gl X x) (hx : ∀ σ, PassesAt (L2.CX X.prog X.w) X σ (E σ)) (ha : PA X (e :: es) t)
    (hdb : (x == ("__debug__" : Str)) = false := by decide) (he : starEach (e :: es) X.env = (false, eval e X.env) :: starEach es X.env := by rfl) (hpl : (backTo pos (starEach es X.env)).any (·.1) = false := by rfl) :
    PE X (.Call (.Name x p) (e :: es) [] pos) (tMakeE C sp E t) := by
  obtain ⟨f, fd, ps, M, F, hm, hb⟩ := c.ex
  refine ⟨fun pins s σ H Q I h => ?_⟩
  refine wpAny_Call_Name_kw (ld_glob I hg hm ?_ hdb)
  refine PySem.W.callWith_K (h₀ := X.base) I.ok.mod.kin M.kp (thn (ha.run pos pins s σ H _ I h) fun us s1 ⟨vs, H1, I1, r, q⟩ => ⟨I1.kIn, ?_⟩) he hpl
  exact run_makeS M F (hr.mono hk) hb (hx σ) I1 r q
theorem pe_xMt {pl : Sem Bool} (c : MetX X.prog X.w X.K X.mg X.base k C m sp) (hr : Room j X.A) (hk : k ≤ j) (hx : ∀ σ, PassesAt (L2.CX X.prog X.w) X σ (E σ)) (he : PE X o ta) (ha : PA X (e :: es) t)
    (hst : starEach (e :: es) X.env = (false, eval e X.env) :: starEach es X.env := by rfl) (hpl : (backTo pos (starEach es X.env)).any (·.1) = false := by rfl)
    (ht : eval (.Call (.Attribute o m apos) (e :: es) [] pos) X.env = (do
      let ov ← eval o X.env
      standAt apos.atName
      let (f, first) ← holding [ov] (getMethod ov m pl)
      callWith pos f first (backTo pos (starEach (e :: es) X.env)) (backToKw pos (keywordEach [] X.env))) := by rfl) :
    PE X (.Call (.Attribute o m apos) (e :: es) [] pos) (tMethE C m sp E ta t) := by
  obtain ⟨f, fd, ps, hc, hm, F, hb⟩ := c.ex
  refine ⟨fun pins s σ H Q I h => ?_⟩
  refine PySem.W.methodCall_KW (pl := pl) (thn (he.run pins s σ H _ I h) fun u s1 ⟨x, H1, I1, rx, a, dx, fs, ex, ea, l, q⟩ => ?_) ht
  subst ex
  obtain rfl : u = Value.ref a := rx
  refine getmeth_ok I1 ea hc hm l ?_
  refine PySem.W.callWith_K (first := [.ref a]) (h₀ := X.base) I.ok.mod.kin hm.kp (thn (ha.run pos pins s1 σ H1 _ I1 q) fun us s2 ⟨vs, H2, I2, r, q2⟩ => ⟨I2.kIn, ?_⟩) hst hpl
  exact run_fnS (us := .ref a :: us) (vs := .ref a :: vs) F (hr.mono hk) hb (hx σ) I2 (.cons rfl r) q2
theorem pe_xMt0 {pl : Sem Bool} (c : MetX X.prog X.w X.K X.mg X.base k C m sp) (hr : Room j X.A) (hk : k ≤ j) (hx : ∀ σ, PassesAt (L2.CX X.prog X.w) X σ (E σ)) (he : PE X o ta)
    (ht : eval (.Call (.Attribute o m apos) [] [] pos) X.env = (do
      let ov ← eval o X.env
      standAt apos.atName
      let (f, first) ← holding [ov] (getMethod ov m pl)
      callWith pos f first (backTo pos (starEach [] X.env)) (backToKw pos (keywordEach [] X.env))) := by rfl) :
    PE X (.Call (.Attribute o m apos) [] [] pos) (tMethE C m sp E ta tNil) := by
  obtain ⟨f, fd, ps, hc, hm, F, hb⟩ := c.ex
  refine ⟨fun pins s σ H Q I h => ?_⟩
  refine PySem.W.methodCall_KW (pl := pl) (thn (he.run pins s σ H _ I h) fun u s1 ⟨x, H1, I1, rx, a, dx, fs, ex, ea, l, q⟩ => ?_) ht
  subst ex
  obtain rfl : u = Value.ref a := rx
  refine getmeth_ok I1 ea hc hm l ?_
  exact PySem.W.callWith_K0 (first := [.ref a]) I1.kIn hm.kp (run_fnS (us := [.ref a]) (vs := [.ref a]) F (hr.mono hk) hb (hx σ) I1 (.cons rfl .nil) q)
end
/-- an own exception class that is raised; one that is caught -/
structure ExcAt (K : PySem.W.Frag) (C : Addr) : Prop where
  x : PySem.W.excIn K C [.type "ValueError", .type "Exception", .type "BaseException", .type "object"] "ValueError.__new__" = true
  k : PySem.W.keepIn K (.ref C) = true
  b : PySem.W.subIn K (.ref C) (.type "BaseException") = some true
  t : PySem.W.typeIn K (.ref C) = some (.type "type")
structure ExcK (K : PySem.W.Frag) (C : Addr) : Prop where
  b : PySem.W.subIn K (.ref C) (.type "BaseException") = some true
  i : PySem.W.isClsIn K C = true
  t : PySem.W.typeIn K (.ref C) = some (.type "type")
theorem ExcK.exm {K : PySem.W.Frag} {C D : Addr} {r : Bool} (c : ExcK K C) (h : PySem.W.subIn K (.ref D) (.ref C) = some r) : PySem.W.exmOne K (.ref D) (.ref C) = some r := by
  have e1 : (PySem.W.subIn K (.ref C) (.type "BaseException") == some true) = true := by rw [c.b] <;> rfl
  have e2 : ((PySem.W.clsIn K C).isSome && PySem.W.typeIn K (.ref C) == some (.type "type")) = true := by
    have h2' : (PySem.W.clsIn K C).isSome = true := c.i
    rw [h2', c.t] <;> rfl
  show (if (PySem.W.subIn K (.ref C) (.type "BaseException") == some true) = true then (if ((PySem.W.clsIn K C).isSome && PySem.W.typeIn K (.ref C) == some (.type "type")) = true then PySem.W.subIn K (.ref D) (.ref C) else none) else none) = some r
  rw [if_pos e1, if_pos e2]
  exact h
/-- C() -/
theorem pmk_own0 {X : Cx} {C : Addr} {x : Str} {p pos : Pos} (c : ExcAt X.K C) (gC : X.mg x = some (.ref C)) (hg : Gl X x) (hdb : (x == ("__debug__" : Str)) = false := by decide) :
    PMk X (.Call (.Name x p) [] [] pos) (fun _ H Q => Q (.ref C) none H) := by
  intro pins s σ H Q I h
  refine wpAny_Call_Name_kw (ld_glob I hg gC ?_ hdb)
  refine PySem.W.callWith_K0 I.kIn c.k ?_
  obtain ⟨bm, N, nm, qn, bs, hdct, sn, sub, ab, col, dd, k0, k1, k2, k3, k5, mN, hC, hN, hni, T⟩ := exc_obj I.kIn c.x
  refine wpAny_call_exc_subT PySem.F.excBase_ValueError T hC hN hni (fun h' e hm => ?_) (Nat.zero_le _)
  exact mk_of I hm (raises_own c.b c.t) h (I.hok.gone hm.new)
section
variable {K : PySem.W.Frag} {σ : L2.St} {H : Hp} {ta : TE} {tr : TA} {Q : VK} {E : L2.St → XK} {C : Addr} {m : Str} {sp : Sp}
theorem L_callS (h : tr σ H fun vs H1 => sp vs H1 Q (E σ)) : tCallS sp E tr σ H Q := h
theorem L_methE (h : ta σ H fun x H1 => ∃ a dx fs, x = .ref a ∧ H1 a = some (.ins C dx fs) ∧ fs.lookup m = none ∧ tr σ H1 fun vs H2 => sp (x :: vs) H2 Q (E σ)) : tMethE C m sp E ta tr σ H Q := h
theorem L_makeE (h : tr σ H fun vs H1 => MakeP C sp (E σ) vs H1 Q) : tMakeE C sp E tr σ H Q := h
theorem L_meth {E : XK} (h : ta σ H fun x H1 => ∃ a dx fs, x = .ref a ∧ H1 a = some (.ins C dx fs) ∧ fs.lookup m = none ∧ tr σ H1 fun vs H2 => sp (x :: vs) H2 Q E) : tMeth C m sp [] E ta tr σ H Q := by
  unfold tMeth
  simp only [List.append_nil]
  exact h
theorem L_methv {a dx : Addr} {fs : List (Str × V)} {R : Prop} (h : H a = some (.ins C dx fs)) (l : fs.lookup m = none) (q : R) : ∃ a' dx fs, V.ref a = V.ref a' ∧ H a' = some (.ins C dx fs) ∧ fs.lookup m = none ∧ R := ⟨a, dx, fs, rfl, h, l, q⟩
theorem L_only {c : Value} {ts : Addr → Value → Option Addr → TS} {Wout : WX} {D : Ends} {cls : Value} {d : Option Addr} (h : PySem.W.exmOne K cls c = some true) (q : ∀ a, H a = none → ts a cls d D σ H) : wOnly K c ts Wout D cls d σ H := ⟨true, h, fun _ => q, fun z => nomatch z⟩
end
/-- no whole number: another kind of thing, or a truth -/
def NotW (K : PySem.W.Frag) (H : Hp) (v : V) : Prop := (∃ b, v = .bl b) ∨ ∃ a, TyX K H v (.type a) ∧ kitB a "int" = some false
/-- what is_whole denies -/
def BadW (K : PySem.W.Frag) (H : Hp) (v : V) (lo hi : Int) : Prop := NotW K H v ∨ ∃ t, v = .int t ∧ ¬ (lo ≤ t ∧ t ≤ hi)
section
variable {K : PySem.W.Frag} {H : Hp}
theorem notw_non : NotW K H .non := .inr ⟨_, .base .non, by decide +kernel⟩
theorem notw_bl {b : Bool} : NotW K H (.bl b) := .inl ⟨b, rfl⟩
theorem notw_str {z : Str} : NotW K H (.str z) := .inr ⟨_, .base (.str z), by decide +kernel⟩
theorem notw_lst {a : Addr} {xs : List V} (h : H a = some (.lst xs)) : NotW K H (.ref a) := .inr ⟨_, .base (.lst h), by decide +kernel⟩
theorem notw_tup {a : Addr} {xs : List V} (h : H a = some (.tup xs)) : NotW K H (.ref a) := .inr ⟨_, .base (.tup h), by decide +kernel⟩
theorem notw_dK {a : Addr} {xs : List (Key × V)} (h : H a = some (.dK xs)) : NotW K H (.ref a) := .inr ⟨_, .base (.dK h), by decide +kernel⟩
theorem badw_int {t lo hi : Int} (h : ¬ (lo ≤ t ∧ t ≤ hi)) : BadW K H (.int t) lo hi := .inr ⟨t, rfl, h⟩
theorem NotW.bad {v : V} {lo hi : Int} (h : NotW K H v) : BadW K H v lo hi := .inl h
end
section
variable {K : PySem.W.Frag} {H H' : Hp}
theorem tyx_T {a : Addr} {xs : List V} (h : SqT K H a xs) : TyX K H (.ref a) (.type "tuple") := by
  rcases h with (h | ⟨o, h⟩) | ⟨o, _, _, h, c, _⟩
  · exact .base (.tup h)
  · exact .fTuple h
  · exact .kTuple h c
theorem tyx_L {a : Addr} {xs : List V} (h : SqL K H a xs) : TyX K H (.ref a) (.type "list") := by
  rcases h with (h | ⟨o, h⟩) | ⟨o, _, _, h, c, _⟩
  · exact .base (.lst h)
  · exact .base (.frz h)
  · exact .kList h c
variable {σ : L2.St} {Q : VK}
theorem L_sort2 {a : Addr} {x y : Int} (h : SqL K H a [V.int x, V.int y]) (q : ∀ p, H p = none → Q (.ref p) (upd H p (.lst [V.int (min x y), V.int (max x y)]))) : rSorted K [.ref a] H Q := by
  refine ⟨a, [x, y], rfl, h, by simp, fun ns p hp hs hn => ?_⟩
  have hl := hp.length_eq
  match ns, hl with
  | [u, v], _ =>
    have hle : u ≤ v := by simpa using hs
    have hm : (u = x ∧ v = y) ∨ (u = y ∧ v = x) := by
      have h1 : u ∈ [x, y] := hp.mem_iff.mp (by simp)
      have h2 : v ∈ [x, y] := hp.mem_iff.mp (by simp)
      have h3 : x ∈ [u, v] := hp.mem_iff.mpr (by simp)
      have h4 : y ∈ [u, v] := hp.mem_iff.mpr (by simp)
      simp only [List.mem_cons, List.not_mem_nil, or_false] at h1 h2 h3 h4
      rcases h1 with h1 | h1 <;> rcases h2 with h2 | h2 <;> rcases h3 with h3 | h3 <;> rcases h4 with h4 | h4 <;> omega
    have e : [u, v] = [min x y, max x y] := by
      rcases hm with ⟨rfl, rfl⟩ | ⟨rfl, rfl⟩
      · rw [Int.min_eq_left hle, Int.max_eq_right hle]
      · rw [Int.min_eq_right hle, Int.max_eq_left hle]
    rw [e]
    exact q p hn
theorem L_list1 {a : Addr} {xs : List V} (h : SqL K H a xs) (q : ∀ l, H l = none → Q (.ref l) (upd H l (.lst xs))) : aList1 K [.ref a] H Q := ⟨a, xs, rfl, .inl h, q⟩
theorem L_tuple1 {a : Addr} {xs : List V} (h : SqL K H a xs) (q : ∀ l, H l = none → Q (.ref l) (upd H l (.tup xs))) : aTuple1 K [.ref a] H Q := ⟨a, xs, rfl, .inl ⟨h, q⟩⟩
theorem eqv_same {d : PyData} (h : SeqAt.shaped d = true) : PyData.eqv d d = true := SeqAt.eqv_refl d (SeqAt.canLay_of_shaped h)
theorem L_eqR {x y : V} {d : PyData} (hx : Dp K H x d) (hy : Dp K H y d) (s : SeqAt.shaped d = true) (q : Q (.bl true) H) : aEq K x y H Q := L_eqD hx hy s s (by rw [eqv_same s]; exact q)
theorem L_neR {x y : V} {d : PyData} (hx : Dp K H x d) (hy : Dp K H y d) (s : SeqAt.shaped d = true) (q : Q (.bl false) H) : aNe K x y H Q := L_neD hx hy s s (by rw [eqv_same s]; exact q)
theorem L_zipA {a b : Addr} {xs ys : List V} {R : Addr → Addr → Prop} (h1 : SqL K H a xs) (h2 : SqL K H b ys) (q : R a b) : ∃ a' b' xs ys, [V.ref a, V.ref b] = [.ref a', .ref b'] ∧ SqL K H a' xs ∧ SqL K H b' ys ∧ R a' b' := ⟨a, b, xs, ys, rfl, h1, h2, q⟩
end
/-- data that == may be asked of, at most n deep -/
structure Shp (n : Nat) (d : PyData) : Prop where
  c : d.canLay0 = true
  d : d.depth ≤ n
theorem Shp.ok {n : Nat} {d : PyData} (h : Shp n d) (hn : n ≤ 64 := by decide) : SeqAt.shaped d = true := by
  unfold SeqAt.shaped
  rw [h.c, decide_eq_true (Nat.le_trans h.d hn)]; rfl
theorem shp_int {n : Nat} {i : Int} : Shp n (.int i) := ⟨by simp [PyData.canLay0], by simp [PyData.depth]⟩
theorem shp_bl {n : Nat} {i : Bool} : Shp n (.bool i) := ⟨by simp [PyData.canLay0], by simp [PyData.depth]⟩
theorem shp_non {n : Nat} : Shp n .none := ⟨by simp [PyData.canLay0], by simp [PyData.depth]⟩
theorem shp_str {n : Nat} {z : Str} (h : PyData.strOk z = true) : Shp n (.str z) := ⟨by simpa [PyData.canLay0] using h, by simp [PyData.depth]⟩
theorem shp_all {n : Nat} : ∀ {ds : List PyData}, (∀ d ∈ ds, Shp n d) → PyData.canLayAll0 ds = true ∧ PyData.depthAll ds ≤ n
  | [], _ => ⟨by simp [PyData.canLayAll0], by simp [PyData.depthAll]⟩
  | d :: ds, h => by
    have h1 := h d (List.mem_cons_self ..)
    have h2 := shp_all fun x hx => h x (List.mem_cons_of_mem _ hx)
    exact ⟨by simp [PyData.canLayAll0, h1.c, h2.1], by simp only [PyData.depthAll]; exact Nat.max_le.mpr ⟨h1.d, h2.2⟩⟩
theorem shp_lst {n : Nat} {ds : List PyData} (h : ∀ d ∈ ds, Shp n d) : Shp (n + 1) (.list ds) := ⟨by simp only [PyData.canLay0]; exact (shp_all h).1, by simp only [PyData.depth]; have := (shp_all h).2; omega⟩
theorem shp_tup {n : Nat} {ds : List PyData} (h : ∀ d ∈ ds, Shp n d) : Shp (n + 1) (.tuple ds) := ⟨by simp only [PyData.canLay0]; exact (shp_all h).1, by simp only [PyData.depth]; have := (shp_all h).2; omega⟩
theorem shp_nil {n : Nat} : ∀ d ∈ ([] : List PyData), Shp n d := fun _ h => nomatch h
theorem shp_cons {n : Nat} {d : PyData} {ds : List PyData} (h : Shp n d) (t : ∀ d ∈ ds, Shp n d) : ∀ x ∈ d :: ds, Shp n x := fun x hx => by
  rcases List.mem_cons.mp hx with rfl | hx
  · exact h
  · exact t x hx
theorem shp_map {n : Nat} {α : Type} {f : α → PyData} {l : List α} (h : ∀ a ∈ l, Shp n (f a)) : ∀ d ∈ l.map f, Shp n d := fun d hd => by
  obtain ⟨a, ha, rfl⟩ := List.mem_map.mp hd
  exact h a ha
theorem shp_ints {n : Nat} {l : List Int} : Shp (n + 1) (.list (l.map .int)) := shp_lst (shp_map fun _ _ => shp_int)
theorem _root_.L2.Dp.ints {K : PySem.W.Frag} {H : Hp} {a : Addr} {ns : List Int} (h : SqL K H a (ns.map V.int)) : Dp K H (.ref a) (.list (ns.map .int)) := .lst h (dp_ints ns)
section
variable {K : PySem.W.Frag} {H : Hp} {Q : VK}
theorem L_powE {i j n : Int} (h : CPow i j) (e : i ^ j.toNat = n) (q : Q (.int n) H) : rI CPow (fun i j => .int (i ^ j.toNat)) (.int i) (.int j) H Q := ⟨i, j, rfl, rfl, h, by subst e; exact q⟩
/-- one of some ints -/
theorem L_menu {ns : List Int} {p : Addr} {i : Int} (h : SqL K H p (ns.map V.int)) (h0 : 0 ≤ i) (h1 : i < ns.length) (q : ∀ v ∈ ns, Q (.int v) H) : rIx K (.ref p) (.int i) H Q := by
  have hl : i.toNat < ns.length := by omega
  refine L_ixL h (atI_ints h0 h1) (q _ ?_)
  rw [List.getD_eq_getElem?_getD, List.getElem?_eq_getElem hl]
  exact List.getElem_mem hl
/-- an item of a list of ints, some property of all its items kept -/
theorem L_ixP {ns : List Int} {p : Addr} {i : Int} {P : Int → Prop} (h : SqL K H p (ns.map V.int)) (hP : ∀ v ∈ ns, P v) (h0 : 0 ≤ i) (h1 : i < ns.length) (q : ∀ v, P v → Q (.int v) H) : rIx K (.ref p) (.int i) H Q :=
  L_menu h h0 h1 fun v hv => q v (hP v hv)
end
theorem cdiv_lit {i j : Int} (h : 0 < j ∧ j < 1000000000000) : CDivW i j := (bd_64 (by omega)).cdiv h.1
theorem cpow_lit {i j : Int} (h : 0 ≤ j ∧ j ≤ 1000 ∧ -1000000 < i ∧ i < 1000000) : CPow i j := by
  have e : (2 : Nat) ^ 64 = 18446744073709551616 := by decide
  exact ⟨h.1, by omega, by omega⟩
theorem same_newE {H Hn : Hp} {p : Addr} {o : HO} (e : upd H p o = Hn) (h : H p = none) : Same H Hn := e ▸ same_new h
theorem upd_at {H Hn : Hp} {p : Addr} {o : HO} (e : upd H p o = Hn) : Hn p = some o := e ▸ upd_same
section
variable {K : PySem.W.Frag} {H H' : Hp} {p q : Addr} {us xs : List V} {ds : List PyData} {d : PyData} {y : V} {o : HO}
/-- a list grows: its things stand apart from it -/
theorem dp_grow (hdp : DpAll K (rs (· ≠ p) H) us ds) (s : Same H H') (hy : Dp K (rs (· ≠ p) H') y d) : DpAll K (rs (· ≠ p) (upd H' p o)) (us ++ [y]) (ds ++ [d]) :=
  (hdp.same (rs_same fun a u na ha => ⟨na, by rw [upd_ne na]; exact s _ _ ha⟩)).snoc (hy.same (rs_same fun a u na ha => ⟨na, by rw [upd_ne na]; exact ha⟩))
theorem dp_tupN (h : H q = some (.tup xs)) (n : q ≠ p) (ha : DpAll K (rs (· ≠ p) H) xs ds) : Dp K (rs (· ≠ p) H) (.ref q) (.tuple ds) := .tup (.of (rs_at n h)) ha
theorem dp_lstN (h : H q = some (.lst xs)) (n : q ≠ p) (ha : DpAll K (rs (· ≠ p) H) xs ds) : Dp K (rs (· ≠ p) H) (.ref q) (.list ds) := .lst (.of (rs_at n h)) ha
/-- data that stood ahead of p -/
theorem dp_old {H0 : Hp} (h : Dp K H0 y d) (n : H0 p = none) (s : Same H0 H) : Dp K (rs (· ≠ p) H) y d := h.same (rs_all fun a u ha => ⟨fun z => (by rw [z, n] at ha; cases ha), s _ _ ha⟩)
theorem dpA_old {H0 : Hp} (h : DpAll K H0 us ds) (n : H0 p = none) (s : Same H0 H) : DpAll K (rs (· ≠ p) H) us ds := h.same (rs_all fun a u ha => ⟨fun z => (by rw [z, n] at ha; cases ha), s _ _ ha⟩)
theorem dp_whole (h : DpAll K (rs (· ≠ p) H) us ds) (e : H p = some (.lst us)) : Dp K H (.ref p) (.list ds) := .lst (.of e) (h.same rs_sub)
theorem ne_new (h : H p = none) (h' : ∃ o, H q = some o) : p ≠ q := fun z => by
  obtain ⟨o, e⟩ := h'
  rw [z, e] at h; cases h
end
theorem fm_get {α β : Type} (g : α → β) : ∀ (l : List α), (List.range l.length).filterMap (fun i => l[i]?.map g) = l.map g
  | [] => rfl
  | a :: l => by
    have ih := fm_get g l
    rw [List.length_cons, List.range_succ_eq_map]
    simp only [List.filterMap_cons, List.getElem?_cons_zero, Option.map_some, List.filterMap_map, Function.comp_def, List.getElem?_cons_succ, List.map_cons]
    rw [ih]
theorem sum_take {α : Type} {l : List α} {f : α → Int} {i : Nat} {x : α} (h : l[i]? = some x) : ((l.take (i + 1)).map f).sum = ((l.take i).map f).sum + f x := by
  rw [List.take_succ, h]
  simp
theorem sum_takeAll {α : Type} {l : List α} {f : α → Int} {n : Nat} (h : l.length ≤ n) : ((l.take n).map f).sum = (l.map f).sum := by rw [List.take_of_length_le h]
/-! ### loops, the ends told one by one -/
section
variable {K : PySem.W.Frag} {σ : L2.St} {H : Hp} {g : TG} {tb : TS} {N : L2.St → Hp → Prop} {R : VK}
/-- what a for asks behind its iterable -/
abbrev ForT (J : It) (σ : L2.St) (H : Hp) (g : TG) (tb : TS) (N : L2.St → Hp → Prop) (R : VK) : Prop :=
  ∃ W : Nat → Nat → L2.St → Hp → Prop, (∃ m, W 0 m σ H) ∧ ∀ i m σ H, W i m σ H →
      (J.stop i H ∧ N σ H) ∨ (J.go i H ∧ ∃ M : L2.St → Hp → Prop, (∀ σ' H', M σ' H' → ∃ m', m' < m ∧ W (i + 1) m' σ' H') ∧ ∀ x H', J.yld i H x H' → g x σ H' fun σ2 H2 => tb ⟨M, R, N, M⟩ σ2 H2)
theorem f_it {J : It} {n : Nat} {G : Hp → Prop} {Y : Nat → Hp → V → Hp → Prop} (w : L2.Walk J n G Y) (Pv : Nat → L2.St → Hp → Prop) (h0 : Pv 0 σ H) (hG : ∀ i σ H, i ≤ n → Pv i σ H → G H)
    (hs : ∀ i x σ H H', i < n → Pv i σ H → Y i H x H' → g x σ H' fun σ2 H2 => tb ⟨Pv (i + 1), R, N, Pv (i + 1)⟩ σ2 H2) (hd : ∀ σ H, Pv n σ H → N σ H) : ForT J σ H g tb N R :=
  for_it (D := ⟨N, R, N, N⟩) w Pv h0 hG hs hd
theorem f_range {lo : Int} {n : Nat} (Pv : Nat → L2.St → Hp → Prop) (h0 : Pv 0 σ H)
    (hs : ∀ i σ H, i < n → Pv i σ H → g (.int (lo + i)) σ H fun σ2 H2 => tb ⟨Pv (i + 1), R, N, Pv (i + 1)⟩ σ2 H2) (hd : ∀ σ H, Pv n σ H → N σ H) : ForT (Itr lo n) σ H g tb N R :=
  for_range (D := ⟨N, R, N, N⟩) Pv h0 hs hd
theorem f_rangeC {lo c : Int} {n : Nat} (Pv : Nat → L2.St → Hp → Prop) (h0 : Pv 0 σ H)
    (hs : ∀ i σ H, i < n → Pv i σ H → g (.int (lo + (i : Nat) * c)) σ H fun σ2 H2 => tb ⟨Pv (i + 1), R, N, Pv (i + 1)⟩ σ2 H2) (hd : ∀ σ H, Pv n σ H → N σ H) : ForT (Itc lo c n) σ H g tb N R :=
  for_rangeC (D := ⟨N, R, N, N⟩) Pv h0 hs hd
theorem f_dp {a : Addr} {ds : List PyData} (h : Dp K H (.ref a) (.list ds)) (Pv : Nat → L2.St → Hp → Prop) (h0 : Pv 0 σ H) (hG : ∀ i σ' H', i ≤ ds.length → Pv i σ' H' → Same H H')
    (hs : ∀ i d x σ' H', i < ds.length → ds[i]? = some d → Pv i σ' H' → Dp K H' x d → g x σ' H' fun σ2 H2 => tb ⟨Pv (i + 1), R, N, Pv (i + 1)⟩ σ2 H2) (hd : ∀ σ' H', Pv ds.length σ' H' → N σ' H') : ForT (Itl K a) σ H g tb N R :=
  for_dp (D := ⟨N, R, N, N⟩) h Pv h0 hG hs hd
end
section
variable {σ σ' : L2.St} {H : Hp} {i : Nat} {v x : V} {B C : L2.St → Hp → Prop} {N : L2.St → Hp → Prop} {R : VK} {te : TE}
theorem L_gnameE {Q : L2.St → Hp → Prop} (e : σ.set i (some v) = σ') (h : Q σ' H) : gName i v σ H Q := by subst e; exact h
end
section
variable {K : PySem.W.Frag} {H H' : Hp} {σ : L2.St} {Q : VK} {te : TE} {tl th : TO}
theorem TyX_same {v : V} {t : Value} (e : Same H H') (h : TyX K H v t) : TyX K H' v t := by
  cases h with
  | base h =>
    refine .base ?_
    cases h with
    | non => exact .non
    | bl x => exact .bl x
    | int x => exact .int x
    | str x => exact .str x
    | flt x => exact .flt x
    | lst h => exact .lst (e _ _ h)
    | frz h => exact .frz (e _ _ h)
    | tup h => exact .tup (e _ _ h)
    | dK h => exact .dK (e _ _ h)
    | dT h => exact .dT (e _ _ h)
    | ins h cl ha hn htk hm => exact .ins (e _ _ h) cl ha hn htk hm
  | byt b => exact .byt b
  | set h => exact .set (e _ _ h)
  | kList h c => exact .kList h c
  | kTuple h c => exact .kTuple h c
  | kDict h c => exact .kDict h c
  | fTuple h => exact .fTuple (e _ _ h)
  | fDict h => exact .fDict (e _ _ h)
theorem NotW.same {v : V} (h : NotW K H v) (e : Same H H') : NotW K H' v := by
  rcases h with h | ⟨a, h1, h2⟩
  · exact .inl h
  · exact .inr ⟨a, TyX_same e h1, h2⟩
theorem BadW.same {v : V} {lo hi : Int} (h : BadW K H v lo hi) (e : Same H H') : BadW K H' v lo hi := by
  rcases h with h | h
  · exact .inl (h.same e)
  · exact .inr h
theorem L_sl {r : V → Option Int → Option Int → Hp → VK → Prop} (h : te σ H fun x H1 => tl σ H1 fun l H2 => th σ H2 fun u H3 => r x l u H3 Q) : L2.tSl r te tl th σ H Q := h
theorem L_noPart {R : Option Int → Hp → Prop} (h : R none H) : tNoPart σ H R := h
theorem L_part {t : TE} {R : Option Int → Hp → Prop} (h : t σ H fun x H1 => ∃ i, x = .int i ∧ R (some i) H1) : tPart t σ H R := h
theorem L_ki {i : Int} {R : Int → Prop} (h : R i) : ∃ j, V.int i = V.int j ∧ R j := ⟨i, rfl, h⟩
theorem L_slL {a : Addr} {xs : List V} {lo hi : Option Int} (h : SqL K H a xs) (q : ∀ p, H p = none → Q (.ref p) (upd H p (.lst (cutV xs lo hi)))) : rSlL K (.ref a) lo hi H Q := ⟨a, xs, rfl, h, q⟩
end
def cutG {α : Type} (xs : List α) (lo hi : Option Int) : List α := (xs.drop (HT.sIx xs.length 0 lo)).take (HT.sIx xs.length xs.length hi - HT.sIx xs.length 0 lo)
theorem cutV_map {α : Type} (f : α → V) (xs : List α) (lo hi : Option Int) : cutV (xs.map f) lo hi = (cutG xs lo hi).map f := by
  unfold cutV cutG
  rw [List.length_map, List.map_take, List.map_drop]
theorem cutG_mem {α : Type} {xs : List α} {lo hi : Option Int} {x : α} (h : x ∈ cutG xs lo hi) : x ∈ xs := List.mem_of_mem_drop (List.mem_of_mem_take h)
theorem cutG_len {α : Type} (xs : List α) (lo hi : Option Int) : (cutG xs lo hi).length ≤ xs.length := by
  unfold cutG
  rw [List.length_take, List.length_drop]
  omega
section
variable {K : PySem.W.Frag} {H : Hp} {Q : VK}
/-- one of some things -/
theorem L_menuV {xs : List V} {p : Addr} {i : Int} (h : SqL K H p xs) (h0 : 0 ≤ i) (h1 : i < xs.length) (q : ∀ v ∈ xs, Q v H) : rIx K (.ref p) (.int i) H Q := by
  have hl : i.toNat < xs.length := by omega
  exact L_ixL h (atI_int h0 (List.getElem?_eq_getElem hl)) (q _ (List.getElem_mem hl))
end
theorem hpL {K : PySem.W.Frag} {H : Hp} {a : Addr} {xs : List V} (h : H a = some (.lst xs)) : SqL K H a xs := .of h
theorem hpT {K : PySem.W.Frag} {H : Hp} {a : Addr} {xs : List V} (h : H a = some (.tup xs)) : SqT K H a xs := .of h
theorem bd_mod {x n : Int} (h : 0 < n ∧ n < 18446744073709551616) : Bd 64 (x % n) := bd_64 (by
  have h1 := Int.emod_nonneg x (show n ≠ 0 by omega)
  have h2 := Int.emod_lt_of_pos x h.1
  omega)
theorem hp_from {H0 H : Hp} {p : Addr} {o : HO} (h : H0 p = some o) (e : Same H0 H) : H p = some o := e _ _ h
theorem same_via {H H1 H2 : Hp} (b : Same H1 H2) (a : Same H H1) : Same H H2 := a.trans b
theorem same_upd' {H H' : Hp} {a : Addr} {o : HO} (h : H' a = none) (e : Same H H') : Same H (upd H' a o) := same_upd e h
theorem same_mut' {H H' : Hp} {a : Addr} {o : HO} (h : H a = none) (e : Same H H') : Same H (upd H' a o) := same_mut e h
section
variable {K : PySem.W.Frag} {H : Hp} {σ : L2.St} {Q : VK}
theorem L_clear {a : Addr} {xs : List V} (h : H a = some (.lst xs)) (q : Q .non (upd H a (.lst []))) : rClear (.ref a) [] H Q := ⟨a, xs, rfl, rfl, h, q⟩
theorem L_dnew (h : ∀ p, H p = none → Q (.ref p) (upd H p (.dK []))) : tDNewK σ H Q := h
/-- no list -/
def NotL (K : PySem.W.Frag) (H : Hp) (v : V) : Prop := ∃ a, TyX K H v (.type a) ∧ kitB a "list" = some false
theorem notl_tup {a : Addr} {xs : List V} (h : SqT K H a xs) : NotL K H (.ref a) := ⟨_, tyx_T h, by decide +kernel⟩
theorem notl_non : NotL K H .non := ⟨_, .base .non, by decide +kernel⟩
theorem notl_int {i : Int} : NotL K H (.int i) := ⟨_, .base (.int i), by decide +kernel⟩
theorem notl_bl {i : Bool} : NotL K H (.bl i) := ⟨_, .base (.bl i), by decide +kernel⟩
theorem notl_str {i : Str} : NotL K H (.str i) := ⟨_, .base (.str i), by decide +kernel⟩
theorem notl_dK {a : Addr} {xs : List (Key × V)} (h : H a = some (.dK xs)) : NotL K H (.ref a) := ⟨_, .base (.dK h), by decide +kernel⟩
theorem NotL.same {H' : Hp} {v : V} (h : NotL K H v) (e : Same H H') : NotL K H' v := by
  obtain ⟨a, h1, h2⟩ := h
  exact ⟨a, TyX_same e h1, h2⟩
end
theorem rep1 (x : Int) : ∀ n : Nat, (List.replicate n [V.int x]).flatten = (List.replicate n x).map V.int
  | 0 => rfl
  | n + 1 => by rw [List.replicate_succ, List.flatten_cons, rep1 x n]; rfl
section
variable {K : PySem.W.Frag} {H : Hp} {Q : VK}
theorem L_neB {i j : Bool} (q : Q (.bl (!decide (i = j))) H) : aNe K (.bl i) (.bl j) H Q := .inl ⟨rfl, by rw [show decide (V.bl i = V.bl j) = decide (i = j) by simp]; exact q⟩
end
/-! ### for x in xs: check(x) -/
section
variable {K : PySem.W.Frag} {σ : L2.St} {H : Hp} {N : L2.St → Hp → Prop} {R : VK} {a : Addr} {xs : List V} {sp : Sp} {ES : L2.St → XK} {i : Nat} {c : Value}
theorem set_self (σ : L2.St) (i : Nat) (hi : i < σ.length) : ∃ v, σ = σ.set i v := ⟨σ[i], by simp⟩
theorem L_forChk (hL : SqL K H a xs) (hi : i < σ.length) (hok : ∀ x ∈ xs, ∀ Q E, Q .non H → sp [x] H Q E) (q : ∀ v, N (σ.set i v) H) : ForT (Itl K a) σ H (gName i) (tDrop (tCallS sp ES (tCons (tVar i) tNil))) N R := by
  refine f_it walk_list (fun _ σ' H' => H' = H ∧ ∃ v, σ' = σ.set i v) ⟨rfl, set_self σ i hi⟩ (fun _ _ _ _ p => p.1 ▸ hL) ?_ ?_
  · rintro j x σ' H' H'' hj ⟨rfl, v, rfl⟩ ⟨rfl, e⟩
    refine L_gname (L_drop (L_callS (L_cons (L_var (v := x) ?_ (L_nil (hok x (List.mem_of_getElem? e) _ _ ?_))))))
    · simp [hi]
    · exact ⟨rfl, some x, by rw [List.set_set]⟩
  · rintro σ' H' ⟨rfl, v, rfl⟩
    exact q v
theorem L_forChkX (hL : SqL K H a xs) (hi : i < σ.length) (hx : ∀ x ∈ xs, (∀ Q E, Q .non H → sp [x] H Q E) ∨ ∀ Q E, E c none H → sp [x] H Q E) (hb : ∃ x ∈ xs, ∀ Q E, E c none H → sp [x] H Q E) (q : ∀ v, ES (σ.set i v) c none H) :
    ForT (Itl K a) σ H (gName i) (tDrop (tCallS sp ES (tCons (tVar i) tNil))) N R := by
  obtain ⟨x0, hx0, hb0⟩ := hb
  obtain ⟨j0, hj0⟩ := List.mem_iff_getElem?.mp hx0
  refine f_it walk_list (fun j σ' H' => H' = H ∧ (∃ v, σ' = σ.set i v) ∧ ∃ k x, j ≤ k ∧ xs[k]? = some x ∧ ∀ Q E, E c none H → sp [x] H Q E) ⟨rfl, set_self σ i hi, j0, x0, Nat.zero_le _, hj0, hb0⟩ (fun _ _ _ _ p => p.1 ▸ hL) ?_ ?_
  · rintro j x σ' H' H'' hj ⟨rfl, ⟨v, rfl⟩, k, y, hk, hy, hby⟩ ⟨rfl, e⟩
    refine L_gname (L_drop (L_callS (L_cons (L_var (v := x) ?_ (L_nil ?_)))))
    · simp [hi]
    · by_cases hc : ∀ Q E, E c none H'' → sp [x] H'' Q E
      · exact hc _ _ (by rw [List.set_set]; exact q _)
      · refine (hx x (List.mem_of_getElem? e)).resolve_right hc _ _ ⟨rfl, ⟨some x, by rw [List.set_set]⟩, k, y, ?_, hy, hby⟩
        rcases Nat.lt_or_eq_of_le hk with hlt | rfl
        · exact hlt
        · rw [e] at hy
          cases hy
          exact absurd hby hc
  · rintro σ' H' ⟨rfl, ⟨v, rfl⟩, k, y, hk, hy, hby⟩
    have := (List.getElem?_eq_some_iff.mp hy).1
    omega
end
theorem L_bm0 {K : PySem.W.Frag} {σ : L2.St} {H : Hp} {Q : VK} {te : TE} {T : String} {r : V → List V → Hp → VK → Prop} (h : te σ H fun x H1 => tyV K T x H1 ∧ r x [] H1 Q) : tBM0 K T r te σ H Q := h
/-- what an expression's ways have in common -/
theorem L_via {P : VK → Prop} {Q : VK} (R : V → Hp → Prop) (key : ∀ Q : VK, (∀ v H', R v H' → Q v H') → P Q) (q : ∀ v H', R v H' → Q v H') : P Q := key Q q
section
variable {K : PySem.W.Frag} {H : Hp} {σ : L2.St} {Q : VK} {ta tb : TE}
theorem L_disp1 (h : ∀ p, H p = none → ta σ (upd H p (.dK [])) fun k H1 => tb σ H1 fun v H2 => H2 p = some (.dK []) ∧ ∃ kvs : List (Key × V), [(k, v)] = kvs.map (fun kv => (kV kv.1, kv.2)) ∧ kvs.length ≤ 15 ∧ Q (.ref p) (upd H2 p (.dK (mergeK [] kvs)))) : tDisp [(ta, tb)] σ H Q := h
theorem L_dispE1 {p : Addr} {k v : V} (kk : Key) (e : k = kV kk) (h : H p = some (.dK [])) (q : Q (.ref p) (upd H p (.dK [(kk, v)]))) : H p = some (.dK []) ∧ ∃ kvs : List (Key × V), [(k, v)] = kvs.map (fun kv => (kV kv.1, kv.2)) ∧ kvs.length ≤ 15 ∧ Q (.ref p) (upd H p (.dK (mergeK [] kvs))) :=
  ⟨h, [(kk, v)], by rw [e]; rfl, by simp, q⟩
/-- a sign of a text -/
theorem L_ixSany {z : Str} {i : Int} (hz : z.length ≤ 1000000) (h0 : 0 ≤ i) (h1 : i < z.length) (q : ∀ a ∈ z.cps.toList, Q (.str ⟨#[a]⟩) H) : rIx K (.str z) (.int i) H Q := by
  have hl : i.toNat < z.cps.toList.length := by
    have e : z.cps.toList.length = z.length := by rw [Array.length_toList]; rfl
    omega
  have h3 : z.cps.toList[i.toNat]? = some z.cps.toList[i.toNat] := List.getElem?_eq_getElem hl
  refine L_ixS (sz_dec hz) (a := z.cps.toList[i.toNat]) ?_ (q _ (List.getElem_mem hl))
  obtain ⟨j, rfl⟩ : ∃ j : Nat, i = (j : Int) := ⟨i.toNat, by omega⟩
  exact atI_nat h3
theorem L_inR {i lo hi : Int} {a : Addr} (h : H a = some (.rng lo hi)) (q : Q (.bl (decide (lo ≤ i ∧ i < hi))) H) : (∃ i' a' lo hi, V.int i = V.int i' ∧ V.ref a = V.ref a' ∧ H a' = some (.rng lo hi) ∧ Q (.bl (decide (lo ≤ i' ∧ i' < hi))) H) := ⟨i, a, lo, hi, rfl, rfl, h, q⟩
theorem L_rng2 {i j : Int} (q : ∀ p, H p = none → Q (.ref p) (upd H p (.rng i j))) : (∃ i' j', [V.int i, V.int j] = [V.int i', V.int j'] ∧ ∀ p, H p = none → Q (.ref p) (upd H p (.rng i' j'))) := ⟨i, j, rfl, q⟩
/-- no text -/
def NotS (K : PySem.W.Frag) (H : Hp) (v : V) : Prop := ∃ a, TyX K H v (.type a) ∧ kitB a "str" = some false
theorem nots_tup {a : Addr} {xs : List V} (h : SqT K H a xs) : NotS K H (.ref a) := ⟨_, tyx_T h, by decide +kernel⟩
theorem nots_lst {a : Addr} {xs : List V} (h : SqL K H a xs) : NotS K H (.ref a) := ⟨_, tyx_L h, by decide +kernel⟩
theorem nots_non : NotS K H .non := ⟨_, .base .non, by decide +kernel⟩
theorem nots_int {i : Int} : NotS K H (.int i) := ⟨_, .base (.int i), by decide +kernel⟩
theorem nots_bl {i : Bool} : NotS K H (.bl i) := ⟨_, .base (.bl i), by decide +kernel⟩
theorem nots_dK {a : Addr} {xs : List (Key × V)} (h : H a = some (.dK xs)) : NotS K H (.ref a) := ⟨_, .base (.dK h), by decide +kernel⟩
theorem NotS.same {H' : Hp} {v : V} (h : NotS K H v) (e : Same H H') : NotS K H' v := by
  obtain ⟨a, h1, h2⟩ := h
  exact ⟨a, TyX_same e h1, h2⟩
end
theorem len1 (a : Nat) : (⟨#[a]⟩ : Str).length = 1 := rfl
theorem str_len_append (a b : Str) : (a ++ b).length = a.length + b.length := Array.size_append
theorem str_len {z : Str} : z.cps.toList.length = z.length := by rw [Array.length_toList]; rfl
theorem one_lt {c d : Nat} : ([c] : List Nat) < [d] ↔ c < d := by
  rw [List.cons_lt_cons_iff]
  constructor
  · rintro (h | ⟨_, h⟩)
    · exact h
    · exact absurd h (List.not_lt_nil _)
  · exact .inl
theorem str_app_list (a b : Str) : (a ++ b).cps.toList = a.cps.toList ++ b.cps.toList := Array.toList_append
theorem eqv_nil {ds : List PyData} : PyData.eqv (.list ds) (.list []) = ds.isEmpty := by
  cases ds <;> simp [PyData.eqv, PyData.eqvAll]
theorem strOk_of {z : Str} (h : ∀ c ∈ z.cps.toList, c < 1114112) : PyData.strOk z = true := by
  show (z.cps.all (· < 0x110000)) = true
  rw [← Array.all_toList, List.all_eq_true]
  intro c hc
  exact decide_eq_true (h c hc)
theorem L_nnT {A B : Prop} (a : A) : if (!!true) = true then A else B := L_T a
theorem L_nnF {A B : Prop} (b : B) : if (!!false) = true then A else B := L_F b
theorem bd_128 {i : Int} (h : -340282366920938463463374607431768211456 < i ∧ i < 340282366920938463463374607431768211456) : Bd 128 i := by
  unfold Bd
  have : (2 : Nat) ^ 128 = 340282366920938463463374607431768211456 := by decide
  omega
/-! ### an exception that was caught, held by a name beyond the clause -/
/-- an exception of the class cls at a, its own dict d -/
def ExI (cls : Value) (d : Option Addr) (a : Addr) : HO := .ext fun h => ∃ (oe : Obj) (vs : Array Value), h.get? a = some oe ∧ Zc cls d oe ∧ oe.data = .fields vs
section
variable {X : Cx} {pins : List (Addr × Obj)} {σ : L2.St} {H : Hp} {s : Shared}
theorem track {a : Addr} {d : Option Addr} {cls : Value} {oe : Obj} {vs : Array Value} (I : Inv X pins σ H s) (na : H a = none) (he : s.heap.get? a = some oe) (z : Zc cls d oe) (hd : oe.data = .fields vs) (n0 : X.s_0.heap.get? a = none)
    (nL : a ≠ X.env.locals) (np : ∀ p ∈ X.pn ++ pins, p.1 ≠ a) : Inv X pins σ (upd H a (ExI cls d a)) s where
  ok := I.ok
  os := I.os
  bare := I.bare
  base := {
    keep := I.base.keep
    slot := I.base.slot
    free := fun b o e n hx => by
      rw [upd_ne (fun z => by rw [z, n0] at e; cases e)]
      exact I.base.free b o e n hx
    there := I.base.there
    tups := fun b xs q => by
      have t := I.base.tups b xs q
      rw [upd_ne (ne_of_none t na)]; exact t
    frzs := fun b o u q => by
      have t := I.base.frzs b o u q
      rw [upd_ne (ne_of_none t na)]; exact t
    tbls := fun b ps q => by
      obtain ⟨more, t⟩ := I.base.tbls b ps q
      exact ⟨more, by rw [upd_ne (ne_of_none t na)]; exact t⟩ }
  loc := I.loc
  cell := I.cell
  free := by rw [upd_ne nL.symm]; exact I.free
  freeC := fun x c e => by
    obtain ⟨v, o, ho, hc⟩ := I.cell x c e
    rw [upd_ne (fun z => by rw [z, he] at ho; cases ho; rw [hd] at hc; cases hc)]
    exact I.freeC x c e
  pin := fun p hp => by
    obtain ⟨h1, h2, h3⟩ := I.pin p hp
    exact ⟨h1, by rw [upd_ne (np p hp)]; exact h2, h3⟩
  hok := fun b o e => by
    by_cases hb : b = a
    · cases hb
      rw [upd_same] at e
      cases e
      exact ⟨⟨oe, vs, he, z, hd⟩, ⟨oe, he⟩, fun _ _ ⟨o1, v1, q, r⟩ k => ⟨o1, v1, k o1 q, r⟩⟩
    · rw [upd_ne hb] at e
      exact (I.hok b o e).stay (fun _ _ _ q => q) (fun c q => by rw [upd_ne (ne_of_none q na)]; exact q) fun c xs q => by rw [upd_ne (ne_of_none q na)]; exact q
  len := I.len
end
/-- what 'except x as n' wishes of an exception, which is tracked behind the suite -/
def wAsT (K : PySem.W.Frag) (c : Value) (i : Nat) (ts : Addr → Value → Option Addr → TS) (Wout : WX) (D : Ends) : WX := fun cls d σ H =>
  ∃ b, PySem.W.exmOne K cls c = some b ∧
    (b = true → ∀ a, H a = none → ts a cls d ⟨fun σ' H' => H' a = none → D.nx (σ'.set i none) (upd H' a (ExI cls d a)), D.rt, fun σ' H' => D.bk (σ'.set i none) H', fun σ' H' => D.ct (σ'.set i none) H'⟩ (σ.set i (some (.ref a))) H) ∧
    (b = false → Wout cls d σ H)
section
variable {X : Cx} {x n : Str} {c : Value} {i : Nat} {body suite : List Stmt} {b₀ : Stmt} {np pos pos' : Pos} {tb : WX → TS} {ts : Addr → Value → Option Addr → TS} {Wout : WX}
theorem ps_try_asT (hs : X.stack = X.env :: X.outer) (hf : X.env.frame = some X.env.locals) (hN : X.N.Nodup) (hi : X.N[i]? = some n) (hln : X.env.kindOf n = some .local) (hex : X.ex = []) (hc : Names X x c) (tk : Takes X Wout)
    (hb : ∀ (W : WX) (pn : List (Addr × Obj)) (xe : Value → Shared → Prop), Takes (X.tr pn xe) W → PassesOwn (model X.prog X.w) X.A X.env xe → PSs (X.tr pn xe) body (tb W))
    (hsu : ∀ (a : Addr) (oe : Obj) (cls : Value) (d : Option Addr) (pn : List (Addr × Obj)), Zc cls d oe → (∃ vs, oe.data = .fields vs) → PSs (X.suite a ((a, oe) :: pn)) (b₀ :: suite) (ts a cls d)) :
    PS X (.Try body [.ExceptHandler (some (.Name x np)) (some n) (b₀ :: suite) pos'] [] [] pos) (fun D σ H => tb (wAsT X.K c i ts Wout D) D σ H) := by
  constructor
  intro pins s0 σ0 H0 D I0 start
  have okX := I0.ok
  have frames : X.A.frames = some (X.env :: X.outer) := by
    rw [okX.frames, hs]
  apply wpAny_Try_except
  -- what is raised in the body is looked at by the clause
  let look : Value → Shared → Prop := fun e t1 => wpAny (model X.prog X.w) X.A (noteFrame e X.env) (fun _ t2 => wpAny (model X.prog X.w) X.A (setFlight e none)
    (fun _ t3 => wpAny (model X.prog X.w) X.A (handleBy e X.env [.ExceptHandler (some (.Name x np)) (some n) (b₀ :: suite) pos']) (SP X pins D) X.xe t3) X.xe t2) X.xe t1
  have caught : Takes (X.tr (X.pn ++ pins) look) (wAsT X.K c i ts Wout D) := by
    intro u s' air
    obtain ⟨a, B, sI, pins', σ', H', cls, d, rfl, K', nb, up, sky, na, os, ag, b, exm, yes, no⟩ := air
    have K0 : Inv X pins σ' H' sI := K'.ofTry okX
    have sky1 : Sky B (X.env :: X.outer) a (Zc cls d) X.env.locals s'.heap := hs ▸ sky
    show wpAny (model X.prog X.w) X.A (noteFrame (.ref a) X.env) _ _ _
    apply Sky.land Zc.steady frames hf sky1
    intro h3 fl3 up3
    have J3 : Inv X pins σ' H' { s' with heap := h3 } := K0.landed nb fl3.1 (up.trans up3) os ag
    obtain ⟨oe3, vs3, at3, z3, data3⟩ := fl3.there
    have offFrames : a ∉ frs (X.env :: X.outer) := fun hm => by
      obtain ⟨_, o', there', hnf⟩ := fl3.2.2.1.mem hm
      rw [at3] at there'
      cases there'
      exact hnf _ data3
    have nL : a ≠ X.env.locals := fun e => offFrames (List.mem_filterMap.mpr ⟨X.env, List.mem_cons_self, by rw [hf, e]⟩)
    have nF : a ∉ X.fs := fun hm => by
      obtain ⟨e, he, q⟩ := List.mem_filterMap.mp hm
      exact offFrames (List.mem_filterMap.mpr ⟨e, List.mem_cons_of_mem _ he, q⟩)
    -- a is new: it stood neither at the try's entry nor at the def's
    have newB : B.get? a = none := fl3.2.1
    have newI : sI.heap.get? a = none := by
      cases q : sI.heap.get? a with
      | none => rfl
      | some o =>
        have := nb a o q (by rw [hs]; exact offFrames)
        rw [newB] at this
        cases this
    have new0 : X.s_0.heap.get? a = none := by
      cases q : X.s_0.heap.get? a with
      | none => rfl
      | some o =>
        obtain ⟨o', q'⟩ := K0.base.there a o q (by rw [hex]; exact List.not_mem_nil)
        rw [newI] at q'
        cases q'
    have apart : ∀ p ∈ X.pn ++ pins, p.1 ≠ a := fun p hp e => by
      have := (K0.pin p hp).1
      rw [e, newI] at this
      cases this
    have S3 := J3.suite at3 data3 na nL nF
    apply wpAny_handleBy_cons _ (by intro q; cases q)
    apply codeAny_handlers_test
    have tyA : PySem.W.Looks (model X.prog X.w) h3 (typeOf (.ref a)) cls := fun A Q E t k q => wpAny_typeOf_ref (k _ _ at3) (by rw [z3.1]; exact q)
    have matched := PySem.W.exm_one (M := model X.prog X.w) (J3.kIn) tyA exm
    have named : ∀ {Q : Value → Shared → Prop} {E : Value → Shared → Prop}, Q c { s' with heap := h3 } → wpAny (model X.prog X.w) (X.A.mark (some (.ref a))) (eval (.Name x np) X.env) Q E { s' with heap := h3 } := by
      intro Q E q
      obtain ⟨hg, hdbg, hm⟩ := hc
      rcases hm with hm | ⟨hm, hv, hnn⟩
      · exact ld_glob (X := X.suite a ((a, oe3) :: (X.pn ++ pins))) S3 hg hm q hdbg
      · exact ld_blt (X := X.suite a ((a, oe3) :: (X.pn ++ pins))) S3 hg hm hv q hnn hdbg
    apply named
    apply matched.here
    cases b with
    | true =>
      apply codeAny_handlers_suite_as
      apply HandSPX.lands_againZ fl3
      intro h4 fl4 up4
      have J4 : Inv X pins σ' H' { s' with heap := h4 } := K0.landed nb fl4.1 ((up.trans up3).trans up4) os ag
      obtain ⟨oe4, vs4, at4, z4, data4⟩ := fl4.there
      have S4 := J4.suite at4 data4 na nL nF
      refine store_ok (X := X.suite a ((a, oe4) :: (X.pn ++ pins))) (v := .ref a) S4 hN hi (.inl hln) rfl (fun s5 S5 => ?_) (.inr hln)
      refine wpAny_mono ((hsu a oe4 cls d (X.pn ++ pins) z4 ⟨_, data4⟩).run [] s5 _ H' _ S5 (yes rfl a na)) (fun f s6 hsp => ?_) (fun _ _ z => z.elim)
      -- out of the suite, the exception still pinned
      have out : ∀ {σ6 : L2.St} {H6 : Hp} {Q : Shared → Prop}, Inv (X.suite a ((a, oe4) :: (X.pn ++ pins))) [] σ6 H6 s6 → (∀ s7, Inv X pins (σ6.set i none) H6 s7 → H6 a = none → s7.heap.get? a = some oe4 → Q s7) →
          wpAny (model X.prog X.w) X.A (do bindName X.env n .none; unbindBehindTheSuite X.env n pos') (fun _ s7 => Q s7) X.xe s6 := fun {σ6 H6 Q} S6 hq => by
        have P6 : Inv X ((a, oe4) :: pins) σ6 H6 s6 := { S6.unsuite okX with
          pin := fun p hp => S6.pin p (by
            rcases List.mem_append.mp hp with hp | hp
            · exact List.mem_append_left _ (List.mem_cons_of_mem _ (List.mem_append_left _ hp))
            · rcases List.mem_cons.mp hp with e | hp
              · rw [e]; exact List.mem_append_left _ List.mem_cons_self
              · exact List.mem_append_left _ (List.mem_cons_of_mem _ (List.mem_append_right _ hp))) }
        refine gone_ok P6 hN hi hln fun s7 P7 => ?_
        have pinned := P7.pin (a, oe4) (List.mem_append_right _ List.mem_cons_self)
        refine hq s7 { P7 with pin := fun p hp => P7.pin p ?_ } pinned.2.1 pinned.1
        rcases List.mem_append.mp hp with hp | hp
        · exact List.mem_append_left _ hp
        · exact List.mem_append_right _ (List.mem_cons_of_mem _ hp)
      match f, hsp with
      | .next, ⟨σ6, H6, S6, q6⟩ => exact out S6 fun s7 J7 n6 a6 => ⟨_, _, track J7 n6 a6 z4 data4 new0 nL apart, q6 n6⟩
      | .brk, ⟨σ6, H6, S6, q6⟩ => exact out S6 fun s7 J7 _ _ => ⟨_, _, J7, q6⟩
      | .cont, ⟨σ6, H6, S6, q6⟩ => exact out S6 fun s7 J7 _ _ => ⟨_, _, J7, q6⟩
      | .ret u, ⟨v6, σ6, H6, S6, r6, q6⟩ => exact out S6 fun s7 J7 _ _ => ⟨_, _, _, J7, r6, q6⟩
    | false =>
      show wpAny _ X.A (handleBy (.ref a) X.env []) _ _ _
      apply wpAny_handleBy_nil
      obtain ⟨_, _, _, oe, vs, T, oT, ts', he, hz, hd, h1, hr⟩ := id fl3
      unfold PySem.passOn
      refine wpAny_bind (wpAny_field he hd h1 ?_)
      rw [if_neg (show ¬ ((Value.ref T == Value.none) = true) from by simp)]
      have on : wpAny (model X.prog X.w) X.A (setFlight (.ref a) X.env.frame) (fun _ s4 => wpAny (model X.prog X.w) X.A (throw (.ref a) : Sem Flow) (SP X pins D) X.xe s4) X.xe { s' with heap := h3 } := by
        rw [hf]
        apply HandSPX.setFlight_upZ fl3
        intro h4 held4 up4
        apply wpAny_throw
        apply tk
        exact ⟨a, B, sI, pins, σ', H', cls, d, rfl, K0, nb, (up.trans up3).trans up4, .inr (.inr (by rw [hs]; exact held4)), na, os, ag, no rfl⟩
      first
        | exact wpAny_bind (wpAny_pure (wpAny_bind on))
        | exact wpAny_bind on
  refine wpAny_mono ((hb (wAsT X.K c i ts Wout D) (X.pn ++ pins) look caught PassesOwn.looking).run [] s0 σ0 H0 D (I0.toTry _) start) (fun f s1 hsp => ?_) (fun e s1 he => he)
  match f, hsp with
  | .next, ⟨σ1, H1, J1, q⟩ => exact wpAny_execs_nil ⟨σ1, H1, J1.ofTry okX, q⟩
  | .brk, ⟨σ1, H1, J1, q⟩ => exact ⟨σ1, H1, J1.ofTry okX, q⟩
  | .cont, ⟨σ1, H1, J1, q⟩ => exact ⟨σ1, H1, J1.ofTry okX, q⟩
  | .ret u, ⟨v, σ1, H1, J1, r, q⟩ => exact ⟨v, σ1, H1, J1.ofTry okX, r, q⟩
end
/-- isinstance of a caught exception that a name holds -/
def rIsX (K : PySem.W.Frag) : List V → Hp → VK → Prop := fun xs H Q => ∃ (a D : Addr) (c : V) (u : Value) (b : Bool), xs = [.ref a, c] ∧ H a = some (ExI (.ref D) none a) ∧ L2.ExcC K D ∧ ClsV c u ∧ PySem.W.kitOne K (.ref D) u = some b ∧ Q (.bl b) H
def rIsXT (K : PySem.W.Frag) : List V → Hp → VK → Prop := fun xs H Q => ∃ (a D tp : Addr) (cs : List V) (us : List Value) (b : Bool), xs = [.ref a, .ref tp] ∧ H a = some (ExI (.ref D) none a) ∧ L2.ExcC K D ∧ H tp = some (.tup cs) ∧ Paired ClsV cs us ∧ PySem.W.kitAny K (.ref D) us = some b ∧ Q (.bl b) H
section
variable {X : Cx} {pins : List (Addr × Obj)} {σ : L2.St} {H : Hp} {s : Shared}
theorem exI_at {a D : Addr} (I : Inv X pins σ H s) (h : H a = some (ExI (.ref D) none a)) : ∃ oe, PySem.W.InstAt s.heap a oe D none := by
  obtain ⟨⟨oe, vs, q1, ⟨q2, q3⟩, q4⟩, _⟩ := I.hok a _ h
  obtain ⟨oc, od, oda, osl⟩ := oe
  dsimp only at q2 q3 q4
  subst q2 q3 q4
  exact ⟨_, q1, rfl, rfl, trivial⟩
theorem call_isX : CallR X (.builtin "isinstance") (rIsX X.K) := by
  intro pins s σ H xs us Q I r h
  obtain ⟨a, D, c, u, b, rfl, hx, C, k, e, q⟩ := h
  obtain ⟨u1, u2, rfl, r1, r2⟩ := vals2 r
  cases r1
  cases k.eq r2
  obtain ⟨oe, J⟩ := exI_at I hx
  exact PySem.W.kia_one (PySem.W.handS_kitx_exc C.hg C.hk C.hs C.hd C.ha C.hn C.ht C.hm) I.kIn J e (fun z => nomatch z) fun tk => ⟨.bl b, H, I.tok tk, rfl, q⟩
theorem call_isXT : CallR X (.builtin "isinstance") (rIsXT X.K) := by
  intro pins s σ H xs us Q I r h
  obtain ⟨a, D, tp, cs, ws, b, rfl, hx, C, hT, k, e, q⟩ := h
  obtain ⟨u1, u2, rfl, r1, r2⟩ := vals2 r
  cases r1
  cases (show u2 = Value.ref tp from r2)
  obtain ⟨oe, J⟩ := exI_at I hx
  obtain ⟨_, its, rv, o, h1, h2, n, h3⟩ := (show ObjOk X.prog X.w H s.heap tp (.tup cs) from I.hok tp _ hT)
  have e3 := ClsV.all k rv
  subst e3
  obtain ⟨oc, od, dt, sl⟩ := o
  simp only at h2 h3
  subst h2 h3
  exact PySem.W.kia_tup (PySem.W.handS_kitx_exc C.hg C.hk C.hs C.hd C.ha C.hn C.ht C.hm) I.kIn J h1 e (fun z => nomatch z) fun tk => ⟨.bl b, H, I.tok tk, rfl, q⟩
end
section
variable {K : PySem.W.Frag} {H : Hp} {Q : VK} {C D : Addr} {b : Bool}
theorem kit_ref (hD : PySem.W.subIn K (.ref D) (.ref D) = some true) (k : ExcK K C) (h : PySem.W.subIn K (.ref D) (.ref C) = some b) : PySem.W.kitOne K (.ref D) (.ref C) = some b := by
  unfold PySem.W.kitOne
  by_cases e : D = C
  · subst e
    rw [hD] at h
    cases h
    rw [if_pos (by simp)]
  · rw [if_neg (by simpa using e)]
    have h2 : (PySem.W.clsIn K C).isSome = true := k.i
    show (if ((PySem.W.clsIn K C).isSome && PySem.W.typeIn K (.ref C) == some (.type "type")) = true then PySem.W.subIn K (.ref D) (.ref C) else none) = some b
    rw [if_pos (by rw [h2, k.t]; rfl)]
    exact h
theorem kit_typ {T : String} (hm : PySem.W.kitMeta T = true) (h : PySem.W.subIn K (.ref D) (.type T) = some b) : PySem.W.kitOne K (.ref D) (.type T) = some b := by
  unfold PySem.W.kitOne
  rw [if_neg (by simp)]
  show (if PySem.W.kitMeta T = true then PySem.W.subIn K (.ref D) (.type T) else none) = some b
  rw [if_pos hm]
  exact h
theorem L_isX {a : Addr} {c : V} {u : Value} (h : H a = some (ExI (.ref D) none a)) (C : L2.ExcC K D) (k : ClsV c u) (e : PySem.W.kitOne K (.ref D) u = some b) (q : Q (.bl b) H) : rIsX K [.ref a, c] H Q := ⟨a, D, c, u, b, rfl, h, C, k, e, q⟩
theorem L_isXT {a tp : Addr} {cs : List V} {us : List Value} (h : H a = some (ExI (.ref D) none a)) (C : L2.ExcC K D) (hT : H tp = some (.tup cs)) (k : Paired ClsV cs us) (e : PySem.W.kitAny K (.ref D) us = some b) (q : Q (.bl b) H) : rIsXT K [.ref a, .ref tp] H Q := ⟨a, D, tp, cs, us, b, rfl, h, C, hT, k, e, q⟩
theorem kit_none : ∀ {us : List Value}, (∀ u ∈ us, PySem.W.kitOne K (.ref D) u = some false) → PySem.W.kitAny K (.ref D) us = some false
  | [], _ => rfl
  | u :: us, h => by
    unfold PySem.W.kitAny
    rw [h u (List.mem_cons_self ..)]
    exact kit_none fun x hx => h x (List.mem_cons_of_mem _ hx)
theorem L_asT {c : Value} {i : Nat} {ts : Addr → Value → Option Addr → TS} {Wout : WX} {D : Ends} {σ : L2.St} {cls : Value} {d : Option Addr} (h : PySem.W.exmOne K cls c = some true)
    (q : ∀ a, H a = none → ts a cls d ⟨fun σ' H' => H' a = none → D.nx (σ'.set i none) (upd H' a (ExI cls d a)), D.rt, fun σ' H' => D.bk (σ'.set i none) H', fun σ' H' => D.ct (σ'.set i none) H'⟩ (σ.set i (some (.ref a))) H) : wAsT K c i ts Wout D cls d σ H :=
  ⟨true, h, fun _ => q, fun z => nomatch z⟩
end
/-! ### lists of numbers, and what is none -/
def BadNs (K : PySem.W.Frag) (H : Hp) (v : V) (lo hi : Int) : Prop := NotL K H v ∨ ∃ a xs, v = .ref a ∧ SqL K H a xs ∧ (24 < xs.length ∨ ((∀ x ∈ xs, (∃ t, x = .int t ∧ lo ≤ t ∧ t ≤ hi) ∨ BadW K H x lo hi) ∧ ∃ x ∈ xs, BadW K H x lo hi))
def GoodNs (K : PySem.W.Frag) (H : Hp) (v : V) (ts : List Int) (lo hi : Int) : Prop := ∃ a, v = .ref a ∧ SqL K H a (ts.map V.int) ∧ ts.length ≤ 24 ∧ ∀ t ∈ ts, lo ≤ t ∧ t ≤ hi
section
variable {K : PySem.W.Frag} {H H' : Hp} {v : V} {lo hi : Int} {ts : List Int}
theorem BadNs.same (h : BadNs K H v lo hi) (e : Same H H') : BadNs K H' v lo hi := by
  rcases h with h | ⟨a, xs, h1, h2, h3⟩
  · exact .inl (h.same e)
  · refine .inr ⟨a, xs, h1, e.seq h2, ?_⟩
    rcases h3 with h3 | ⟨h3, x, h4, h5⟩
    · exact .inl h3
    · exact .inr ⟨fun x hx => (h3 x hx).imp id fun b => b.same e, x, h4, h5.same e⟩
theorem GoodNs.same (h : GoodNs K H v ts lo hi) (e : Same H H') : GoodNs K H' v ts lo hi := by
  obtain ⟨a, h1, h2, h3, h4⟩ := h
  exact ⟨a, h1, e.seq h2, h3, h4⟩
theorem bad_one {a : Addr} {x : V} (h : H a = some (.lst [x])) (b : BadW K H x lo hi) : BadNs K H (.ref a) lo hi := .inr ⟨a, _, rfl, .of h, .inr ⟨fun y hy => by rw [List.mem_singleton.mp hy]; exact .inr b, x, List.mem_singleton.mpr rfl, b⟩⟩
theorem good_ns {a : Addr} (h : H a = some (.lst (ts.map V.int))) (hl : ts.length ≤ 24) (hb : ∀ t ∈ ts, lo ≤ t ∧ t ≤ hi) : GoodNs K H (.ref a) ts lo hi := ⟨a, rfl, .of h, hl, hb⟩
theorem int_of_mem {x : V} (h : x ∈ ts.map V.int) : ∃ t ∈ ts, x = .int t := by
  obtain ⟨t, h1, h2⟩ := List.mem_map.mp h
  exact ⟨t, h1, h2.symm⟩
theorem getD_of {i : Nat} {t : Int} (h : ts[i]? = some t) : ts.getD i 0 = t := by rw [List.getD_eq_getElem?_getD, h]; rfl
theorem fm_int {f : Nat → Option Int} {n : Nat} : (List.range n).filterMap (fun i => (f i).map V.int) = ((List.range n).filterMap f).map V.int := by
  rw [List.map_filterMap]
end
/-- pairs of ints as data -/
def d2 (r : Int × Int) : PyData := .tuple [.int r.1, .int r.2]
section
variable {K : PySem.W.Frag} {H : Hp} {v : V} {us : List V} {rows : List (Int × Int)}
theorem of_d2 {r : Int × Int} (h : Dp K H v (d2 r)) : ∃ a, v = .ref a ∧ SqT K H a [.int r.1, .int r.2] := by
  obtain ⟨a, x, y, rfl, h1, h2, h3⟩ := of_t2 h
  rw [of_int h2, of_int h3] at h1
  exact ⟨a, rfl, h1⟩
theorem hit2 (hA : DpAll K H us (rows.map d2)) {i : Nat} {x : V} (hx : us[i]? = some x) : ∃ r t, rows[i]? = some r ∧ x = V.ref t ∧ SqT K H t [.int r.1, .int r.2] := by
  obtain ⟨d, h1, h2⟩ := hA.of hx
  rw [List.getElem?_map] at h1
  obtain ⟨r, h3, rfl⟩ := Option.map_eq_some_iff.mp h1
  obtain ⟨t, rfl, h4⟩ := of_d2 h2
  exact ⟨r, t, h3, rfl, h4⟩
theorem shp_d2s : SeqAt.shaped (.list (rows.map d2)) = true := (shp_lst (n := 1) (shp_map fun r _ => shp_tup (n := 0) (shp_cons shp_int (shp_cons shp_int shp_nil)))).ok
end
theorem cutG_take {α : Type} (xs : List α) (n : Nat) : cutG xs none (some (n : Int)) = xs.take n := by
  unfold cutG
  rw [HT.sIx_none, HT.sIx_nat, List.drop_zero, Nat.sub_zero]
  rcases Nat.le_total n xs.length with h | h
  · rw [Nat.min_eq_left h]
  · rw [Nat.min_eq_right h, List.take_of_length_le (Nat.le_refl _), List.take_of_length_le h]
theorem cutG_drop {α : Type} (xs : List α) (n : Nat) : cutG xs (some (n : Int)) none = xs.drop n := by
  unfold cutG
  rw [HT.sIx_none, HT.sIx_nat]
  rcases Nat.le_total n xs.length with h | h
  · rw [Nat.min_eq_left h, List.take_of_length_le (by rw [List.length_drop]; exact Nat.le_refl _)]
  · rw [Nat.min_eq_right h, List.drop_of_length_le (Nat.le_refl _), List.drop_of_length_le h, List.take_nil]
theorem strOk_lit {z : Str} (h : PyData.strOk z = true) : PyData.strOk z = true := h
theorem dpa_app {K : PySem.W.Frag} {H : Hp} : ∀ {ds es : List PyData} {vs us : List V}, DpAll K H (vs ++ us) (ds ++ es) → vs.length = ds.length → DpAll K H vs ds ∧ DpAll K H us es
  | [], _, [], _, h, _ => ⟨.nil, h⟩
  | [], _, _ :: _, _, _, e => by simp at e
  | _ :: _, _, [], _, _, e => by simp at e
  | d :: ds, _, v :: vs, _, h, e => by
    cases h with
    | cons h1 h2 =>
      obtain ⟨a, b⟩ := dpa_app h2 (by simpa using e)
      exact ⟨.cons h1 a, b⟩
theorem nn_ints_or {K : PySem.W.Frag} {H : Hp} {x : V} {ts : List Int} {lo hi : Int} (hb : ∀ t ∈ ts, lo ≤ t ∧ t ≤ hi) (h : x ∈ ts.map V.int) : (∃ t, x = .int t ∧ lo ≤ t ∧ t ≤ hi) ∨ BadW K H x lo hi := by
  obtain ⟨t, ht, e⟩ := int_of_mem h
  exact .inl ⟨t, e, hb t ht⟩
theorem rep_len {α : Type} (xs : List α) : ∀ n : Nat, (List.replicate n xs).flatten.length = n * xs.length
  | 0 => by simp
  | n + 1 => by rw [List.replicate_succ, List.flatten_cons, List.length_append, rep_len xs n, Nat.succ_mul, Nat.add_comm]
/-! ### exceptions whose own __init__ asks their base's by its name -/
/-- S.__init__, S an own class, is ValueError's -/
structure BaseI (K : PySem.W.Frag) (S : Addr) : Prop where
  rd : PySem.W.readsIn K S (.type "type") = true
  ga : PySem.W.specialIn K (.ref S) "__getattribute__" = some (some (.builtin "type.__getattribute__"))
  vi : PySem.W.findCls K (.ref S) (.type "type") "__init__" = some (.val (.builtin "ValueError.__init__"))
structure XIniAt (K : PySem.W.Frag) (C : Addr) (qual : Str) (st : Stmt) (ps : List Str) : Prop where
  ex : ∃ (f : Addr) (fd : FuncData), Fun K "__init__" qual st f fd ∧ PySem.W.findIn K (.ref C) "__init__" = some (some (.ref f)) ∧ PySem.W.isFn K (.ref f) = true ∧ Binds K fd ps []
/-- an exception that may be made by its class's name -/
structure XMak (P : Program) (w : World) (K : PySem.W.Frag) (mg : Str → Option Value) (base : Heap) (k : Nat) (x : Str) (C : Addr) (sp : Sp) : Prop where
  ex : ∃ (f : Addr) (fd : FuncData) (ps : List Str), FnOk P w K mg base CX0 k f fd ps sp ∧ PySem.W.findIn K (.ref C) "__init__" = some (some (.ref f)) ∧ PySem.W.typeIn K (.ref f) = some (.type "function") ∧ mg x = some (.ref C) ∧ Binds K fd ps []
section
variable {P : Program} {w : World} {K : PySem.W.Frag} {mg : Str → Option Value} {base : Heap}
theorem XIniAt.xmak {x : Str} {C : Addr} {qual : Str} {st : Stmt} {N ps : List Str} {k : Nat} {sp : Sp} (hx : mg x = some (.ref C)) (d : XIniAt K C qual st ps) (S : FnScope N ps (defScope st)) (len : ∀ vs H Q E, sp vs H Q E → vs.length = ps.length)
    (hbody : ∀ (f : Addr) (cdv : Value) (A : Around) (outer : List Env) (s : Shared) (H : Hp) (vs : List V) (Q : VK) (E : XK), Room k (A.deeper (envOfC qual (defScope st) s.heap.objs.size f cdv)) → sp vs H Q E →
      ∃ t, PSs (cxOf CX0 P w K mg base N qual (defScope st) f cdv A outer s H E).nox (defBody st) t ∧ t { nx := fun _ H' => Q .non H', rt := Q } (start N vs) H) : XMak P w K mg base (k + 1) x C sp := by
  obtain ⟨f, fd, F, h1, h2, b⟩ := d.ex
  exact ⟨f, fd, ps, F.ok S len (hbody f), h1, beq_iff_eq.mp h2, hx, b⟩
end
section
variable {X : Cx} {k j : Nat} {C S : Addr} {x : Str} {sp : Sp} {p p1 p2 pos : Pos} {e : Expr} {es : List Expr} {ta : TA}
theorem pmk_x (c : XMak X.prog X.w X.K X.mg X.base k x C sp) (T : OexC X.K C) (hr : Room j X.A) (hk : k + 1 ≤ j) (hg : Gl X x) (ha : PA X (e :: es) ta)
    (hdb : (x == ("__debug__" : Str)) = false := by decide) (he : starEach (e :: es) X.env = (false, eval e X.env) :: starEach es X.env := by rfl) (hpl : (backTo pos (starEach es X.env)).any (·.1) = false := by rfl) :
    PMk X (.Call (.Name x p) (e :: es) [] pos) (tMkO C sp [] ta) := by
  obtain ⟨f, fd, ps, F, h1, h2, hm, b⟩ := c.ex
  exact pmk_oex T h1 h2 F (hr.mono hk) b .nil pass0 hg hm ha hdb he hpl
theorem pe_baseI {pl : Sem Bool} (hg : Gl X x) (hm : X.mg x = some (.ref S)) (B : BaseI X.K S) (ha : PA X (e :: es) ta)
    (hc : eval (.Call (.Attribute (.Name x p1) "__init__" p2) (e :: es) [] pos) X.env = (do
      let ov ← eval (.Name x p1) X.env
      standAt p2.atName
      let (f, first) ← holding [ov] (getMethod ov "__init__" pl)
      callWith pos f first (backTo pos (starEach (e :: es) X.env)) (backToKw pos (keywordEach [] X.env))) := by rfl)
    (hdb : (x == ("__debug__" : Str)) = false := by decide) (he : starEach (e :: es) X.env = (false, eval e X.env) :: starEach es X.env := by rfl) (hpl : (backTo pos (starEach es X.env)).any (·.1) = false := by rfl) :
    PE X (.Call (.Attribute (.Name x p1) "__init__" p2) (e :: es) [] pos) (tVeI X.K ta) := by
  constructor
  intro pins s σ H Q I h
  have asked : ∀ s1, Inv X pins σ H s1 → wpAny (model X.prog X.w) X.A (callWith pos (Value.builtin "ValueError.__init__") [] (backTo pos (starEach (e :: es) X.env)) []) (EP X pins σ Q) X.xe s1 := fun s1 I1 =>
    PyProof.Rows.callWith_method1 (thn (ha.run pos pins s1 σ H _ I1 h) fun us s2 ⟨vs, H2, I2, r, a, D, ws, evs, few, T, atA, q⟩ => by
      subst evs
      cases r with
      | @cons _ u0 _ ur r0 rr =>
        obtain rfl : u0 = Value.ref a := r0
        have few' : ur.length ≤ sizeLine := by
          have := Paired.length rr
          have := sizeLine_eq
          omega
        exact oinit_ok T I2 atA few' fun s3 I3 => ⟨.non, H2, I3, rfl, q⟩) he hpl
  refine PySem.W.methodCall_KW (ld_glob I hg hm ?_ hdb) hc
  refine PySem.W.method_cls I.kIn B.ga (PySem.W.cls_value I.kIn B.rd B.vi (by decide +kernel) ?_)
  exact asked _ (I.tok _)
end
section
variable {K : PySem.W.Frag} {σ : L2.St} {H : Hp} {D : Ends} {C a : Addr} {f : Str} {y : V} {ta : TA} {te to : TE}
theorem L_veI {R : Hp → Prop} {ws : List V} (T : OexC K C) (h : H a = some (exo a C none)) (l : ws.length ≤ 1000) (q : R H) : ∃ (a' C : Addr) (ws' : List V), V.ref a :: ws = .ref a' :: ws' ∧ ws'.length ≤ 1000 ∧ OexC K C ∧ H a' = some (exo a' C none) ∧ R H := ⟨a, C, ws, rfl, l, T, h, q⟩
theorem L_tveI {Q : VK} (h : ta σ H fun vs H1 => ∃ (a C : Addr) (ws : List V), vs = .ref a :: ws ∧ ws.length ≤ 1000 ∧ OexC K C ∧ H1 a = some (exo a C none) ∧ Q .non H1) : tVeI K ta σ H Q := h
theorem L_ost (h : te σ H fun y H1 => to σ H1 fun x H2 => ∃ a C : Addr, x = .ref a ∧ OexC K C ∧ PySem.W.findIn K (.ref C) f = some none ∧
  ((H2 a = some (exo a C none) ∧ ∀ dx, H2 dx = none → dx ≠ a → D.nx σ (upd (upd H2 dx (exd dx [(f, y)])) a (exo a C (some dx)))) ∨
    ∃ (dx : Addr) (fs : List (Str × V)), H2 a = some (exo a C (some dx)) ∧ H2 dx = some (exd dx fs) ∧ fs.length ≤ 900 ∧ D.nx σ (upd H2 dx (exd dx ((f, y) :: fs))))) : tOst K f to te D σ H := h
theorem L_ost1 {R : Hp → Prop} (T : OexC K C) (nf : PySem.W.findIn K (.ref C) f = some none) (h : H a = some (exo a C none)) (q : ∀ dx, H dx = none → dx ≠ a → R (upd (upd H dx (exd dx [(f, y)])) a (exo a C (some dx)))) :
    ∃ a' C : Addr, V.ref a = .ref a' ∧ OexC K C ∧ PySem.W.findIn K (.ref C) f = some none ∧
  ((H a' = some (exo a' C none) ∧ ∀ dx, H dx = none → dx ≠ a' → R (upd (upd H dx (exd dx [(f, y)])) a' (exo a' C (some dx)))) ∨
    ∃ (dx : Addr) (fs : List (Str × V)), H a' = some (exo a' C (some dx)) ∧ H dx = some (exd dx fs) ∧ fs.length ≤ 900 ∧ R (upd H dx (exd dx ((f, y) :: fs)))) := ⟨a, C, rfl, T, nf, .inl ⟨h, q⟩⟩
/-- what an __init__ with one field keeps -/
def XIni1 (C : Addr) (f : Str) (a : Addr) (v : V) (H : Hp) (Q : VK) : Prop := H a = some (exo a C none) ∧ ∀ d, H d = none → d ≠ a → Q .non (upd (upd H d (exd d [(f, v)])) a (exo a C (some d)))
/-- C(v) is raised -/
theorem L_mkO1 {sp : Sp} {E : XK} {v : V} (hs : ∀ a H Q E, XIni1 C f a v H Q → sp [.ref a, v] H Q E) (q : ∀ d, H d = none → E (.ref C) (some d) (upd H d (.xd [(f, v)]))) : [v].length ≤ 1000 ∧ ∀ a, H a = none → sp (.ref a :: ([v] ++ [])) (upd H a (exo a C none))
  (fun v H2 => v = .non ∧ ∃ (d : Addr) (fs : List (Str × V)), H2 a = some (exo a C (some d)) ∧ H2 d = some (exd d fs) ∧ H d = none ∧ E (.ref C) (some d) (upd (del H2 a) d (.xd fs))) (fun _ _ _ => False) := by
  refine ⟨by rw [List.length_singleton]; decide, fun a na => hs a _ _ _ ⟨upd_same, fun d nd ne => ⟨rfl, d, [(f, v)], upd_same, ?_, ?_, ?_⟩⟩⟩
  · rw [upd_ne ne, upd_same]
  · rw [upd_ne ne] at nd
    exact nd
  · rw [upd_ne ne] at nd
    have z : upd (del (upd (upd (upd H a (exo a C none)) d (exd d [(f, v)])) a (exo a C (some d))) a) d (.xd [(f, v)]) = upd H d (.xd [(f, v)]) := by
      funext b
      by_cases hb : b = d
      · rw [hb, upd_same, upd_same]
      · rw [upd_ne hb, upd_ne hb]
        by_cases ha : b = a
        · rw [ha, del_same, na]
        · rw [del_ne ha, upd_ne ha, upd_ne hb, upd_ne ha]
    rw [z]
    exact q d nd
theorem L_mkO {sp : Sp} {dvs : List V} {Q : XK} (h : ta σ H fun vs H1 => vs.length ≤ 1000 ∧ ∀ a, H1 a = none → sp (.ref a :: (vs ++ dvs)) (upd H1 a (exo a C none))
  (fun v H2 => v = .non ∧ ∃ (d : Addr) (fs : List (Str × V)), H2 a = some (exo a C (some d)) ∧ H2 d = some (exd d fs) ∧ H1 d = none ∧ Q (.ref C) (some d) (upd (del H2 a) d (.xd fs))) (fun _ _ _ => False)) : tMkO C sp dvs ta σ H Q := h
end
/-- isinstance(e, c) in e's own suite, whatever its dict -/
def rIsS (K : PySem.W.Frag) (a : Addr) (cls : Value) (d : Option Addr) : List V → Hp → VK → Prop := fun xs H Q => ∃ (D : Addr) (c : V) (u : Value) (b : Bool), xs = [.ref a, c] ∧ cls = .ref D ∧ (∀ dd, d = some dd → ∃ fs, H dd = some (.xd fs)) ∧ L2.ExcC K D ∧ ClsV c u ∧ PySem.W.kitOne K (.ref D) u = some b ∧ Q (.bl b) H
theorem call_isS {X : Cx} {a : Addr} {cls : Value} {d : Option Addr} {oe : Obj} {pn : List (Addr × Obj)} (hz : Zc cls d oe) (hf : ∃ vs, oe.data = .fields vs) : CallR (X.suite a ((a, oe) :: pn)) (.builtin "isinstance") (rIsS X.K a cls d) := by
  intro pins s σ H xs us Q I r h
  obtain ⟨D, c, u, b, rfl, rfl, hd, C, k, e, q⟩ := h
  obtain ⟨u1, u2, rfl, r1, r2⟩ := vals2 r
  cases r1
  cases k.eq r2
  obtain ⟨there, _⟩ := I.pin (a, oe) (List.mem_append_left _ List.mem_cons_self)
  obtain ⟨vs, data⟩ := hf
  have J : ∃ od, PySem.W.InstAt s.heap a oe D od := by
    have nc : PySem.W.notCls oe = true := by unfold PySem.W.notCls; rw [data] <;> rfl
    cases d with
    | none => exact ⟨none, there, hz.1, nc, by rw [hz.2]; exact True.intro⟩
    | some dd =>
      obtain ⟨fs, hdd⟩ := hd dd rfl
      obtain ⟨mA, ⟨o, es, ep, ho, _⟩, _⟩ := (show ObjOk X.prog X.w H s.heap dd (.xd fs) from I.hok dd _ hdd)
      exact ⟨some o, there, hz.1, nc, by rw [hz.2]; exact ho⟩
  obtain ⟨od, J⟩ := J
  obtain ⟨cd, hcd, _⟩ := PySem.W.any_some C.hd
  exact PySem.W.kia_one (PySem.W.kitx_exc (show (PySem.W.clsIn _ D).isSome = true by rw [hcd]; rfl) C.hg C.hk C.hs C.ha C.hn C.ht C.hm) I.kIn J e (fun z => nomatch z) fun tk => ⟨.bl b, H, I.tok tk, rfl, q⟩
theorem L_isS {K : PySem.W.Frag} {H : Hp} {Q : VK} {a D : Addr} {d : Option Addr} {c : V} {u : Value} {b : Bool} (hd : ∀ dd, d = some dd → ∃ fs, H dd = some (.xd fs)) (C : L2.ExcC K D) (k : ClsV c u) (e : PySem.W.kitOne K (.ref D) u = some b) (q : Q (.bl b) H) : rIsS K a (.ref D) d [.ref a, c] H Q := ⟨D, c, u, b, rfl, rfl, hd, C, k, e, q⟩
/-- one of two derivations -/
def tOrE (t1 t2 : TE) : TE := fun σ H Q => t1 σ H Q ∨ t2 σ H Q
theorem PE.or {X : Cx} {e : Expr} {t1 t2 : TE} (h1 : PE X e t1) (h2 : PE X e t2) : PE X e (tOrE t1 t2) :=
  ⟨fun pins s σ H Q I h => h.elim (fun h => h1.run pins s σ H Q I h) (fun h => h2.run pins s σ H Q I h)⟩
/-- what isinstance asks of an instance's own class; of the class it is asked of -/
structure InsC (K : PySem.W.Frag) (C : Addr) : Prop where
  ha : PySem.W.findIn K (.ref C) "__class__" = some (some (.builtin "object.__class__"))
  hn : PySem.W.specialIn K (.builtin "object.__class__") "__get__" = some (some (.builtin "getset_descriptor.__get__"))
  ht : PySem.W.takesIn K (.builtin "object.__class__") = some true
  hm : PySem.W.mroIn K C (.type "object") = some true
structure ClsT (K : PySem.W.Frag) (C : Addr) : Prop where
  i : PySem.W.isClsIn K C = true
  t : PySem.W.typeIn K (.ref C) = some (.type "type")
theorem tyx_I {K : PySem.W.Frag} {H : Hp} {a C dx : Addr} {fs : List (Str × V)} (h : H a = some (.ins C dx fs)) (cl : Cls K C) (c : InsC K C) : TyX K H (.ref a) (.ref C) := .base (.ins h cl c.ha c.hn c.ht c.hm)
theorem kit_own {K : PySem.W.Frag} {C D : Addr} {b : Bool} (hD : PySem.W.subIn K (.ref D) (.ref D) = some true) (k : ClsT K C) (h : PySem.W.subIn K (.ref D) (.ref C) = some b) : PySem.W.kitOne K (.ref D) (.ref C) = some b := by
  unfold PySem.W.kitOne
  by_cases e : D = C
  · subst e
    rw [hD] at h
    cases h
    rw [if_pos (by simp)]
  · rw [if_neg (by simpa using e)]
    have h2 : (PySem.W.clsIn K C).isSome = true := k.i
    show (if ((PySem.W.clsIn K C).isSome && PySem.W.typeIn K (.ref C) == some (.type "type")) = true then PySem.W.subIn K (.ref D) (.ref C) else none) = some b
    rw [if_pos (by rw [h2, k.t]; rfl)]
    exact h
theorem kit_not {K : PySem.W.Frag} {T : String} {C : Addr} {b : Bool} (k : ClsT K C) (h : PySem.W.subIn K (.type T) (.ref C) = some b) : PySem.W.kitOne K (.type T) (.ref C) = some b := by
  unfold PySem.W.kitOne
  rw [if_neg (by simp)]
  have h2 : (PySem.W.clsIn K C).isSome = true := k.i
  show (if ((PySem.W.clsIn K C).isSome && PySem.W.typeIn K (.ref C) == some (.type "type")) = true then PySem.W.subIn K (.type T) (.ref C) else none) = some b
  rw [if_pos (by rw [h2, k.t]; rfl)]
  exact h
theorem L_orl {t1 t2 : TE} {σ : L2.St} {H : Hp} {Q : VK} (h : t1 σ H Q) : tOrE t1 t2 σ H Q := .inl h
theorem L_orr {t1 t2 : TE} {σ : L2.St} {H : Hp} {Q : VK} (h : t2 σ H Q) : tOrE t1 t2 σ H Q := .inr h
theorem L_xf {a C : Addr} {cls : Value} {d : Option Addr} {f : Str} {te : TE} {σ : L2.St} {H : Hp} {Q : VK} (h : te σ H fun x H1 => x = .ref a ∧ cls = .ref C ∧ ∃ (dd : Addr) (fs : List (Str × V)) (v : V), d = some dd ∧ H1 dd = some (.xd fs) ∧ fs.lookup f = some v ∧ Q v H1) : tXf a cls d C f te σ H Q := h
theorem ExcC.xf {K : PySem.W.Frag} {C : Addr} (c : L2.ExcC K C) : XfC K C := ⟨c.hg, c.hk, c.hs, c.hd⟩
theorem L_isC {K : PySem.W.Frag} {H : Hp} {Q : VK} {x : V} {T : Value} {C : Addr} {b : Bool} (ty : TyX K H x T) (e : PySem.W.kitOne K T (.ref C) = some b) (q : Q (.bl b) H) : rIsi K [x, .ref C] H Q := ⟨x, .ref C, T, .ref C, b, rfl, .own C, ty, e, q⟩
theorem L_str1 {H : Hp} {Q : VK} {t : Int} (h : 0 ≤ t ∧ t ≤ 1000) (q : Q (.str (toString t)) H) : aStr1 [.int t] H Q := ⟨t, rfl, by have := Nat.log2_le_self t.natAbs; omega, q⟩
theorem str_short : ∀ t : Int, 0 ≤ t → t ≤ 100 → (↑(toString t) : Str).length ≤ 3 := by
  have h : ∀ n ∈ List.range 101, (↑(toString ((n : Nat) : Int)) : Str).length ≤ 3 := by decide +kernel
  intro t h0 h1
  have := h t.toNat (List.mem_range.mpr (by omega))
  rwa [Int.toNat_of_nonneg h0] at this

/-! ### exceptions held as values -/
/-- at a: an exception of the own class D, not raised; fs: its own fields -/
def XVal (H : Hp) (a D : Addr) (fs : List (Str × V)) : Prop := (fs = [] ∧ H a = some (ExI (.ref D) none a)) ∨ ∃ d, H a = some (exo a D (some d)) ∧ H d = some (exd d fs)
theorem XVal.same {H H' : Hp} {a D : Addr} {fs : List (Str × V)} (h : XVal H a D fs) (s : Same H H') : XVal H' a D fs := by
  rcases h with ⟨h1, h2⟩ | ⟨d, h1, h2⟩
  · exact .inl ⟨h1, s _ _ h2⟩
  · exact .inr ⟨d, s _ _ h1, s _ _ h2⟩
theorem xval_inst {X : Cx} {pins : List (Addr × Obj)} {σ : L2.St} {H : Hp} {s : Shared} {a D : Addr} {fs : List (Str × V)} (I : Inv X pins σ H s) (h : XVal H a D fs) : ∃ oe od, PySem.W.InstAt s.heap a oe D od := by
  rcases h with ⟨_, h⟩ | ⟨d, h1, h2⟩
  · obtain ⟨oe, J⟩ := exI_at I h
    exact ⟨oe, none, J⟩
  · obtain ⟨t1, ho⟩ := exo_at I.hok h1
    obtain ⟨mA, ⟨o, _, _, hd, _⟩, _⟩ := exd_at I.hok h2
    exact ⟨_, some o, ho, rfl, rfl, hd⟩
def rIsV (K : PySem.W.Frag) : List V → Hp → VK → Prop := fun xs H Q => ∃ (a D : Addr) (fs : List (Str × V)) (c : V) (u : Value) (b : Bool), xs = [.ref a, c] ∧ XVal H a D fs ∧ L2.ExcC K D ∧ ClsV c u ∧ PySem.W.kitOne K (.ref D) u = some b ∧ Q (.bl b) H
theorem call_isV {X : Cx} : CallR X (.builtin "isinstance") (rIsV X.K) := by
  intro pins s σ H xs us Q I r h
  obtain ⟨a, D, fs, c, u, b, rfl, hx, C, k, e, q⟩ := h
  obtain ⟨u1, u2, rfl, r1, r2⟩ := vals2 r
  cases r1
  cases k.eq r2
  obtain ⟨oe, od, J⟩ := xval_inst I hx
  obtain ⟨cd, hcd, _⟩ := PySem.W.any_some C.hd
  exact PySem.W.kia_one (PySem.W.kitx_exc (show (PySem.W.clsIn _ D).isSome = true by rw [hcd]; rfl) C.hg C.hk C.hs C.ha C.hn C.ht C.hm) I.kIn J e (fun z => nomatch z) fun tk => ⟨.bl b, H, I.tok tk, rfl, q⟩
theorem L_isV {K : PySem.W.Frag} {H : Hp} {Q : VK} {a D : Addr} {fs : List (Str × V)} {c : V} {u : Value} {b : Bool} (h : XVal H a D fs) (C : L2.ExcC K D) (k : ClsV c u) (e : PySem.W.kitOne K (.ref D) u = some b) (q : Q (.bl b) H) : rIsV K [.ref a, c] H Q := ⟨a, D, fs, c, u, b, rfl, h, C, k, e, q⟩
/-- e.f, e such a value -/
def tXv (K : PySem.W.Frag) (f : Str) (te : TE) : TE := fun σ H Q => te σ H fun x H1 => ∃ (a D d : Addr) (fs : List (Str × V)) (v : V), x = .ref a ∧ L2.ExcC K D ∧ PySem.W.findIn K (.ref D) f = some none ∧ H1 a = some (exo a D (some d)) ∧ H1 d = some (exd d fs) ∧ fs.lookup f = some v ∧ Q v H1
theorem L_xv {K : PySem.W.Frag} {f : Str} {te : TE} {σ : L2.St} {H : Hp} {Q : VK} (h : te σ H fun x H1 => ∃ (a D d : Addr) (fs : List (Str × V)) (v : V), x = .ref a ∧ L2.ExcC K D ∧ PySem.W.findIn K (.ref D) f = some none ∧ H1 a = some (exo a D (some d)) ∧ H1 d = some (exd d fs) ∧ fs.lookup f = some v ∧ Q v H1) : tXv K f te σ H Q := h
theorem pe_xv {X : Cx} {e : Expr} {te : TE} {f : Str} {pos : Pos} (he : PE X e te) (hb : attributeBase e f X.env (eval e X.env) = eval e X.env := by rfl) : PE X (.Attribute e f pos) (tXv X.K f te) := by
  constructor
  intro pins s σ H Q I h
  refine attr_of hb (thn (he.run pins s σ H _ I h) fun u s1 ⟨x, H1, I1, rx, a, D, d, fs, v, ex, C, nf, h1, h2, l, q⟩ => ?_)
  subst ex
  cases rx
  obtain ⟨t1, ho⟩ := exo_at I1.hok h1
  obtain ⟨mA, hns, rel⟩ := exd_at I1.hok h2
  obtain ⟨od, hod, hlk⟩ := lookIn_ns hns
  obtain ⟨w, hw, rw'⟩ := RelO.some_of (v := v) (o := mA f) (by rw [← l]; exact rel f)
  have J : PySem.W.InstAt s1.heap a _ D (some od) := ⟨ho, rfl, rfl, hod⟩
  exact HandSPX.exc_get I1.kIn J C.hg C.hk C.hs (PySem.W.findObj_own C.hd nf rfl (by rw [hlk, hw])) (handed_of rw') ⟨v, H1, I1.tok _, rw', q⟩
/-- C(), C without an own __init__ -/
def tMk0V (C : Addr) : TE := fun _ H Q => ∀ a, H a = none → Q (.ref a) (upd H a (ExI (.ref C) none a))
theorem pe_mk0V {X : Cx} {C : Addr} {x : Str} {p pos : Pos} (c : ExcAt X.K C) (gC : X.mg x = some (.ref C)) (hg : Gl X x) (hdb : (x == ("__debug__" : Str)) = false := by decide) : PE X (.Call (.Name x p) [] [] pos) (tMk0V C) := by
  constructor
  intro pins s σ H Q I h
  refine wpAny_Call_Name_kw (ld_glob I hg gC ?_ hdb)
  refine PySem.W.callWith_K0 I.kIn c.k ?_
  obtain ⟨bm, N, nm, qn, bs, hdct, sn, sub, ab, col, dd, k0, k1, k2, k3, k5, mN, hC, hN, hni, T⟩ := exc_obj I.kIn c.x
  refine wpAny_call_exc_subT PySem.F.excBase_ValueError T hC hN hni (fun h' a hm => ?_) (Nat.zero_le _)
  have na : H a = none := I.hok.gone hm.new
  obtain ⟨t, at_, _, _⟩ := hm.there
  refine ⟨.ref a, _, I.laidN (o := ExI (.ref C) none a) hm.keeps hm.new na ⟨⟨_, _, at_, ⟨rfl, rfl⟩, rfl⟩, ⟨_, at_⟩, fun _ _ ⟨o1, v1, z, r⟩ k => ⟨o1, v1, k o1 z, r⟩⟩, rfl, h a na⟩
/-- C(..), C with an own __init__ -/
def tMkV (C : Addr) (sp : Sp) (ta : TA) : TE := fun σ H Q => ta σ H fun vs H1 => vs.length ≤ 1000 ∧ ∀ a, H1 a = none → sp (.ref a :: vs) (upd H1 a (exo a C none)) (fun v H2 => v = .non ∧ Q (.ref a) H2) E0
theorem L_mkV {C : Addr} {sp : Sp} {ta : TA} {σ : L2.St} {H : Hp} {Q : VK} (h : ta σ H fun vs H1 => vs.length ≤ 1000 ∧ ∀ a, H1 a = none → sp (.ref a :: vs) (upd H1 a (exo a C none)) (fun v H2 => v = .non ∧ Q (.ref a) H2) E0) : tMkV C sp ta σ H Q := h
theorem L_mk0V {C : Addr} {σ : L2.St} {H : Hp} {Q : VK} (h : ∀ a, H a = none → Q (.ref a) (upd H a (ExI (.ref C) none a))) : tMk0V C σ H Q := h
theorem pe_mkV {X : Cx} {k j : Nat} {C : Addr} {x : Str} {sp : Sp} {p pos : Pos} {e : Expr} {es : List Expr} {ta : TA} (c : XMak X.prog X.w X.K X.mg X.base k x C sp) (T : OexC X.K C) (hr : Room j X.A) (hk : k + 1 ≤ j) (hg : Gl X x) (ha : PA X (e :: es) ta)
    (hdb : (x == ("__debug__" : Str)) = false := by decide) (he : starEach (e :: es) X.env = (false, eval e X.env) :: starEach es X.env := by rfl) (hpl : (backTo pos (starEach es X.env)).any (·.1) = false := by rfl) :
    PE X (.Call (.Name x p) (e :: es) [] pos) (tMkV C sp ta) := by
  obtain ⟨f, fd, ps, F, iC, tI, hm, hb⟩ := c.ex
  have room := hr.mono hk
  obtain ⟨nm, q, N, bs, bm, sn, sub, ab, col, dd, k0, k1, k2, k3, k5, hC, hbm⟩ := T.cls
  constructor
  intro pins s σ H Q I h
  refine wpAny_Call_Name_kw (ld_glob I hg hm ?_ hdb)
  refine PySem.W.callWith_K (h₀ := X.base) I.ok.mod.kin T.kC (thn (ha.run pos pins s σ H _ I h) fun us s1 ⟨vs, H1, I1, r1, hz, q1⟩ => ⟨I1.kIn, ?_⟩) he hpl
  show wpAny _ _ (call (.ref C) us) _ _ _
  have r1 : Vals vs us := r1
  have few : us.length ≤ sizeLine := by
    have z1 := Paired.length r1
    have z2 := sizeLine_eq
    omega
  obtain ⟨hp, g, dr, tk, os⟩ := s1
  -- the arguments' tuple and the exception's own place
  have old : ∀ b o, hp.get? b = some o → ((hp.push (PySem.W.kdv_tup us)).push (PySem.HandSPX.excO C hp.objs.size)).get? b = some o := fun b o z => Heap.get?_push_of_some _ (Heap.get?_push_of_some _ z)
  have here : ((hp.push (PySem.W.kdv_tup us)).push (PySem.HandSPX.excO C hp.objs.size)).get? (hp.objs.size + 1) = some (PySem.HandSPX.excO C hp.objs.size) := by heap_get
  have free : H1 (hp.objs.size + 1) = none := I1.hok.fresh (Nat.le_succ _)
  have J : Inv X pins σ (upd H1 (hp.objs.size + 1) (exo (hp.objs.size + 1) C none)) ⟨(hp.push (PySem.W.kdv_tup us)).push (PySem.HandSPX.excO C hp.objs.size), g, dr, tk, os⟩ :=
    I1.laid (t' := tk) old (Nat.le_succ _) (exo_ok here)
  have asked := q1 _ free
  have args : Vals (V.ref (hp.objs.size + 1) :: vs) (Value.ref (hp.objs.size + 1) :: us) := .cons rfl r1
  have many : (Value.ref (hp.objs.size + 1) :: us).length = ps.length := args.length.symm.trans (F.len _ _ _ _ asked)
  have bound := hb _ (Value.ref (hp.objs.size + 1) :: us) J.kIn (by rw [List.append_nil]; exact many)
  rw [List.append_nil] at bound
  refine wpAny_call (PySem.HandSPX.call_own PySem.F.excBase_ValueError (fun Y => PySem.HandSPX.refsVE_contains Y bm hbm) (I1.kIn _ _ hC) (PySem.W.looks_findIn I1.kIn iC) (fun self => PySem.W.bind_fn I1.kIn self tI) few ?_)
  refine codeAny_mono (F.run _ X.stack _ _ ⟨_, []⟩ _ _ _ E0 (room.make C us []) (J.env0.make C us []) bound args asked) fun out s' ho => ?_
  match out, ho with
  | .error e, ho => exact pass0 pins σ _ _ e s' J ho
  | .ok (.ret u), ho =>
    obtain ⟨v, H', J', rel, hv, rest⟩ := J.after ho
    cases hv
    exact ⟨rel, .ref (hp.objs.size + 1), H', J', rfl, rest⟩
  | .ok .next, ho => exact ho.elim
  | .ok .brk, ho => exact ho.elim
  | .ok .cont, ho => exact ho.elim
theorem L_dsetd {td ty tx : TE} {σ : L2.St} {H : Hp} {Q : VK} (h : td σ H fun x H1 => ∃ a, x = .ref a ∧ IsD H1 a ∧ ty σ H1 fun y H2 => tx σ H2 fun z H3 => ∃ (kvs : List (Key × V)) (k : Key), H3 a = some (.dK kvs) ∧ y = kV k ∧ kvs.length < sizeLine ∧
  (∀ v, valV kvs k = some v → Q v H3) ∧ (valV kvs k = none → Q z (upd H3 a (.dK (putK kvs k z))))) : tDSetd td ty tx σ H Q := h
/-! ### the tuples of a heap; fields changed by += -/
noncomputable def tp (H : Hp) : Hp := rs (fun b => ∃ xs, H b = some (.tup xs)) H
theorem tp_same {H H' : Hp} (h : ∀ b xs, H b = some (.tup xs) → H' b = some (.tup xs)) : Same (tp H) (tp H') := rs_same fun b o ⟨xs, e⟩ z => ⟨⟨xs, h b xs e⟩, by rw [e] at z; cases z; exact h b xs e⟩
theorem tp_upd {H : Hp} {a : Addr} {o : HO} (h : ∀ xs, H a ≠ some (.tup xs)) : Same (tp H) (tp (upd H a o)) := tp_same fun b xs e => by rw [upd_ne fun z => h xs (by rw [← z]; exact e)]; exact e
theorem tp_at {H : Hp} {b : Addr} {xs : List V} (h : H b = some (.tup xs)) : tp H b = some (.tup xs) := rs_at ⟨xs, h⟩ h
theorem tp_of {H H' : Hp} (e : Same H H') : Same (tp H) (tp H') := tp_same fun b xs z => e _ _ z
theorem L_fldaug {K : PySem.W.Frag} {σ : L2.St} {H : Hp} {N B C' : L2.St → Hp → Prop} {R : VK} {f : Str} {ta tv : TE} {rd : V → V → Hp → VK → Prop} (h : ta σ H fun x H1 => ∃ a C dx fs v, x = .ref a ∧ H1 a = some (.ins C dx fs) ∧ Cls K C ∧ NoAttr K C f ∧ fs.lookup f = some v ∧
  tv σ H1 fun y H2 => rd v y H2 fun z H3 => ∃ dx' fs', H3 a = some (.ins C dx' fs') ∧ fs'.length < 1000 ∧ N σ (upd H3 a (.ins C dx' (putF f z fs')))) : sFldAug K ta tv rd f ⟨N, R, B, C'⟩ σ H := h
theorem L_rAdd {H : Hp} {Q : VK} {i j : Int} (h : Q (.int (i + j)) H) : rAdd (.int i) (.int j) H Q := ⟨i, j, rfl, rfl, h⟩
theorem fm_flt {α β : Type} (c : α → Bool) (g : α → β) : ∀ l : List α, (List.range l.length).filterMap (fun i => (l[i]?).bind fun x => if c x = true then some (g x) else none) = (l.filter c).map g
  | [] => rfl
  | a :: l => by
    have ih := fm_flt c g l
    rw [List.length_cons, List.range_succ_eq_map]
    simp only [List.filterMap_cons, List.getElem?_cons_zero, Option.bind_some, List.filterMap_map, Function.comp_def, List.getElem?_cons_succ]
    rw [ih]
    cases h : c a
    · rw [List.filter_cons_of_neg (by simp [h])]; simp
    · rw [List.filter_cons_of_pos h]; simp
/-- t * n, t a text -/
def rRepS : R2 := fun x y H Q => ∃ (z : Str) (k : Int), x = .str z ∧ y = .int k ∧ MulOk z k ∧ Q (.str (Txt.mul z k)) H
theorem op_repS {X : Cx} : OpR X (binaryOp .Mult) rRepS := by
  intro pins s σ H x y v u Q I rx ry h
  obtain ⟨z, k, rfl, rfl, hz, q⟩ := h
  obtain ⟨t, rfl⟩ := rx
  obtain ⟨t', rfl⟩ := ry
  exact SB.mul hz fun t' tk => ⟨.str (Txt.mul z k), H, I.tok _, ⟨_, rfl⟩, q⟩
theorem L_repS0 {H : Hp} {Q : VK} {z : Str} {k : Int} (h : k = 0) (q : Q (.str Str.empty) H) : rRepS (.str z) (.int k) H Q := by
  subst h
  exact ⟨z, 0, rfl, rfl, ⟨by decide, fun h => absurd (by decide) h, fun h => absurd (by decide) h⟩, q⟩
theorem sqT_upd {K : PySem.W.Frag} {H : Hp} {p a : Addr} {us xs : List V} {o : HO} (hp : H p = some (.lst us)) (h : SqT K H a xs) : SqT K (upd H p o) a xs := by
  rcases h with (h | ⟨o', h⟩) | h
  · exact .inl (.inl (by rw [upd_ne fun z => by rw [z, hp] at h; cases h]; exact h))
  · exact .inl (.inr ⟨o', by rw [upd_ne fun z => by rw [z, hp] at h; cases h]; exact h⟩)
  · exact .inr h
theorem rep_map {α : Type} (f : α → V) (xs : List α) (n : Nat) : (List.replicate n (xs.map f)).flatten = ((List.replicate n xs).flatten).map f := by
  induction n with
  | zero => rfl
  | succ n ih => rw [List.replicate_succ, List.flatten_cons, List.replicate_succ, List.flatten_cons, List.map_append, ih]
theorem cutG_both {α : Type} (xs : List α) {a b : Nat} (h1 : a ≤ b) (h2 : b ≤ xs.length) : cutG xs (some (a : Int)) (some (b : Int)) = (xs.drop a).take (b - a) := by
  unfold cutG
  rw [HT.sIx_nat, HT.sIx_nat, Nat.min_eq_left h2, Nat.min_eq_left (Nat.le_trans h1 h2)]
/-! ### looks at a question's form, ahead of steps that show something -/
section
variable {K : PySem.W.Frag} {σ : L2.St} {H : Hp} {Q : VK} {x y v : V}
theorem G_mul (h : aMul x y H Q) : aMul x y H Q := h
theorem G_mod {g : Int → Int → V} (h : rI (fun _ j => 0 < j) g x y H Q) : rI (fun _ j => 0 < j) g x y H Q := h
theorem G_div {g : Int → Int → V} (h : rI CDivW g x y H Q) : rI CDivW g x y H Q := h
theorem G_pow {g : Int → Int → V} (h : rI CPow g x y H Q) : rI CPow g x y H Q := h
theorem G_ix {p : Addr} {i : Int} (h : rIx K (.ref p) (.int i) H Q) : rIx K (.ref p) (.int i) H Q := h
theorem G_len {p : Addr} (h : aLen K [.ref p] H Q) : aLen K [.ref p] H Q := h
theorem G_meth {a : Addr} {C : Addr} {m : Str} {R : Addr → Addr → List (Str × V) → Prop} (h : ∃ a' dx fs, V.ref a = V.ref a' ∧ H a' = some (.ins C dx fs) ∧ fs.lookup m = none ∧ R a' dx fs) : ∃ a' dx fs, V.ref a = V.ref a' ∧ H a' = some (.ins C dx fs) ∧ fs.lookup m = none ∧ R a' dx fs := h
theorem G_isi {i : Int} {n : String} (h : rIsi K [.int i, .ty n] H Q) : rIsi K [.int i, .ty n] H Q := h
theorem G_d {p : Prop} [Decidable p] {A B : Prop} (h : if decide p = true then A else B) : if decide p = true then A else B := h
theorem G_nd {p : Prop} [Decidable p] {A B : Prop} (h : if (!decide p) = true then A else B) : if (!decide p) = true then A else B := h
theorem G_gn {i : Nat} {N : L2.St → Hp → Prop} (h : gName i v σ H N) : gName i v σ H N := h
end
theorem inV_strs (n : Str) : ∀ ns : List Str, inV (.str n) (ns.map V.str) = decide (n ∈ ns)
  | [] => by simp [inV]
  | k :: ns => by
    have ih := inV_strs n ns
    unfold inV at ih ⊢
    rw [List.map_cons, List.any_cons, ih]
    by_cases e : n = k
    · subst e
      simp [eqV]
    · have e' : ¬ k = n := fun z => e z.symm
      simp [eqV, e, e']
theorem flat_strs : ∀ ns : List Str, (ns.map V.str).all flatV = true
  | [] => rfl
  | _ :: ns => by rw [List.map_cons, List.all_cons, flat_strs ns]; rfl
section
variable {K : PySem.W.Frag} {H : Hp} {Q : VK} {p : Addr} {z : Str} {ns : List Str}
theorem L_notInSs (h : SqL K H p (ns.map V.str)) (q : Q (.bl (!decide (z ∈ ns))) H) : aNotIn K (.str z) (.ref p) H Q := .inr ⟨p, _, rfl, .inl h, rfl, flat_strs _, by rw [if_pos rfl, inV_strs]; exact q⟩
theorem L_inSs (h : SqL K H p (ns.map V.str)) (q : Q (.bl (decide (z ∈ ns))) H) : aIn K (.str z) (.ref p) H Q := .inr ⟨p, _, rfl, .inl h, rfl, flat_strs _, by rw [if_neg (by decide), inV_strs]; exact q⟩
end
end Kt
set_option Elab.async false
set_option linter.all false
set_option maxRecDepth 100000
set_option maxHeartbeats 4000000
namespace My
open PySem PySem.Spec PyProof.Rows L2 Kt
/-! one step of a reading; a look at the heap -/
local macro_rules | `(tactic| walk_at "hp") => `(tactic| first
  | assumption
  | exact upd_same
  | (with_reducible apply hp_from; assumption; walk_at "sm"))
local macro_rules | `(tactic| walk_at "hpL") => `(tactic| first | assumption | (with_reducible apply hpL; walk_at "hp"))
local macro_rules | `(tactic| walk_at "hpT") => `(tactic| first | assumption | (with_reducible apply hpT; walk_at "hp"))
local macro_rules | `(tactic| walk_at "st1") => `(tactic| with_reducible first
  | refine L_var rfl ?_
  | refine L_cons ?_
  | refine L_nil ?_
  | refine L_c ?_
  | refine L_op ?_
  | refine L_seq ?_
  | refine L_asg ?_
  | (refine G_gn ?_; refine L_gnameE (by dsimp only [L2.wipe, List.foldl, List.set] <;> rfl) ?_)
  | refine L_k ?_
  | refine L_I0 ?_
  | refine L_addI ?_
  | refine L_tTest ?_
  | refine L_ifS ?_
  | refine L_next ?_
  | refine L_call ?_
  | refine L_callS ?_
  | refine L_T ?_
  | refine L_F ?_
  | refine L_nT ?_
  | refine L_nF ?_
  | refine L_cb ?_
  | refine L_ret ?_
  | refine L_eqI ?_
  | refine L_neI ?_
  | refine L_leI ?_
  | refine L_ltI ?_
  | refine L_or ?_
  | refine L_and ?_
  | refine L_not ?_
  | refine L_tB ?_
  | refine L_drop ?_
  | refine L_bm ?_
  | refine L_tup ?_
  | refine L_lst ?_
  | refine L_fld ?_
  | refine L_chain ?_
  | refine L_gname ?_
  | refine L_eqS ?_
  | refine L_neS ?_
  | refine L_eqB ?_
  | refine L_leS ?_
  | refine L_isN ?_
  | refine L_notN ?_
  | refine L_inC ?_
  | refine L_notInC ?_
  | refine L_un ?_
  | refine L_rU ?_
  | refine L_andV ?_
  | refine L_orV ?_
  | refine L_notV ?_
  | refine L_par ?_
  | refine L_par3 ?_
  | refine L_vs2 ?_
  | refine L_vs3 ?_
  | refine L_aug rfl ?_
  | refine L_ipI ?_
  | refine L_retN ?_
  | refine L_brk ?_
  | refine L_cont ?_
  | refine L_tru ?_
  | refine L_truB ?_
  | refine L_truI ?_
  | refine L_abs ?_
  | refine L_max2 ?_
  | refine L_min2 ?_
  | refine L_int1 ?_
  | refine L_int1B ?_
  | refine L_for ?_
  | refine L_iRng1 ?_
  | refine L_iRng2 ?_
  | refine L_iList ?_
  | refine L_iTup ?_
  | refine L_yes ?_
  | refine L_iZip ?_
  | refine L_iEnum ?_
  | refine L_iStr ?_
  | refine L_iRng3 ?_
  | refine L_lc ?_
  | refine L_make ?_
  | refine L_nnT ?_
  | refine L_nnF ?_
  | refine L_disp1 ?_
  | refine L_rng2 ?_
  | refine L_bm0 ?_
  | refine L_neB ?_
  | refine L_dnew ?_
  | refine L_sl ?_
  | refine L_noPart ?_
  | refine L_part ?_
  | refine L_ki ?_
  | refine L_methE ?_
  | refine L_meth ?_
  | refine L_makeE ?_
  | refine L_gCons ?_
  | refine L_gNil ?_
  | refine L_sub ?_
  | refine L_sFld ?_)
local macro_rules | `(tactic| walk_at "st") => `(tactic| first | walk_at "st1" | walk_at "op" | with_reducible refine L_ifE ?_)
local macro_rules | `(tactic| walk_at "stn") => `(tactic| repeat first | walk_at "st1" | walk_at "op")
local macro_rules | `(tactic| walk_at "sts") => `(tactic| repeat walk_at "st")
/-! the same, and what is shown by itself: sizes, bounds, what stands in the heap -/
local macro_rules | `(tactic| walk_at "bd") => `(tactic| first | exact bd_mod (by decide) | exact bd_64 (by decide) | exact bd_64 (by omega))
local macro_rules | `(tactic| walk_at "sa1") => `(tactic| first
  | walk_at "st"
  | (with_reducible refine G_mod ?_; with_reducible refine L_I (show _ < _ by first | decide | omega) ?_)
  | (with_reducible refine G_mul ?_; with_reducible refine L_mulI (Bd.cmul (n := 64) (m := 64) (by walk_at "bd") (by walk_at "bd")) ?_)
  | (with_reducible refine G_div ?_; with_reducible refine L_I (cdiv_lit (by first | decide | omega)) ?_)
  | (with_reducible refine G_pow ?_; with_reducible first
    | refine L_powE (i := 10) (j := 9) (n := 1000000000) (cpow_lit (by decide)) (by decide) ?_
    | refine L_powE (i := 10) (j := 6) (n := 1000000) (cpow_lit (by decide)) (by decide) ?_
    | refine L_powE (i := 10) (j := 10) (n := 10000000000) (cpow_lit (by decide)) (by decide) ?_
    | refine L_powE (i := 10) (j := 12) (n := 1000000000000) (cpow_lit (by decide)) (by decide) ?_
    | refine L_powE (i := 10) (j := 13) (n := 10000000000000) (cpow_lit (by decide)) (by decide) ?_
    | refine L_powE (i := 10) (j := 20) (n := 100000000000000000000) (cpow_lit (by decide)) (by decide) ?_
    | refine L_powE (i := 10) (j := 29) (n := 100000000000000000000000000000) (cpow_lit (by decide)) (by decide) ?_
    | refine L_powE (i := 10) (j := 30) (n := 1000000000000000000000000000000) (cpow_lit (by decide)) (by decide) ?_
    | refine L_powE (i := 10) (j := 39) (n := 1000000000000000000000000000000000000000) (cpow_lit (by decide)) (by decide) ?_
    | refine L_powE (i := 10) (j := 40) (n := 10000000000000000000000000000000000000000) (cpow_lit (by decide)) (by decide) ?_
    | refine L_powE (i := 10) (j := 60) (n := 1000000000000000000000000000000000000000000000000000000000000) (cpow_lit (by decide)) (by decide) ?_
    | refine L_powE (i := 2) (j := 3) (n := 8) (cpow_lit (by decide)) (by decide) ?_
    | refine L_powE (i := 2) (j := 40) (n := 1099511627776) (cpow_lit (by decide)) (by decide) ?_)
  | (with_reducible refine G_ix ?_; with_reducible first | refine L_ixT (by walk_at "hpT") (by with_unfolding_all rfl) ?_ | refine L_ixL (by walk_at "hpL") (by with_unfolding_all rfl) ?_)
  | (with_reducible refine G_len ?_; with_reducible first | refine L_lenL (by walk_at "hpL") ?_ | refine L_lenT (by walk_at "hpT") ?_)
  | walk_at "fd"
  | (with_reducible refine G_meth ?_; with_reducible refine L_methv (by walk_at "hp") (by with_unfolding_all rfl) ?_)
  | (with_reducible refine G_isi ?_; with_reducible first | refine L_isi (.base (.int _)) (b := true) (by decide +kernel) ?_ | refine L_isi (.base (.int _)) (b := false) (by decide +kernel) ?_)
  | (with_reducible refine G_d ?_; with_reducible first | refine L_dT (by first | assumption | omega) ?_ | refine L_dF (by first | assumption | omega) ?_)
  | (with_reducible refine G_nd ?_; with_reducible first | refine L_ndT (by first | assumption | omega) ?_ | refine L_ndF (by first | assumption | omega) ?_))
local macro_rules | `(tactic| walk_at "sa") => `(tactic| repeat walk_at "sa1")
/-! what stood stands -/
local macro_rules | `(tactic| walk_at "sm") => `(tactic| first
  | assumption
  | exact Same.refl _
  | (with_reducible apply same_upd'; assumption; walk_at "sm")
  | (with_reducible apply same_mut'; assumption; walk_at "sm")
  | (with_reducible apply same_via; assumption; walk_at "sm"))
/-! a new list or tuple: its place p, hp : H p = none, the heap behind it Hn, that all stands, what stands at p -/
local macro_rules | `(tactic| walk_at "nw") => `(tactic| (
  (refine L_new (by first | decide | exact sz_dec (by simp)) ?_)
  (intro p hp)
  (generalize hg : upd _ p _ = Hn)
  (have sn := same_newE hg hp)
  (have en := upd_at hg)
  (clear hg)))
/-! plain things as data -/
local macro_rules | `(tactic| walk_at "dpa") => `(tactic| first
  | exact .nil
  | (refine .cons (by first | exact .int _ | exact .str _ | exact .bl _ | exact .non | assumption) ?_; walk_at "dpa"))
local macro_rules | `(tactic| walk_at "nwp") => `(tactic| (
  (intro p hp)
  (generalize hg : upd _ p _ = Hn)
  (have sn := same_newE hg hp)
  (have en := upd_at hg)
  (clear hg)))

def top (i : Nat) : Stmt := PySem.Challenge.pw_fewspeak_k72_whole_no_candidate_is_needl.main.body.getD i (.Pass ⟨0, 0, 0, 0⟩)
abbrev s_is_whole : Stmt := top 6
abbrev s_is_name : Stmt := top 7
abbrev s_Candidate___init__ : Stmt := inClass (top 12) 0
abbrev s_Candidate_is_less : Stmt := inClass (top 12) 1
abbrev s_Candidate_shown : Stmt := inClass (top 12) 2
abbrev s_Last___init__ : Stmt := inClass (top 13) 0
abbrev s_Last_come : Stmt := inClass (top 13) 1
abbrev s_Last_sample : Stmt := inClass (top 13) 3
abbrev s_Last_candidates : Stmt := inClass (top 13) 4
abbrev s__law_cell_at : Stmt := top 15
abbrev s__law_mix : Stmt := top 16
abbrev s__law_numbers : Stmt := top 17
abbrev s__law_name : Stmt := top 18
abbrev s__law_last : Stmt := top 19
abbrev s__law_names : Stmt := top 20
abbrev s__law_led_on : Stmt := top 21
abbrev s__law_at : Stmt := top 22
abbrev s_law : Stmt := top 23
theorem sc_is_whole : FnScope ["thing", "low", "high"] ["thing", "low", "high"] (defScope s_is_whole) := ⟨rfl, rfl, rfl, by decide +kernel, rfl, by decide +kernel, by decide +kernel⟩
theorem sc_is_name : FnScope ["thing", "sign"] ["thing"] (defScope s_is_name) := ⟨rfl, rfl, rfl, by decide +kernel, rfl, by decide +kernel, by decide +kernel⟩
theorem sc_Candidate___init__ : FnScope ["self", "place", "thing", "number"] ["self", "place", "thing", "number"] (defScope s_Candidate___init__) := ⟨rfl, rfl, rfl, by decide +kernel, rfl, by decide +kernel, by decide +kernel⟩
theorem sc_Candidate_is_less : FnScope ["self", "other"] ["self", "other"] (defScope s_Candidate_is_less) := ⟨rfl, rfl, rfl, by decide +kernel, rfl, by decide +kernel, by decide +kernel⟩
theorem sc_Candidate_shown : FnScope ["self"] ["self"] (defScope s_Candidate_shown) := ⟨rfl, rfl, rfl, by decide +kernel, rfl, by decide +kernel, by decide +kernel⟩
theorem sc_Last___init__ : FnScope ["self", "wide", "most"] ["self", "wide", "most"] (defScope s_Last___init__) := ⟨rfl, rfl, rfl, by decide +kernel, rfl, by decide +kernel, by decide +kernel⟩
theorem sc_Last_come : FnScope ["self", "thing", "number", "fresh", "one", "first"] ["self", "thing", "number"] (defScope s_Last_come) := ⟨rfl, rfl, rfl, by decide +kernel, rfl, by decide +kernel, by decide +kernel⟩
theorem sc_Last_sample : FnScope ["self", "found", "one", "greater", "other"] ["self"] (defScope s_Last_sample) := ⟨rfl, rfl, rfl, by decide +kernel, rfl, by decide +kernel, by decide +kernel⟩
theorem sc_Last_candidates : FnScope ["self", "one"] ["self"] (defScope s_Last_candidates) := ⟨rfl, rfl, rfl, by decide +kernel, rfl, by decide +kernel, by decide +kernel⟩
theorem sc__law_cell_at : FnScope ["_law_script", "_law_k"] ["_law_script", "_law_k"] (defScope s__law_cell_at) := ⟨rfl, rfl, rfl, by decide +kernel, rfl, by decide +kernel, by decide +kernel⟩
theorem sc__law_mix : FnScope ["_law_cell", "_law_k", "_law_number"] ["_law_cell", "_law_k"] (defScope s__law_mix) := ⟨rfl, rfl, rfl, by decide +kernel, rfl, by decide +kernel, by decide +kernel⟩
theorem sc__law_numbers : FnScope ["_law_cell", "_law_digits", "_law_bases", "_law_numbers_here", "_law_k", "_law_base"] ["_law_cell", "_law_digits", "_law_bases"] (defScope s__law_numbers) := ⟨rfl, rfl, rfl, by decide +kernel, rfl, by decide +kernel, by decide +kernel⟩
theorem sc__law_name : FnScope ["_law_place", "_law_letters"] ["_law_place"] (defScope s__law_name) := ⟨rfl, rfl, rfl, by decide +kernel, rfl, by decide +kernel, by decide +kernel⟩
theorem sc__law_last : FnScope ["_law_wide", "_law_most", "_law_numbers_here", "_law_last_here", "_law_place", "_law_number"] ["_law_wide", "_law_most", "_law_numbers_here"] (defScope s__law_last) := ⟨rfl, rfl, rfl, by decide +kernel, rfl, by decide +kernel, by decide +kernel⟩
theorem sc__law_names : FnScope ["_law_rows", "_law_name_here", "_law_number"] ["_law_rows"] (defScope s__law_names) := ⟨rfl, rfl, rfl, by decide +kernel, rfl, by decide +kernel, by decide +kernel⟩
theorem sc__law_led_on : FnScope ["_law_wide", "_law_most", "_law_numbers_here", "_law_more", "_law_last_here", "_law_met_names", "_law_k", "_law_number", "_law_name_here"] ["_law_wide", "_law_most", "_law_numbers_here", "_law_more"] (defScope s__law_led_on) := ⟨rfl, rfl, rfl, by decide +kernel, rfl, by decide +kernel, by decide +kernel⟩
theorem sc__law_at : FnScope ["_law_wide", "_law_most", "_law_numbers_here", "_law_drawn_ones", "_law_last_here", "_law_some", "_law_first", "_law_gone", "_law_met_names", "_law_name_here", "_law_place"] ["_law_wide", "_law_most", "_law_numbers_here", "_law_drawn_ones"] (defScope s__law_at) := ⟨rfl, rfl, rfl, by decide +kernel, rfl, by decide +kernel, by decide +kernel⟩
theorem sc_law : FnScope ["_law_script", "_law_digits", "_law_wide", "_law_most", "_law_level", "_law_top", "_law_numbers_here", "_law_drawn_ones", "_law_many", "_law_cell", "_law_k"] ["_law_script"] (defScope s_law) := ⟨rfl, rfl, rfl, by decide +kernel, rfl, by decide +kernel, by decide +kernel⟩
/-- what the top has written -/
structure Txt (K : PySem.W.Frag) (mg : Str → Option Value) : Prop where
  n_bool : mg "bool" = none
  n_int : mg "int" = none
  n_isinstance : mg "isinstance" = none
  n_len : mg "len" = none
  n_str : mg "str" = none
  g_LETTERS : ∃ u, mg "LETTERS" = some u ∧ RelV (.str "abcdefghijklmnopqrstuvwxyz") u
  m_Candidate : mg "Candidate" = some (.ref (cA mg "Candidate"))
  k_Candidate : Cls K (cA mg "Candidate")
  na_Candidate_place : NoAttr K (cA mg "Candidate") "place"
  na_Candidate_thing : NoAttr K (cA mg "Candidate") "thing"
  na_Candidate_number : NoAttr K (cA mg "Candidate") "number"
  na_Candidate_above : NoAttr K (cA mg "Candidate") "above"
  m_Last : mg "Last" = some (.ref (cA mg "Last"))
  k_Last : Cls K (cA mg "Last")
  na_Last_wide : NoAttr K (cA mg "Last") "wide"
  na_Last_most : NoAttr K (cA mg "Last") "most"
  na_Last_passed : NoAttr K (cA mg "Last") "passed"
  na_Last_row : NoAttr K (cA mg "Last") "row"
  g_MOST_KEPT : ∃ u, mg "MOST_KEPT" = some u ∧ RelV (.int 24) u
  g_WIDEST : ∃ u, mg "WIDEST" = some u ∧ RelV (.int 100) u
  m_NoThing : mg "NoThing" = some (.ref (cA mg "NoThing"))
  x_NoThing : ExcAt K (cA mg "NoThing")
  g_MOST_NUMBER : ∃ u, mg "MOST_NUMBER" = some u ∧ RelV (.int 1000000000) u
  n_enumerate : mg "enumerate" = none
  n_max : mg "max" = none
  n_min : mg "min" = none
  n_range : mg "range" = none
  d_is_whole : DefAt K mg "is_whole" s_is_whole ["thing", "low", "high"]
  d_is_name : DefAt K mg "is_name" s_is_name ["thing"]
  i_Candidate : InitAt K (cA mg "Candidate") "Candidate.__init__" s_Candidate___init__ ["self", "place", "thing", "number"]
  d_Candidate_is_less : MethAt K (cA mg "Candidate") "is_less" "Candidate.is_less" s_Candidate_is_less ["self", "other"]
  d_Candidate_shown : MethAt K (cA mg "Candidate") "shown" "Candidate.shown" s_Candidate_shown ["self"]
  i_Last : InitAt K (cA mg "Last") "Last.__init__" s_Last___init__ ["self", "wide", "most"]
  d_Last_come : MethAt K (cA mg "Last") "come" "Last.come" s_Last_come ["self", "thing", "number"]
  d_Last_sample : MethAt K (cA mg "Last") "sample" "Last.sample" s_Last_sample ["self"]
  d_Last_candidates : MethAt K (cA mg "Last") "candidates" "Last.candidates" s_Last_candidates ["self"]
  d__law_cell_at : DefAt K mg "_law_cell_at" s__law_cell_at ["_law_script", "_law_k"]
  d__law_mix : DefAt K mg "_law_mix" s__law_mix ["_law_cell", "_law_k"]
  d__law_numbers : DefAt K mg "_law_numbers" s__law_numbers ["_law_cell", "_law_digits", "_law_bases"]
  d__law_name : DefAt K mg "_law_name" s__law_name ["_law_place"]
  d__law_last : DefAt K mg "_law_last" s__law_last ["_law_wide", "_law_most", "_law_numbers_here"]
  d__law_names : DefAt K mg "_law_names" s__law_names ["_law_rows"]
  d__law_led_on : DefAt K mg "_law_led_on" s__law_led_on ["_law_wide", "_law_most", "_law_numbers_here", "_law_more"]
  d__law_at : DefAt K mg "_law_at" s__law_at ["_law_wide", "_law_most", "_law_numbers_here", "_law_drawn_ones"]
  d_law : DefAt K mg "law" s_law ["_law_script"]
section
variable {P : Program} {w : World} {K : PySem.W.Frag} {mg : Str → Option Value} {base : Heap}
theorem fd_Candidate_place (T : Txt K mg) {H : Hp} {a dx : Addr} {fs : List (Str × V)} {v : V} {Q : V → Prop} (h : H a = some (.ins (cA mg "Candidate") dx fs)) (l : fs.lookup ("place" : Str) = some v) (q : Q v) : ∃ a1 C dx fs v, V.ref a = V.ref a1 ∧ H a1 = some (.ins C dx fs) ∧ Cls K C ∧ NoAttr K C "place" ∧ fs.lookup ("place" : Str) = some v ∧ Q v := L_fldv h T.k_Candidate T.na_Candidate_place l q
theorem fg_Candidate_place {H : Hp} {a : Addr} {Q : V → Prop} (h : ∃ a1 C dx fs v, V.ref a = V.ref a1 ∧ H a1 = some (.ins C dx fs) ∧ Cls K C ∧ NoAttr K C "place" ∧ fs.lookup ("place" : Str) = some v ∧ Q v) : ∃ a1 C dx fs v, V.ref a = V.ref a1 ∧ H a1 = some (.ins C dx fs) ∧ Cls K C ∧ NoAttr K C "place" ∧ fs.lookup ("place" : Str) = some v ∧ Q v := h
local macro_rules | `(tactic| walk_at "fd") => `(tactic| (with_reducible refine fg_Candidate_place ?_; with_reducible refine fd_Candidate_place (by assumption) (by walk_at "hp") (by with_unfolding_all rfl) ?_))
theorem fd_Candidate_thing (T : Txt K mg) {H : Hp} {a dx : Addr} {fs : List (Str × V)} {v : V} {Q : V → Prop} (h : H a = some (.ins (cA mg "Candidate") dx fs)) (l : fs.lookup ("thing" : Str) = some v) (q : Q v) : ∃ a1 C dx fs v, V.ref a = V.ref a1 ∧ H a1 = some (.ins C dx fs) ∧ Cls K C ∧ NoAttr K C "thing" ∧ fs.lookup ("thing" : Str) = some v ∧ Q v := L_fldv h T.k_Candidate T.na_Candidate_thing l q
theorem fg_Candidate_thing {H : Hp} {a : Addr} {Q : V → Prop} (h : ∃ a1 C dx fs v, V.ref a = V.ref a1 ∧ H a1 = some (.ins C dx fs) ∧ Cls K C ∧ NoAttr K C "thing" ∧ fs.lookup ("thing" : Str) = some v ∧ Q v) : ∃ a1 C dx fs v, V.ref a = V.ref a1 ∧ H a1 = some (.ins C dx fs) ∧ Cls K C ∧ NoAttr K C "thing" ∧ fs.lookup ("thing" : Str) = some v ∧ Q v := h
local macro_rules | `(tactic| walk_at "fd") => `(tactic| (with_reducible refine fg_Candidate_thing ?_; with_reducible refine fd_Candidate_thing (by assumption) (by walk_at "hp") (by with_unfolding_all rfl) ?_))
theorem fd_Candidate_number (T : Txt K mg) {H : Hp} {a dx : Addr} {fs : List (Str × V)} {v : V} {Q : V → Prop} (h : H a = some (.ins (cA mg "Candidate") dx fs)) (l : fs.lookup ("number" : Str) = some v) (q : Q v) : ∃ a1 C dx fs v, V.ref a = V.ref a1 ∧ H a1 = some (.ins C dx fs) ∧ Cls K C ∧ NoAttr K C "number" ∧ fs.lookup ("number" : Str) = some v ∧ Q v := L_fldv h T.k_Candidate T.na_Candidate_number l q
theorem fg_Candidate_number {H : Hp} {a : Addr} {Q : V → Prop} (h : ∃ a1 C dx fs v, V.ref a = V.ref a1 ∧ H a1 = some (.ins C dx fs) ∧ Cls K C ∧ NoAttr K C "number" ∧ fs.lookup ("number" : Str) = some v ∧ Q v) : ∃ a1 C dx fs v, V.ref a = V.ref a1 ∧ H a1 = some (.ins C dx fs) ∧ Cls K C ∧ NoAttr K C "number" ∧ fs.lookup ("number" : Str) = some v ∧ Q v := h
local macro_rules | `(tactic| walk_at "fd") => `(tactic| (with_reducible refine fg_Candidate_number ?_; with_reducible refine fd_Candidate_number (by assumption) (by walk_at "hp") (by with_unfolding_all rfl) ?_))
theorem fd_Candidate_above (T : Txt K mg) {H : Hp} {a dx : Addr} {fs : List (Str × V)} {v : V} {Q : V → Prop} (h : H a = some (.ins (cA mg "Candidate") dx fs)) (l : fs.lookup ("above" : Str) = some v) (q : Q v) : ∃ a1 C dx fs v, V.ref a = V.ref a1 ∧ H a1 = some (.ins C dx fs) ∧ Cls K C ∧ NoAttr K C "above" ∧ fs.lookup ("above" : Str) = some v ∧ Q v := L_fldv h T.k_Candidate T.na_Candidate_above l q
theorem fg_Candidate_above {H : Hp} {a : Addr} {Q : V → Prop} (h : ∃ a1 C dx fs v, V.ref a = V.ref a1 ∧ H a1 = some (.ins C dx fs) ∧ Cls K C ∧ NoAttr K C "above" ∧ fs.lookup ("above" : Str) = some v ∧ Q v) : ∃ a1 C dx fs v, V.ref a = V.ref a1 ∧ H a1 = some (.ins C dx fs) ∧ Cls K C ∧ NoAttr K C "above" ∧ fs.lookup ("above" : Str) = some v ∧ Q v := h
local macro_rules | `(tactic| walk_at "fd") => `(tactic| (with_reducible refine fg_Candidate_above ?_; with_reducible refine fd_Candidate_above (by assumption) (by walk_at "hp") (by with_unfolding_all rfl) ?_))
theorem fd_Last_wide (T : Txt K mg) {H : Hp} {a dx : Addr} {fs : List (Str × V)} {v : V} {Q : V → Prop} (h : H a = some (.ins (cA mg "Last") dx fs)) (l : fs.lookup ("wide" : Str) = some v) (q : Q v) : ∃ a1 C dx fs v, V.ref a = V.ref a1 ∧ H a1 = some (.ins C dx fs) ∧ Cls K C ∧ NoAttr K C "wide" ∧ fs.lookup ("wide" : Str) = some v ∧ Q v := L_fldv h T.k_Last T.na_Last_wide l q
theorem fg_Last_wide {H : Hp} {a : Addr} {Q : V → Prop} (h : ∃ a1 C dx fs v, V.ref a = V.ref a1 ∧ H a1 = some (.ins C dx fs) ∧ Cls K C ∧ NoAttr K C "wide" ∧ fs.lookup ("wide" : Str) = some v ∧ Q v) : ∃ a1 C dx fs v, V.ref a = V.ref a1 ∧ H a1 = some (.ins C dx fs) ∧ Cls K C ∧ NoAttr K C "wide" ∧ fs.lookup ("wide" : Str) = some v ∧ Q v := h
local macro_rules | `(tactic| walk_at "fd") => `(tactic| (with_reducible refine fg_Last_wide ?_; with_reducible refine fd_Last_wide (by assumption) (by walk_at "hp") (by with_unfolding_all rfl) ?_))
theorem fd_Last_most (T : Txt K mg) {H : Hp} {a dx : Addr} {fs : List (Str × V)} {v : V} {Q : V → Prop} (h : H a = some (.ins (cA mg "Last") dx fs)) (l : fs.lookup ("most" : Str) = some v) (q : Q v) : ∃ a1 C dx fs v, V.ref a = V.ref a1 ∧ H a1 = some (.ins C dx fs) ∧ Cls K C ∧ NoAttr K C "most" ∧ fs.lookup ("most" : Str) = some v ∧ Q v := L_fldv h T.k_Last T.na_Last_most l q
theorem fg_Last_most {H : Hp} {a : Addr} {Q : V → Prop} (h : ∃ a1 C dx fs v, V.ref a = V.ref a1 ∧ H a1 = some (.ins C dx fs) ∧ Cls K C ∧ NoAttr K C "most" ∧ fs.lookup ("most" : Str) = some v ∧ Q v) : ∃ a1 C dx fs v, V.ref a = V.ref a1 ∧ H a1 = some (.ins C dx fs) ∧ Cls K C ∧ NoAttr K C "most" ∧ fs.lookup ("most" : Str) = some v ∧ Q v := h
local macro_rules | `(tactic| walk_at "fd") => `(tactic| (with_reducible refine fg_Last_most ?_; with_reducible refine fd_Last_most (by assumption) (by walk_at "hp") (by with_unfolding_all rfl) ?_))
theorem fd_Last_passed (T : Txt K mg) {H : Hp} {a dx : Addr} {fs : List (Str × V)} {v : V} {Q : V → Prop} (h : H a = some (.ins (cA mg "Last") dx fs)) (l : fs.lookup ("passed" : Str) = some v) (q : Q v) : ∃ a1 C dx fs v, V.ref a = V.ref a1 ∧ H a1 = some (.ins C dx fs) ∧ Cls K C ∧ NoAttr K C "passed" ∧ fs.lookup ("passed" : Str) = some v ∧ Q v := L_fldv h T.k_Last T.na_Last_passed l q
theorem fg_Last_passed {H : Hp} {a : Addr} {Q : V → Prop} (h : ∃ a1 C dx fs v, V.ref a = V.ref a1 ∧ H a1 = some (.ins C dx fs) ∧ Cls K C ∧ NoAttr K C "passed" ∧ fs.lookup ("passed" : Str) = some v ∧ Q v) : ∃ a1 C dx fs v, V.ref a = V.ref a1 ∧ H a1 = some (.ins C dx fs) ∧ Cls K C ∧ NoAttr K C "passed" ∧ fs.lookup ("passed" : Str) = some v ∧ Q v := h
local macro_rules | `(tactic| walk_at "fd") => `(tactic| (with_reducible refine fg_Last_passed ?_; with_reducible refine fd_Last_passed (by assumption) (by walk_at "hp") (by with_unfolding_all rfl) ?_))
theorem fd_Last_row (T : Txt K mg) {H : Hp} {a dx : Addr} {fs : List (Str × V)} {v : V} {Q : V → Prop} (h : H a = some (.ins (cA mg "Last") dx fs)) (l : fs.lookup ("row" : Str) = some v) (q : Q v) : ∃ a1 C dx fs v, V.ref a = V.ref a1 ∧ H a1 = some (.ins C dx fs) ∧ Cls K C ∧ NoAttr K C "row" ∧ fs.lookup ("row" : Str) = some v ∧ Q v := L_fldv h T.k_Last T.na_Last_row l q
theorem fg_Last_row {H : Hp} {a : Addr} {Q : V → Prop} (h : ∃ a1 C dx fs v, V.ref a = V.ref a1 ∧ H a1 = some (.ins C dx fs) ∧ Cls K C ∧ NoAttr K C "row" ∧ fs.lookup ("row" : Str) = some v ∧ Q v) : ∃ a1 C dx fs v, V.ref a = V.ref a1 ∧ H a1 = some (.ins C dx fs) ∧ Cls K C ∧ NoAttr K C "row" ∧ fs.lookup ("row" : Str) = some v ∧ Q v := h
local macro_rules | `(tactic| walk_at "fd") => `(tactic| (with_reducible refine fg_Last_row ?_; with_reducible refine fd_Last_row (by assumption) (by walk_at "hp") (by with_unfolding_all rfl) ?_))
def sp_is_whole (K : PySem.W.Frag) (mg : Str → Option Value) : Sp := fun vs H Q _ => match vs with | [v, .int lo, .int hi] => (∃ t, v = .int t ∧ Q (.bl (decide (lo ≤ t) && decide (t ≤ hi))) H) ∨ (NotW K H v ∧ Q (.bl false) H) | _ => False
theorem c_is_whole (T : Txt K mg) : Cal P w K mg base 1 "is_whole" (sp_is_whole K mg) := by
  refine T.d_is_whole.cal (k := 0) sc_is_whole (by intro vs H Q E h; unfold sp_is_whole at h; split at h <;> first | rfl | exact h.elim) fun f cdv A outer s H vs Q E hr h => ?_
  refine ⟨_, (pss_cons (ps_if (PW.pt (pw_or (pt_not (pt_val (pe_callB call_isi (by rfl) T.n_isinstance (by decide +kernel) (pa_cons (pv 0) (pa_cons (pe_ty "int" (by rfl) T.n_int (by decide +kernel)) pa_nil))))) (pw_or1 (pt_val (pe_callB call_isi (by rfl) T.n_isinstance (by decide +kernel) (pa_cons (pv 0) (pa_cons (pe_ty "bool" (by rfl) T.n_bool (by decide +kernel)) pa_nil)))))))
    (pss_one (ps_ret pe_bl))
    pss_nil)
    (pss_one (ps_ret (pe_chain op_leA op_leA (pv 1) (pv 0) (pv 2))))), ?_⟩
  try simp only [cxOf_K, cxOf_K', cxOf_mg, cxOf_mg']
  unfold sp_is_whole at h
  split at h
  case h_2 => exact h.elim
  rename_i v lo hi
  rw [show L2.start ["thing", "low", "high"] [v, V.int lo, V.int hi] = [some (v), some (V.int lo), some (V.int hi)] from rfl]
  rcases h with ⟨t, rfl, q⟩ | ⟨⟨b, rfl⟩ | ⟨ty, h1, h2⟩, q⟩
  · walk_at "sa"
    refine L_d (fun c1 => ?_) (fun c1 => ?_)
    · rw [decide_eq_true c1, Bool.true_and] at q
      walk_at "sts"
      exact q
    · rw [decide_eq_false c1, Bool.false_and] at q
      exact q
  · walk_at "sts"
    refine L_isi (.base (.bl b)) (b := true) (by decide +kernel) ?_
    walk_at "sts"
    refine L_isi (.base (.bl b)) (b := true) (by decide +kernel) ?_
    walk_at "sts"
    exact q
  · walk_at "sts"
    refine L_isi h1 h2 ?_
    walk_at "sts"
    exact q
theorem q_whole {H : Hp} {Q : VK} {E : XK} {t lo hi : Int} (q : Q (.bl (decide (lo ≤ t) && decide (t ≤ hi))) H) : sp_is_whole K mg [.int t, .int lo, .int hi] H Q E := .inl ⟨t, rfl, q⟩
theorem q_wholeT {H : Hp} {Q : VK} {E : XK} {t lo hi : Int} (h : lo ≤ t ∧ t ≤ hi) (q : Q (.bl true) H) : sp_is_whole K mg [.int t, .int lo, .int hi] H Q E := q_whole (by rw [decide_eq_true h.1, decide_eq_true h.2]; exact q)
theorem q_wholeF {H : Hp} {Q : VK} {E : XK} {t lo hi : Int} (h : ¬ (lo ≤ t ∧ t ≤ hi)) (q : Q (.bl false) H) : sp_is_whole K mg [.int t, .int lo, .int hi] H Q E := q_whole (by
  rw [show (decide (lo ≤ t) && decide (t ≤ hi)) = false by simp only [Bool.and_eq_false_iff, decide_eq_false_iff_not]; omega]; exact q)
theorem q_wholeN {H : Hp} {Q : VK} {E : XK} {v : V} {lo hi : Int} (h : NotW K H v) (q : Q (.bl false) H) : sp_is_whole K mg [v, .int lo, .int hi] H Q E := .inr ⟨h, q⟩
theorem q_wholeB {H : Hp} {Q : VK} {E : XK} {v : V} {lo hi : Int} (h : BadW K H v lo hi) (q : Q (.bl false) H) : sp_is_whole K mg [v, .int lo, .int hi] H Q E := by
  rcases h with h | ⟨t, rfl, h⟩
  · exact q_wholeN h q
  · exact q_wholeF h q
theorem q_wholeG {H : Hp} {Q : VK} {E : XK} {t lo hi : Int} (h : sp_is_whole K mg [.int t, .int lo, .int hi] H Q E) : sp_is_whole K mg [.int t, .int lo, .int hi] H Q E := h
local macro_rules | `(tactic| walk_at "op") => `(tactic| with_reducible (refine q_wholeG ?_; first | refine q_wholeT (by omega) ?_ | refine q_wholeF (by omega) ?_ | refine q_whole ?_))
/-- a name: one to eight small letters -/
def isName (z : Str) : Bool := decide (1 ≤ z.length ∧ z.length ≤ 8) && z.cps.toList.all fun c => decide (97 ≤ c ∧ c ≤ 122)
theorem letters_is : (Str.ofString "abcdefghijklmnopqrstuvwxyz").cps.toList = List.range' 97 26 := by decide +kernel
theorem mem_letters {c : Nat} : c ∈ (Str.ofString "abcdefghijklmnopqrstuvwxyz").cps.toList ↔ 97 ≤ c ∧ c ≤ 122 := by
  rw [letters_is, List.mem_range'_1]
  omega
def sp_is_name (K : PySem.W.Frag) (mg : Str → Option Value) : Sp := fun vs H Q _ => match vs with | [v] => (∃ z : Str, v = .str z ∧ z.length ≤ 1000000 ∧ Q (.bl (isName z)) H) ∨ (NotS K H v ∧ Q (.bl false) H) | _ => False
theorem c_is_name (T : Txt K mg) : Cal P w K mg base 1 "is_name" (sp_is_name K mg) := by
  refine T.d_is_name.cal (k := 0) sc_is_name (by intro vs H Q E h; unfold sp_is_name at h; split at h <;> first | rfl | exact h.elim) fun f cdv A outer s H vs Q E hr h => ?_
  refine ⟨_, (pss_cons (ps_if (PW.pt (pw_or (pt_not (pt_val (pe_callB call_isi (by rfl) T.n_isinstance (by decide +kernel) (pa_cons (pv 0) (pa_cons (pe_ty "str" (by rfl) T.n_str (by decide +kernel)) pa_nil))))) (pw_or1 (pt_not (pt_chain op_leA op_leA pe_int (pe_callB call_lenA (by rfl) T.n_len (by decide +kernel) (pa_cons (pv 0) pa_nil)) pe_int)))))
    (pss_one (ps_ret pe_bl))
    pss_nil)
    (pss_cons (ps_for PassesOwn.never rfl (pi_str (pv 0)) (pg_name (i := 1) sc_is_name.nd rfl (.inl rfl))
    (pss_one (ps_if (pt_cmpR op_notInA (pv 1) (pe_gc (by rfl) T.g_LETTERS) (by rfl))
    (pss_one (ps_ret pe_bl))
    pss_nil)))
    (pss_one (ps_ret pe_bl)))), ?_⟩
  try simp only [cxOf_K, cxOf_K', cxOf_mg, cxOf_mg']
  unfold sp_is_name at h
  split at h
  case h_2 => exact h.elim
  rename_i v
  rw [show L2.start ["thing", "sign"] [v] = [some (v), none] from rfl]
  rcases h with ⟨z, rfl, hz, q⟩ | ⟨⟨ty, h1, h2⟩, q⟩
  · unfold isName at q
    walk_at "sts"
    refine L_isi (.base (.str z)) (b := true) (by decide +kernel) ?_
    walk_at "sts"
    refine L_lenS (sz_dec hz) ?_
    walk_at "sts"
    refine L_d (fun c1 => ?_) (fun c1 => ?_)
    · walk_at "sts"
      refine L_nd (fun c2 => ?_) (fun c2 => ?_)
      · rw [decide_eq_false (show ¬ (1 ≤ z.length ∧ z.length ≤ 8) by omega), Bool.false_and] at q
        walk_at "sts"
        exact q
      · rw [decide_eq_true (show (1 ≤ z.length ∧ z.length ≤ 8) by omega), Bool.true_and] at q
        walk_at "sts"
        refine L_rs ?_
        refine f_it walk_str (fun i σ' H' => (∃ v, σ' = [some (.str z), v]) ∧ H' = H ∧ (z.cps.toList.take i).all (fun c => decide (97 ≤ c ∧ c ≤ 122)) = true) ⟨⟨_, rfl⟩, rfl, rfl⟩ (fun _ _ _ _ _ => True.intro) ?_ ?_
        · rintro i x σ' H' H'' hi ⟨⟨v, rfl⟩, rfl, hall⟩ ⟨rfl, c, hc, rfl⟩
          have hc' : z.cps.toList[i]? = some c := by rw [Array.getElem?_toList]; exact hc
          walk_at "sts"
          refine L_nd (fun c3 => ?_) (fun c3 => ?_)
          · walk_at "sts"
            rw [show (z.cps.toList.all fun c => decide (97 ≤ c ∧ c ≤ 122)) = false from ?_] at q
            · exact q
            · rw [List.all_eq_false]
              exact ⟨c, List.mem_of_getElem? hc', by simpa using fun h => Nat.lt_of_not_le fun h' => c3 (mem_letters.mpr ⟨h, h'⟩)⟩
          · walk_at "sts"
            refine ⟨⟨_, rfl⟩, rfl, ?_⟩
            rw [List.take_succ, hc', List.all_append, hall]
            simpa using mem_letters.mp c3
        · rintro σ' H' ⟨⟨v, rfl⟩, rfl, hall⟩
          rw [List.take_of_length_le (by rw [Array.length_toList]; exact Nat.le_refl _)] at hall
          rw [hall] at q
          walk_at "sts"
          exact q
    · rw [decide_eq_false (show ¬ (1 ≤ z.length ∧ z.length ≤ 8) by omega), Bool.false_and] at q
      walk_at "sts"
      exact q
  · walk_at "sts"
    refine L_isi h1 h2 ?_
    walk_at "sts"
    exact q
theorem q_nameS {H : Hp} {Q : VK} {E : XK} {z : Str} (h : z.length ≤ 1000000) (q : Q (.bl (isName z)) H) : sp_is_name K mg [.str z] H Q E := .inl ⟨z, rfl, h, q⟩
theorem q_nameN {H : Hp} {Q : VK} {E : XK} {v : V} (h : NotS K H v) (q : Q (.bl false) H) : sp_is_name K mg [v] H Q E := .inr ⟨h, q⟩
/-- a thing that came: its place, its name, its number -/
abbrev Rw := Int × Str × Int
/-- the first one is greater -/
def gr (a b : Rw) : Bool := if a.2.2 = b.2.2 then decide (a.1 < b.1) else decide (b.2.2 < a.2.2)
theorem gr_trans {a b c : Rw} (h1 : gr a b = true) (h2 : gr b c = true) : gr a c = true := by
  unfold gr at *
  split at h1 <;> split at h2 <;> split <;> simp only [decide_eq_true_eq] at * <;> omega
def up (w : List Rw) (x : Rw) : Nat := (w.filter fun y => gr y x).length
def cab (m : Nat) : List Rw → List (Rw × Nat)
  | [] => []
  | x :: r => if up r x < m then (x, up r x) :: cab m r else cab m r
def can (m : Nat) (w : List Rw) : List Rw := (cab m w).map (·.1)
def samp (m : Nat) (w : List Rw) : List Rw := w.filter fun x => decide (up w x < m)
def win (wide : Nat) (rs : List Rw) : List Rw := rs.drop (rs.length - wide)
def bump (x : Rw) (p : Rw × Nat) : Rw × Nat := if gr x p.1 = true then (p.1, p.2 + 1) else p
theorem up_cons (y : Rw) (r : List Rw) (x : Rw) : up (y :: r) x = (if gr y x = true then 1 else 0) + up r x := by
  unfold up
  rw [List.filter_cons]
  split <;> simp; omega
theorem up_snoc (r : List Rw) (y x : Rw) : up (r ++ [y]) x = up r x + (if gr y x = true then 1 else 0) := by
  unfold up
  rw [List.filter_append, List.length_append, List.filter_cons]
  split <;> simp
theorem up_mono (y : Rw) (r : List Rw) (x : Rw) : up r x ≤ up (y :: r) x := by rw [up_cons]; omega
theorem bump_fst (x : Rw) (p : Rw × Nat) : (bump x p).1 = p.1 := by unfold bump; split <;> rfl
theorem cab_snoc {m : Nat} (hm : 1 ≤ m) (x : Rw) : ∀ w : List Rw, cab m (w ++ [x]) = ((cab m w).map (bump x)).filter (fun p => decide (p.2 < m)) ++ [(x, 0)]
  | [] => by
    show cab m [x] = [(x, 0)]
    rw [cab]
    exact if_pos hm
  | y :: r => by
    have ih := cab_snoc hm x r
    rw [List.cons_append, cab, cab, up_snoc]
    by_cases h : up r y < m
    · rw [if_pos h, List.map_cons]
      unfold bump
      by_cases g : gr x y = true
      · rw [if_pos g, if_pos g]
        by_cases h2 : up r y + 1 < m
        · rw [if_pos h2, List.filter_cons_of_pos (by simpa using h2), ih]
          rfl
        · rw [if_neg h2, List.filter_cons_of_neg (by simpa using h2), ih]
          rfl
      · rw [if_neg g, if_neg g, Nat.add_zero, if_pos h, List.filter_cons_of_pos (by simpa using h), ih]
        rfl
    · rw [if_neg h, if_neg (by split <;> omega), ih]
/-- the places rise from n on -/
def Pl (n : Nat) (rs : List Rw) : Prop := ∀ (i : Nat) (r : Rw), rs[i]? = some r → r.1 = ((n + i : Nat) : Int)
theorem Pl.tail {n : Nat} {y : Rw} {r : List Rw} (h : Pl n (y :: r)) : Pl (n + 1) r := fun i z e => by
  rw [h (i + 1) z (by simpa using e)]
  congr 1
  omega
theorem Pl.drop {rs : List Rw} : ∀ (k : Nat) {n : Nat} {rs : List Rw}, Pl n rs → Pl (n + k) (rs.drop k)
  | 0, _, _, h => h
  | k + 1, n, [], h => fun i z e => by simp at e
  | k + 1, n, y :: r, h => by
    rw [List.drop_succ_cons]
    have := Pl.drop (rs := rs) k h.tail
    rwa [Nat.add_right_comm] at this
theorem Pl.ge {n : Nat} {rs : List Rw} {r : Rw} (h : Pl n rs) (hr : r ∈ rs) : (n : Int) ≤ r.1 := by
  obtain ⟨i, hi⟩ := List.mem_iff_getElem?.mp hr
  rw [h i r hi]
  omega
theorem cab_in {m : Nat} : ∀ {w : List Rw} {p : Rw × Nat}, p ∈ cab m w → p.1 ∈ w
  | [], _, h => nomatch h
  | y :: r, p, h => by
    unfold cab at h
    split at h
    · rcases List.mem_cons.mp h with rfl | h
      · exact List.mem_cons_self ..
      · exact List.mem_cons_of_mem _ (cab_in h)
    · exact List.mem_cons_of_mem _ (cab_in h)
theorem cab_all {m n : Nat} {w : List Rw} (h : Pl n w) {f : Int} (hf : f ≤ n) : (cab m w).filter (fun p => decide (f ≤ p.1.1)) = cab m w := by
  rw [List.filter_eq_self]
  intro p hp
  have := h.ge (cab_in hp)
  exact decide_eq_true (by omega)
/-- one thing more comes -/
theorem cab_next {m wide : Nat} {rs : List Rw} {x : Rw} (hm : 1 ≤ m) (hw : 1 ≤ wide) (hp : Pl 0 rs) :
    cab m (win wide (rs ++ [x])) = ((cab m (win wide rs)).map (bump x)).filter (fun p => decide ((rs.length : Int) + 1 - wide ≤ p.1.1) && decide (p.2 < m)) ++ [(x, 0)] := by
  unfold win
  rw [List.length_append, List.length_singleton, List.drop_append_of_le_length (by omega), cab_snoc hm]
  congr 1
  have key : cab m (rs.drop (rs.length + 1 - wide)) = (cab m (rs.drop (rs.length - wide))).filter (fun p => decide ((rs.length : Int) + 1 - wide ≤ p.1.1)) := by
    by_cases h : rs.length + 1 ≤ wide
    · rw [show rs.length + 1 - wide = 0 by omega, show rs.length - wide = 0 by omega]
      rw [List.drop_zero, cab_all hp (f := (rs.length : Int) + 1 - wide) (by omega)]
    · have e : rs.length + 1 - wide = (rs.length - wide) + 1 := by omega
      have hl : rs.length - wide < rs.length := by omega
      rw [e]
      have hd : rs.drop (rs.length - wide) = rs[rs.length - wide] :: rs.drop (rs.length - wide + 1) := List.drop_eq_getElem_cons hl
      have h1 : (rs[rs.length - wide]).1 = ((rs.length - wide : Nat) : Int) := by
        rw [hp (rs.length - wide) _ (List.getElem?_eq_getElem hl)]
        congr 1
        omega
      have h2 : Pl (0 + (rs.length - wide + 1)) (rs.drop (rs.length - wide + 1)) := Pl.drop (rs := rs) _ hp
      have h3 := cab_all (m := m) h2 (f := (rs.length : Int) + 1 - wide) (by omega)
      rw [hd]
      conv => rhs; rw [cab]
      split
      · rw [List.filter_cons_of_neg (by rw [h1]; simp; omega), h3]
      · rw [h3]
  rw [key, List.filter_map, List.filter_map, List.filter_filter]
  congr 1
  refine List.filter_congr fun p _ => ?_
  simp only [Function.comp_def, bump_fst]
  rw [Bool.and_comm]
/-- the greater ones among the candidates, as long as they are few, are all the greater ones -/
theorem up_can {m : Nat} (x : Rw) : ∀ w : List Rw, min (up (can m w) x) m = min (up w x) m
  | [] => rfl
  | y :: r => by
    have ih := up_can (m := m) x r
    unfold can at ih ⊢
    rw [up_cons y r x, cab]
    by_cases h : up r y < m
    · rw [if_pos h, List.map_cons, up_cons]
      split <;> omega
    · rw [if_neg h]
      by_cases g : gr y x = true
      · rw [if_pos g]
        have : up r y ≤ up r x := by
          unfold up
          rw [← List.countP_eq_length_filter, ← List.countP_eq_length_filter]
          exact List.countP_mono_left fun z _ hz => gr_trans hz g
        omega
      · rw [if_neg g]
        omega
theorem can_flt {m : Nat} {q : Rw → Bool} : ∀ {w : List Rw}, (∀ (r : List Rw) (y : Rw), (∃ a, w = a ++ y :: r) → q y = true → up r y < m) → (can m w).filter q = w.filter q
  | [], _ => rfl
  | y :: r, h => by
    have ih := can_flt (m := m) (q := q) (w := r) fun r' z ⟨a, e⟩ => h r' z ⟨y :: a, by rw [e]; rfl⟩
    unfold can at ih ⊢
    rw [cab]
    split
    · rw [List.map_cons, List.filter_cons, List.filter_cons, ih]
    · rename_i hn
      rw [ih, List.filter_cons_of_neg fun hq => hn (h r y ⟨[], rfl⟩ hq)]
theorem up_app (a r : List Rw) (x : Rw) : up (a ++ r) x = up a x + up r x := by unfold up; rw [List.filter_append, List.length_append]
theorem samp_can (m : Nat) (w : List Rw) : samp m w = (can m w).filter fun x => decide (up (can m w) x < m) := by
  have e : (fun x => decide (up (can m w) x < m)) = fun x => decide (up w x < m) := by
    funext x
    have := up_can (m := m) x w
    exact decide_eq_decide.mpr (by omega)
  rw [e, can_flt]
  · rfl
  · rintro r y ⟨a, rfl⟩ hq
    have hq := of_decide_eq_true hq
    rw [up_app, up_cons] at hq
    omega
def cF (r : Rw) (ab : Nat) : List (Str × V) := [("place", .int r.1), ("thing", .str r.2.1), ("number", .int r.2.2), ("above", .int (ab : Nat))]
def lF (wide most passed : Nat) (R : Addr) : List (Str × V) := [("wide", .int (wide : Nat)), ("most", .int (most : Nat)), ("passed", .int (passed : Nat)), ("row", .ref R)]
def sp_Candidate___init__ (K : PySem.W.Frag) (mg : Str → Option Value) : Sp := fun vs H Q _ => match vs with | [.ref x, .int p, .str z, .int n] => ∃ dx, H x = some (.ins (cA mg "Candidate") dx []) ∧ ∀ H', (∀ b o, H b = some o → b ≠ x → H' b = some o) → H' x = some (.ins (cA mg "Candidate") dx (cF (p, z, n) 0)) → Q .non H' | _ => False
theorem q_Candidate___init__ {H : Hp} {Q : VK} {E : XK} {x : Addr} {p : Int} {z : Str} {n : Int} (q : ∃ dx, H x = some (.ins (cA mg "Candidate") dx []) ∧ ∀ H', (∀ b o, H b = some o → b ≠ x → H' b = some o) → H' x = some (.ins (cA mg "Candidate") dx (cF (p, z, n) 0)) → Q .non H') : sp_Candidate___init__ K mg [.ref x, .int p, .str z, .int n] H Q E := q
local macro_rules | `(tactic| walk_at "op") => `(tactic| with_reducible refine q_Candidate___init__ ?_)
theorem m_Candidate (T : Txt K mg) : Mak P w K mg base 1 "Candidate" (cA mg "Candidate") (sp_Candidate___init__ K mg) := by
  refine InitAt.mak T.m_Candidate T.i_Candidate (k := 0) sc_Candidate___init__ (by intro vs H Q E h; unfold sp_Candidate___init__ at h; split at h <;> first | rfl | exact h.elim) fun f cdv A outer s H vs Q E hr h => ?_
  refine ⟨_, (pss_cons (ps_fld (pv 0) (pv 1) rfl)
    (pss_cons (ps_fld (pv 0) (pv 2) rfl)
    (pss_cons (ps_fld (pv 0) (pv 3) rfl)
    (pss_one (ps_fld (pv 0) pe_int rfl))))), ?_⟩
  try simp only [cxOf_K, cxOf_K', cxOf_mg, cxOf_mg']
  unfold sp_Candidate___init__ at h
  split at h
  case h_2 => exact h.elim
  rename_i x p z n
  rw [show L2.start ["self", "place", "thing", "number"] [V.ref x, V.int p, V.str z, V.int n] = [some (V.ref x), some (V.int p), some (V.str z), some (V.int n)] from rfl]
  obtain ⟨dx, hx, q⟩ := h
  walk_at "sa"
  refine L_sFldv hx T.k_Candidate T.na_Candidate_place (by decide) ?_
  walk_at "sa"
  refine L_sFldv upd_same T.k_Candidate T.na_Candidate_thing (by show 1 < 1000; decide) ?_
  walk_at "sa"
  refine L_sFldv upd_same T.k_Candidate T.na_Candidate_number (by show 2 < 1000; decide) ?_
  walk_at "sa"
  refine L_sFldv upd_same T.k_Candidate T.na_Candidate_above (by show 3 < 1000; decide) ?_
  refine q _ (fun b o hb ne => by rw [upd_ne ne, upd_ne ne, upd_ne ne, upd_ne ne]; exact hb) ?_
  rw [upd_same]
  rfl
theorem L_cand {H : Hp} {r : Rw} {Q : VK} {E : XK} (q : ∀ p dx H', H p = none → Same H H' → H' p = some (.ins (cA mg "Candidate") dx (cF r 0)) → Q (.ref p) H') : MakeP (cA mg "Candidate") (sp_Candidate___init__ K mg) E [.int r.1, .str r.2.1, .int r.2.2] H Q := fun x dx nx nd ne =>
  ⟨dx, upd_same, fun H' k hx => ⟨rfl, q x dx H' nx (Same.made nx nd k) hx⟩⟩
def sp_Candidate_is_less (K : PySem.W.Frag) (mg : Str → Option Value) : Sp := fun vs H Q _ => match vs with | [.ref x, .ref y] => ∃ (dx dy : Addr) (r s : Rw) (a b : Nat), H x = some (.ins (cA mg "Candidate") dx (cF r a)) ∧ H y = some (.ins (cA mg "Candidate") dy (cF s b)) ∧ Q (.bl (gr s r)) H | _ => False
theorem q_Candidate_is_less {H : Hp} {Q : VK} {E : XK} {x : Addr} {y : Addr} (q : ∃ (dx dy : Addr) (r s : Rw) (a b : Nat), H x = some (.ins (cA mg "Candidate") dx (cF r a)) ∧ H y = some (.ins (cA mg "Candidate") dy (cF s b)) ∧ Q (.bl (gr s r)) H) : sp_Candidate_is_less K mg [.ref x, .ref y] H Q E := q
local macro_rules | `(tactic| walk_at "op") => `(tactic| with_reducible refine q_Candidate_is_less ?_)
theorem c_Candidate_is_less (T : Txt K mg) : Met P w K mg base 1 (cA mg "Candidate") "is_less" (sp_Candidate_is_less K mg) := by
  refine MethAt.met T.k_Candidate T.d_Candidate_is_less (k := 0) sc_Candidate_is_less (by intro vs H Q E h; unfold sp_Candidate_is_less at h; split at h <;> first | rfl | exact h.elim) fun f cdv A outer s H vs Q E hr h => ?_
  refine ⟨_, (pss_cons (ps_if (pt_cmpR (op_eqA hr) (pe_fld (pv 0) rfl) (pe_fld (pv 1) rfl) (nomark _))
    (pss_one (ps_ret (pe_cmpR op_ltA (pe_fld (pv 1) rfl) (pe_fld (pv 0) rfl) (nomark _))))
    pss_nil)
    (pss_one (ps_ret (pe_cmpR op_ltA (pe_fld (pv 0) rfl) (pe_fld (pv 1) rfl) (nomark _))))), ?_⟩
  try simp only [cxOf_K, cxOf_K', cxOf_mg, cxOf_mg']
  unfold sp_Candidate_is_less at h
  split at h
  case h_2 => exact h.elim
  rename_i x y
  rw [show L2.start ["self", "other"] [V.ref x, V.ref y] = [some (V.ref x), some (V.ref y)] from rfl]
  obtain ⟨dx, dy, r, s, a, b, hx, hy, q⟩ := h
  unfold gr at q
  walk_at "sa"
  refine L_d (fun c => ?_) (fun c => ?_)
  · rw [if_pos c.symm] at q
    walk_at "sa"
    exact q
  · rw [if_neg fun z => c z.symm] at q
    walk_at "sa"
    exact q
def d2s (r : Rw) : PyData := .tuple [.str r.2.1, .int r.2.2]
def sp_Candidate_shown (K : PySem.W.Frag) (mg : Str → Option Value) : Sp := fun vs H Q _ => match vs with | [.ref x] => ∃ (dx : Addr) (r : Rw) (a : Nat), H x = some (.ins (cA mg "Candidate") dx (cF r a)) ∧ NewT H [.str r.2.1, .int r.2.2] Q | _ => False
theorem q_Candidate_shown {H : Hp} {Q : VK} {E : XK} {x : Addr} (q : ∃ (dx : Addr) (r : Rw) (a : Nat), H x = some (.ins (cA mg "Candidate") dx (cF r a)) ∧ NewT H [.str r.2.1, .int r.2.2] Q) : sp_Candidate_shown K mg [.ref x] H Q E := q
local macro_rules | `(tactic| walk_at "op") => `(tactic| with_reducible refine q_Candidate_shown ?_)
theorem c_Candidate_shown (T : Txt K mg) : Met P w K mg base 1 (cA mg "Candidate") "shown" (sp_Candidate_shown K mg) := by
  refine MethAt.met T.k_Candidate T.d_Candidate_shown (k := 0) sc_Candidate_shown (by intro vs H Q E h; unfold sp_Candidate_shown at h; split at h <;> first | rfl | exact h.elim) fun f cdv A outer s H vs Q E hr h => ?_
  refine ⟨_, (pss_one (ps_ret (pe_tup (pa_cons (pe_fld (pv 0) rfl) (pa_cons (pe_fld (pv 0) rfl) pa_nil))))), ?_⟩
  try simp only [cxOf_K, cxOf_K', cxOf_mg, cxOf_mg']
  unfold sp_Candidate_shown at h
  split at h
  case h_2 => exact h.elim
  rename_i x
  rw [show L2.start ["self"] [V.ref x] = [some (V.ref x)] from rfl]
  obtain ⟨dx, r, a, hx, q⟩ := h
  walk_at "sa"
  exact L_nw q.at
/-- a Last that rs came into; Z: the candidates' places in the heap, with how many above -/
structure LastOK (K : PySem.W.Frag) (mg : Str → Option Value) (H : Hp) (L : Addr) (Z : List (Addr × Rw × Nat)) (wide most : Nat) (rs : List Rw) : Prop where
  w1 : 1 ≤ wide
  m1 : 1 ≤ most
  pl : Pl 0 rs
  len : rs.length ≤ 1000
  ob : ∃ dx R, H L = some (.ins (cA mg "Last") dx (lF wide most rs.length R)) ∧ H R = some (.lst (Z.map fun z => V.ref z.1))
  at_ : ∀ z ∈ Z, ∃ dx, H z.1 = some (.ins (cA mg "Candidate") dx (cF z.2.1 z.2.2))
  nd : (Z.map (·.1)).Nodup
  cz : Z.map (·.2) = cab most (win wide rs)
section
variable {H H' : Hp} {L : Addr} {Z : List (Addr × Rw × Nat)} {wide most : Nat} {rs : List Rw}
theorem LastOK.same (ok : LastOK K mg H L Z wide most rs) (e : Same H H') : LastOK K mg H' L Z wide most rs :=
  ⟨ok.w1, ok.m1, ok.pl, ok.len, (by obtain ⟨dx, R, h1, h2⟩ := ok.ob; exact ⟨dx, R, e _ _ h1, e _ _ h2⟩), fun z hz => (ok.at_ z hz).imp fun dx h => e _ _ h, ok.nd, ok.cz⟩
theorem cab_len {m : Nat} : ∀ w : List Rw, (cab m w).length ≤ w.length
  | [] => Nat.le_refl _
  | y :: r => by
    have := cab_len (m := m) r
    rw [cab]
    split
    · rw [List.length_cons, List.length_cons]; omega
    · rw [List.length_cons]; omega
theorem LastOK.zl (ok : LastOK K mg H L Z wide most rs) : Z.length ≤ 1000 := by
  have h1 : Z.length = (cab most (win wide rs)).length := by rw [← ok.cz, List.length_map]
  have h2 := cab_len (m := most) (win wide rs)
  have h3 : (win wide rs).length ≤ rs.length := by unfold win; rw [List.length_drop]; omega
  have := ok.len
  omega
theorem LastOK.off (ok : LastOK K mg H L Z wide most rs) : ∀ z ∈ Z, L ≠ z.1 := fun z hz e => by
  obtain ⟨dx, R, h1, _⟩ := ok.ob
  obtain ⟨dx', h2⟩ := ok.at_ z hz
  rw [e, h2] at h1
  injection h1 with h1
  injection h1 with _ _ h1
  unfold cF lF at h1
  injection h1 with h1 _
  injection h1 with h1 _
  exact absurd h1 (by decide)
theorem LastOK.cn (ok : LastOK K mg H L Z wide most rs) : Z.map (·.2.1) = can most (win wide rs) := by
  unfold can
  rw [← ok.cz, List.map_map]
  rfl
/-- what is no instance is not touched -/
theorem LastOK.non (ok : LastOK K mg H L Z wide most rs) {b : Addr} {o : HO} (h : H b = some o) (ho : ∀ C dx fs, o ≠ .ins C dx fs) : b ≠ L ∧ ∀ z ∈ Z, b ≠ z.1 := by
  refine ⟨fun e => ?_, fun z hz e => ?_⟩
  · obtain ⟨dx, R, h1, _⟩ := ok.ob
    rw [e, h1] at h
    injection h with h
    exact ho _ _ _ h.symm
  · obtain ⟨dx', h2⟩ := ok.at_ z hz
    rw [e, h2] at h
    injection h with h
    exact ho _ _ _ h.symm
/-- where the row stands -/
def RowAt (mg : Str → Option Value) (H : Hp) (L R : Addr) : Prop := ∃ dx w m p, H L = some (.ins (cA mg "Last") dx (lF w m p R))
theorem lF_inj {w m p w' m' p' : Nat} {R R' : Addr} (h : lF w m p R = lF w' m' p' R') : R = R' := by
  unfold lF at h
  injection h with _ h
  injection h with _ h
  injection h with _ h
  injection h with h _
  injection h with _ h
  injection h
theorem LastOK.row (ok : LastOK K mg H L Z wide most rs) {R : Addr} (h : RowAt mg H L R) : H R = some (.lst (Z.map fun z => V.ref z.1)) := by
  obtain ⟨dx, R', h1, h2⟩ := ok.ob
  obtain ⟨dx', w, m, p, h3⟩ := h
  rw [h1] at h3
  injection h3 with h3
  injection h3 with _ _ h3
  rw [← lF_inj h3]
  exact h2
theorem LastOK.mut (ok : LastOK K mg H L Z wide most rs) {pr : Addr} {us : List V} {o : HO} (hp : H pr = some (.lst us)) (hR : ∀ R, RowAt mg H L R → R ≠ pr) : LastOK K mg (upd H pr o) L Z wide most rs := by
  obtain ⟨n1, n2⟩ := ok.non hp (fun _ _ _ z => by cases z)
  obtain ⟨dx, R, h1, h2⟩ := ok.ob
  refine ⟨ok.w1, ok.m1, ok.pl, ok.len, ⟨dx, R, by rw [upd_ne n1.symm]; exact h1, by rw [upd_ne (hR R ⟨dx, _, _, _, h1⟩)]; exact h2⟩, fun z hz => ?_, ok.nd, ok.cz⟩
  obtain ⟨d, h⟩ := ok.at_ z hz
  exact ⟨d, by rw [upd_ne (n2 z hz).symm]; exact h⟩
/-- what no Last is made of -/
def BadL (K : PySem.W.Frag) (H : Hp) (v w : V) : Prop := BadW K H v 1 100 ∨ ∃ t, v = .int t ∧ 1 ≤ t ∧ t ≤ 100 ∧ BadW K H w 1 24
theorem BadL.same {v w : V} (h : BadL K H v w) (e : Same H H') : BadL K H' v w := by
  rcases h with h | ⟨s, h1, h2, h3, h4⟩
  · exact .inl (h.same e)
  · exact .inr ⟨s, h1, h2, h3, h4.same e⟩
end
def sp_Last___init__ (K : PySem.W.Frag) (mg : Str → Option Value) : Sp := fun vs H Q E => match vs with | [.ref x, v, w] => ∃ dx, H x = some (.ins (cA mg "Last") dx []) ∧ ((BadL K H v w ∧ E (.ref (cA mg "NoThing")) none H) ∨ ∃ wide most : Nat, v = .int wide ∧ w = .int most ∧ 1 ≤ wide ∧ wide ≤ 100 ∧ 1 ≤ most ∧ most ≤ 24 ∧ ∀ H', (∀ b o, H b = some o → b ≠ x → H' b = some o) → LastOK K mg H' x [] wide most [] → Q .non H') | _ => False
theorem q_Last___init__ {H : Hp} {Q : VK} {E : XK} {x : Addr} {v : V} {w : V} (q : ∃ dx, H x = some (.ins (cA mg "Last") dx []) ∧ ((BadL K H v w ∧ E (.ref (cA mg "NoThing")) none H) ∨ ∃ wide most : Nat, v = .int wide ∧ w = .int most ∧ 1 ≤ wide ∧ wide ≤ 100 ∧ 1 ≤ most ∧ most ≤ 24 ∧ ∀ H', (∀ b o, H b = some o → b ≠ x → H' b = some o) → LastOK K mg H' x [] wide most [] → Q .non H')) : sp_Last___init__ K mg [.ref x, v, w] H Q E := q
local macro_rules | `(tactic| walk_at "op") => `(tactic| with_reducible refine q_Last___init__ ?_)
theorem m_Last (T : Txt K mg) : MakX P w K mg base 2 "Last" (cA mg "Last") (sp_Last___init__ K mg) := by
  refine InitAt.makX T.m_Last T.i_Last (k := 1) sc_Last___init__ (by intro vs H Q E h; unfold sp_Last___init__ at h; split at h <;> first | rfl | exact h.elim) fun f cdv A outer s H vs Q E hr h => ?_
  refine ⟨_, (pss_cons (ps_if (PW.pt (pw_or (pt_not (pt_val (pe_c (c_is_whole T) hr (by decide) (by rfl) (pa_cons (pv 1) (pa_cons pe_int (pa_cons (pe_gc (by rfl) T.g_WIDEST) pa_nil)))))) (pw_or1 (pt_not (pt_val (pe_c (c_is_whole T) hr (by decide) (by rfl) (pa_cons (pv 2) (pa_cons pe_int (pa_cons (pe_gc (by rfl) T.g_MOST_KEPT) pa_nil)))))))))
    (pss_one (ps_raise rfl (takes_of rfl rfl rfl rfl) (pmk_own0 T.x_NoThing T.m_NoThing (by rfl))))
    pss_nil)
    (pss_cons (ps_fld (pv 0) (pv 1) rfl)
    (pss_cons (ps_fld (pv 0) (pv 2) rfl)
    (pss_cons (ps_fld (pv 0) pe_int rfl)
    (pss_one (ps_fld (pv 0) (pe_lst pa_nil) rfl)))))), ?_⟩
  try simp only [cxOf_K, cxOf_K', cxOf_mg, cxOf_mg']
  unfold sp_Last___init__ at h
  split at h
  case h_2 => exact h.elim
  rename_i x v w
  rw [show L2.start ["self", "wide", "most"] [V.ref x, v, w] = [some (V.ref x), some (v), some (w)] from rfl]
  obtain ⟨dx, hx, ⟨h | ⟨s, rfl, h1, h2, h⟩, q⟩ | ⟨wide, most, rfl, rfl, h1, h2, h3, h4, q⟩⟩ := h
  · walk_at "sts"
    refine q_wholeB h ?_
    walk_at "sts"
    exact q
  · walk_at "sts"
    refine q_wholeB h ?_
    walk_at "sts"
    exact q
  walk_at "sa"
  refine L_sFldv hx T.k_Last T.na_Last_wide (by decide) ?_
  walk_at "sa"
  refine L_sFldv upd_same T.k_Last T.na_Last_most (by show 1 < 1000; decide) ?_
  walk_at "sa"
  refine L_sFldv upd_same T.k_Last T.na_Last_passed (by show 2 < 1000; decide) ?_
  walk_at "sa"
  refine L_new (by decide) fun p hp => ?_
  walk_at "sa"
  have np : p ≠ x := fun z => by rw [z, upd_same] at hp; cases hp
  refine L_sFldv (by rw [upd_ne (Ne.symm np), upd_same]) T.k_Last T.na_Last_row (by show 3 < 1000; decide) ?_
  rw [upd_ne np, upd_ne np, upd_ne np] at hp
  refine q _ (fun b o hb ne => ?_) ⟨h1, h3, fun i r h => (by simp at h), by simp, ⟨dx, p, by rw [upd_same]; rfl, by rw [upd_ne np, upd_same]; rfl⟩, (fun _ h => nomatch h), by simp, by simp [win, cab]⟩
  have nb : b ≠ p := fun z => by rw [z, hp] at hb; cases hb
  rw [upd_ne ne, upd_ne nb, upd_ne ne, upd_ne ne, upd_ne ne]
  exact hb
/-- a Last is made -/
theorem L_last {H : Hp} {wide most : Nat} {Q : VK} {E : XK} (h : 1 ≤ wide ∧ wide ≤ 100 ∧ 1 ≤ most ∧ most ≤ 24) (q : ∀ p H', H p = none → Same H H' → LastOK K mg H' p [] wide most [] → Q (.ref p) H') : MakeP (cA mg "Last") (sp_Last___init__ K mg) E [.int (wide : Nat), .int (most : Nat)] H Q := fun x dx nx nd ne =>
  ⟨dx, upd_same, .inr ⟨wide, most, rfl, rfl, h.1, h.2.1, h.2.2.1, h.2.2.2, fun H' k ok => ⟨rfl, q x H' nx (Same.made nx nd k) ok⟩⟩⟩
theorem same_made {H : Hp} {x dx C : Addr} (nx : H x = none) (nd : H dx = none) (ne : dx ≠ x) : Same H (upd (upd H dx (.own x)) x (.ins C dx [])) :=
  (same_new nd).trans (same_new (by rw [upd_ne ne.symm]; exact nx))
/-- a Last is not made -/
theorem L_lastX {H : Hp} {v w : V} {Q : VK} {E : XK} (h : BadL K H v w) (q : ∀ H', Same H H' → E (.ref (cA mg "NoThing")) none H') : MakeP (cA mg "Last") (sp_Last___init__ K mg) E [v, w] H Q := fun x dx nx nd ne =>
  ⟨dx, upd_same, .inl ⟨h.same (same_made nx nd ne), q _ (same_made nx nd ne)⟩⟩
/-- what is no name -/
def BadN (K : PySem.W.Frag) (H : Hp) (v : V) : Prop := NotS K H v ∨ ∃ z : Str, v = .str z ∧ z.length ≤ 1000000 ∧ isName z = false
theorem BadN.same {H H' : Hp} {v : V} (h : BadN K H v) (e : Same H H') : BadN K H' v := h.imp (fun h => h.same e) id
theorem q_nameB {H : Hp} {Q : VK} {E : XK} {v : V} (h : BadN K H v) (q : Q (.bl false) H) : sp_is_name K mg [v] H Q E := by
  rcases h with h | ⟨z, rfl, h1, h2⟩
  · exact q_nameN h q
  · exact q_nameS h1 (by rw [h2]; exact q)
theorem isName_len {z : Str} (h : isName z = true) : z.length ≤ 8 := by
  unfold isName at h
  rw [Bool.and_eq_true] at h
  exact (of_decide_eq_true h.1).2
theorem q_nameT {H : Hp} {Q : VK} {E : XK} {z : Str} (h : isName z = true) (q : Q (.bl true) H) : sp_is_name K mg [.str z] H Q E := q_nameS (by have := isName_len h; omega) (by rw [h]; exact q)
/-- the row behind one thing more -/
theorem ite_succ {j i : Nat} (h : j ≠ i) (a b : Nat) : (if j < i + 1 then a else b) = if j < i then a else b := by
  by_cases c : j < i
  · rw [if_pos c, if_pos (by omega)]
  · rw [if_neg c, if_neg (by omega)]
def zb (x : Rw) (z : Addr × Rw × Nat) : Addr × Rw × Nat := (z.1, bump x z.2)
def zk (f : Int) (most : Nat) (z : Addr × Rw × Nat) : Bool := decide (f ≤ z.2.1.1) && decide (z.2.2 < most)
def sp_Last_come (K : PySem.W.Frag) (mg : Str → Option Value) : Sp := fun vs H Q E => match vs with | [.ref x, v, w] => ∃ (Z : List (Addr × Rw × Nat)) (wide most : Nat) (rs : List Rw), LastOK K mg H x Z wide most rs ∧ (((BadN K H v ∨ ((∃ z, v = .str z ∧ isName z = true) ∧ BadW K H w 0 1000000000)) ∧ E (.ref (cA mg "NoThing")) none H) ∨ ∃ (z : Str) (n : Int), v = .str z ∧ w = .int n ∧ isName z = true ∧ 0 ≤ n ∧ n ≤ 1000000000 ∧ rs.length < 1000 ∧ ∀ H' Z', (∀ b o, H b = some o → b ≠ x → (∀ y ∈ Z, b ≠ y.1) → H' b = some o) → (∀ y ∈ Z', H y.1 = none ∨ ∃ y' ∈ Z, y'.1 = y.1) → LastOK K mg H' x Z' wide most (rs ++ [(((rs.length : Nat) : Int), z, n)]) → (∀ R, RowAt mg H' x R → H R = none) → Q .non H') | _ => False
theorem q_Last_come {H : Hp} {Q : VK} {E : XK} {x : Addr} {v : V} {w : V} (q : ∃ (Z : List (Addr × Rw × Nat)) (wide most : Nat) (rs : List Rw), LastOK K mg H x Z wide most rs ∧ (((BadN K H v ∨ ((∃ z, v = .str z ∧ isName z = true) ∧ BadW K H w 0 1000000000)) ∧ E (.ref (cA mg "NoThing")) none H) ∨ ∃ (z : Str) (n : Int), v = .str z ∧ w = .int n ∧ isName z = true ∧ 0 ≤ n ∧ n ≤ 1000000000 ∧ rs.length < 1000 ∧ ∀ H' Z', (∀ b o, H b = some o → b ≠ x → (∀ y ∈ Z, b ≠ y.1) → H' b = some o) → (∀ y ∈ Z', H y.1 = none ∨ ∃ y' ∈ Z, y'.1 = y.1) → LastOK K mg H' x Z' wide most (rs ++ [(((rs.length : Nat) : Int), z, n)]) → (∀ R, RowAt mg H' x R → H R = none) → Q .non H')) : sp_Last_come K mg [.ref x, v, w] H Q E := q
local macro_rules | `(tactic| walk_at "op") => `(tactic| with_reducible refine q_Last_come ?_)
theorem c_Last_come (T : Txt K mg) : MetX P w K mg base 3 (cA mg "Last") "come" (sp_Last_come K mg) := by
  refine MethAt.metX T.k_Last T.d_Last_come (k := 2) sc_Last_come (by intro vs H Q E h; unfold sp_Last_come at h; split at h <;> first | rfl | exact h.elim) fun f cdv A outer s H vs Q E hr h => ?_
  refine ⟨_, (pss_cons (ps_if (PW.pt (pw_or (pt_not (pt_val (pe_c (c_is_name T) hr (by decide) (by rfl) (pa_cons (pv 1) pa_nil)))) (pw_or1 (pt_not (pt_val (pe_c (c_is_whole T) hr (by decide) (by rfl) (pa_cons (pv 2) (pa_cons pe_int (pa_cons (pe_gc (by rfl) T.g_MOST_NUMBER) pa_nil)))))))))
    (pss_one (ps_raise rfl (takes_of rfl rfl rfl rfl) (pmk_own0 T.x_NoThing T.m_NoThing (by rfl))))
    pss_nil)
    (pss_cons (ps_set (i := 3) sc_Last_come.nd rfl (.inl rfl) (pe_mk (m_Candidate T) hr (by decide) (by rfl) (pa_cons (pe_fld (pv 0) rfl) (pa_cons (pv 1) (pa_cons (pv 2) pa_nil)))))
    (pss_cons (ps_fldaug (pv 0) pe_int in_add)
    (pss_cons (ps_for (passes_of rfl) rfl (pi_list (pe_fld (pv 0) rfl)) (pg_name (i := 4) sc_Last_come.nd rfl (.inl rfl))
    (pss_one (ps_if (pt_val (pe_mt (c_Candidate_is_less T) hr (by decide) (pv 4) (pa_cons (pv 3) pa_nil)))
    (pss_one (ps_fldaug (pv 4) pe_int in_add))
    pss_nil)))
    (pss_cons (ps_set (i := 5) sc_Last_come.nd rfl (.inr rfl) (pe_op op_sub (pe_fld (pv 0) rfl) (pe_fld (pv 0) rfl)))
    (pss_one (ps_fld (pv 0) (pe_op op_addA (pe_lc (own := [("one", 4)]) (g := (gName 4)) (tt := (tAnd (tTest (tOp (rI0 fun i j => .bl (decide (j ≤ i))) (tFld K (tVar 4) "place") (tVar 5))) (tTest (tOp aLt (tFld K (tVar 4) "above") (tFld K (tVar 0) "most"))))) (te := (tVar 4)) rfl sc_Last_come.nd (pi_list (pe_fld (pv 0) rfl)) (blkOk_by (N := ["self", "thing", "number", "fresh", "one", "first"]) (sc := defScope s_Last_come) (by decide +kernel)) (fun _ _ _ _ _ => by exact (pg_name (i := 4) sc_Last_come.nd rfl (.inl rfl))) (fun _ _ _ _ _ => by exact pts_one (PW.pt (pw_and (pt_cmpR op_ge (pe_fld (pv 4) rfl) (pv 5) (nomark _)) (pw_and1 (pt_cmpR op_ltA (pe_fld (pv 4) rfl) (pe_fld (pv 0) rfl) (nomark _)))))) (fun _ _ _ _ _ => by exact (pv 4))) (pe_lst (pa_cons (pv 3) pa_nil))) rfl))))))), ?_⟩
  try simp only [cxOf_K, cxOf_K', cxOf_mg, cxOf_mg']
  unfold sp_Last_come at h
  split at h
  case h_2 => exact h.elim
  rename_i x v w
  rw [show L2.start ["self", "thing", "number", "fresh", "one", "first"] [V.ref x, v, w] = [some (V.ref x), some (v), some (w), none, none, none] from rfl]
  obtain ⟨Z, wide, most, rs, ok, ⟨hb | ⟨⟨z, rfl, hz⟩, hb⟩, q⟩ | ⟨z, n, rfl, rfl, hz, n0, n1, hl, q⟩⟩ := h
  · walk_at "sts"
    refine q_nameB hb ?_
    walk_at "sts"
    exact q
  · walk_at "sts"
    refine q_nameT hz ?_
    walk_at "sts"
    refine q_wholeB hb ?_
    walk_at "sts"
    exact q
  obtain ⟨dx, R, hL, hR⟩ := ok.ob
  walk_at "sts"
  refine q_nameT hz ?_
  walk_at "sa"
  obtain ⟨y, hy⟩ : ∃ y : Rw, y = (((rs.length : Nat) : Int), z, n) := ⟨_, rfl⟩
  rw [show [V.int ((rs.length : Nat) : Int), V.str z, V.int n] = [.int y.1, .str y.2.1, .int y.2.2] by rw [hy]]
  refine L_cand fun pf df H1 hpf s1 ef => ?_
  walk_at "sts"
  refine L_fldaug ?_
  walk_at "sts"
  have hL1 := s1 _ _ hL
  refine ⟨x, _, dx, _, _, rfl, hL1, T.k_Last, T.na_Last_passed, rfl, ?_⟩
  walk_at "sts"
  refine L_rAdd ⟨dx, _, hL1, by show 4 < 1000; decide, ?_⟩
  rw [show putF "passed" (V.int (((rs.length : Nat) : Int) + 1)) (lF wide most rs.length R) = lF wide most (rs.length + 1) R from rfl]
  have hR1 := s1 _ _ hR
  have nRx : R ≠ x := fun e => by rw [e, hL] at hR; cases hR
  have npx : pf ≠ x := fun e => by rw [e, hL] at hpf; cases hpf
  have fr2 : ∀ b o, H b = some o → b ≠ x → (upd H1 x (.ins (cA mg "Last") dx (lF wide most (rs.length + 1) R))) b = some o := fun b o hb ne => by rw [upd_ne ne]; exact s1 _ _ hb
  have e2L : (upd H1 x (.ins (cA mg "Last") dx (lF wide most (rs.length + 1) R))) x = some (.ins (cA mg "Last") dx (lF wide most (rs.length + 1) R)) := upd_same
  have e2f : (upd H1 x (.ins (cA mg "Last") dx (lF wide most (rs.length + 1) R))) pf = some (.ins (cA mg "Candidate") df (cF y 0)) := by rw [upd_ne npx]; exact ef
  generalize upd H1 x (.ins (cA mg "Last") dx (lF wide most (rs.length + 1) R)) = H2 at fr2 e2L e2f
  have hR2 := fr2 _ _ hR nRx
  have nz : ∀ u ∈ Z, pf ≠ u.1 := fun u hu e => by
    obtain ⟨d, h⟩ := ok.at_ u hu
    rw [← e, hpf] at h
    cases h
  walk_at "sa"
  refine L_rl (.of hR2) ?_
  refine f_it walk_list (fun i σ' H' => (∃ v4 : Option V, σ' = [some (.ref x), some (.str z), some (.int n), some (.ref pf), v4, none]) ∧ (∀ b o, H2 b = some o → (∀ u ∈ Z, b ≠ u.1) → H' b = some o) ∧
    ∀ j u, Z[j]? = some u → ∃ d, H' u.1 = some (.ins (cA mg "Candidate") d (cF u.2.1 (if j < i then (bump y u.2).2 else u.2.2)))) ⟨⟨_, rfl⟩, fun b o hb _ => hb, fun j u hu => ?_⟩ (fun i σ' H' _ p => .of (p.2.1 _ _ hR2 fun u hu => (ok.non hR (fun _ _ _ z => by cases z)).2 u hu)) ?_ ?_
  · obtain ⟨d, h⟩ := ok.at_ u (List.mem_of_getElem? hu)
    exact ⟨d, fr2 _ _ h (ok.off u (List.mem_of_getElem? hu)).symm⟩
  · rintro i x1 σ' H3 H3' hi ⟨⟨v4, rfl⟩, fr3, at3⟩ ⟨e, hx⟩
    subst e
    rw [List.getElem?_map] at hx
    obtain ⟨u, hu, rfl⟩ := Option.map_eq_some_iff.mp hx
    have huZ := List.mem_of_getElem? hu
    obtain ⟨d, hd⟩ := at3 i u hu
    rw [if_neg (Nat.lt_irrefl i)] at hd
    have hf3 := fr3 _ _ e2f nz
    walk_at "sts"
    refine L_methv hd rfl ?_
    walk_at "sts"
    refine ⟨d, df, u.2.1, y, u.2.2, 0, hd, hf3, ?_⟩
    walk_at "sts"
    refine L_b (fun c => ?_) (fun c => ?_)
    · walk_at "sts"
      refine L_fldaug ?_
      walk_at "sts"
      refine ⟨u.1, _, d, _, _, rfl, hd, T.k_Candidate, T.na_Candidate_above, rfl, ?_⟩
      walk_at "sts"
      refine L_rAdd ⟨d, _, hd, by show 4 < 1000; decide, ?_⟩
      rw [show putF "above" (V.int (((u.2.2 : Nat) : Int) + 1)) (cF u.2.1 u.2.2) = cF u.2.1 (u.2.2 + 1) from rfl]
      refine ⟨⟨_, rfl⟩, fun b o hb hn => by rw [upd_ne (hn u huZ)]; exact fr3 _ _ hb hn, fun j u' hu' => ?_⟩
      by_cases hj : j = i
      · subst hj
        rw [hu] at hu'
        cases hu'
        rw [if_pos (Nat.lt_succ_self j)]
        refine ⟨d, ?_⟩
        unfold bump
        rw [if_pos c, upd_same]
      · obtain ⟨d', h'⟩ := at3 j u' hu'
        refine ⟨d', ?_⟩
        rw [ite_succ hj, upd_ne]
        · exact h'
        · intro e
          have h1 := (List.getElem?_eq_some_iff.mp hu).1
          have h2 := (List.getElem?_eq_some_iff.mp hu').1
          refine hj ((List.getElem_inj ok.nd (i := j) (j := i) (h₀ := by rw [List.length_map]; exact h2) (h₁ := by rw [List.length_map]; exact h1)).mp ?_)
          rw [List.getElem_map, List.getElem_map, (List.getElem?_eq_some_iff.mp hu).2, (List.getElem?_eq_some_iff.mp hu').2, e]
    · walk_at "sts"
      refine ⟨⟨_, rfl⟩, fr3, fun j u' hu' => ?_⟩
      obtain ⟨d', h'⟩ := at3 j u' hu'
      refine ⟨d', ?_⟩
      by_cases hj : j = i
      · subst hj
        rw [hu] at hu'
        cases hu'
        rw [if_pos (Nat.lt_succ_self j)]
        rw [if_neg (Nat.lt_irrefl j)] at h'
        unfold bump
        rw [if_neg (by rw [c]; exact Bool.false_ne_true)]
        exact h'
      · rw [ite_succ hj]
        exact h'
  rintro σ' H3 ⟨⟨v4, rfl⟩, fr3, at3⟩
  rw [List.length_map] at at3
  have at4 : ∀ u ∈ Z.map (zb y), ∃ d, H3 u.1 = some (.ins (cA mg "Candidate") d (cF u.2.1 u.2.2)) := fun u hu => by
    obtain ⟨u', hu', rfl⟩ := List.mem_map.mp hu
    obtain ⟨j, hj⟩ := List.mem_iff_getElem?.mp hu'
    obtain ⟨d, h⟩ := at3 j u' hj
    rw [if_pos (List.getElem?_eq_some_iff.mp hj).1] at h
    refine ⟨d, ?_⟩
    unfold zb
    rw [show ((u'.1, bump y u'.2) : Addr × Rw × Nat).2.1 = u'.2.1 from bump_fst y u'.2]
    exact h
  have hL3 := fr3 _ _ e2L ok.off
  have hR3 := fr3 _ _ hR2 fun u hu => (ok.non hR (fun _ _ _ z => by cases z)).2 u hu
  have hf3 := fr3 _ _ e2f nz
  rw [show (Z.map fun z => V.ref z.1) = (Z.map (zb y)).map fun z => V.ref z.1 by rw [List.map_map]; rfl] at hR3
  walk_at "sa"
  refine L_rl (.of hR3) ?_
  have hzl := ok.zl
  refine lc_fm walk_list (fun i => ((Z.map (zb y))[i]?).bind fun u => if zk (((rs.length + 1 : Nat) : Int) - (wide : Nat)) most u = true then some (V.ref u.1) else none) (by rw [List.length_map, List.length_map]; omega) (fun H' e => .of (e _ _ hR3)) ?_ ?_
  · rintro i x1 H4 H4' R1 R2 hi s4 ⟨e, hx⟩ r1 r2
    subst e
    rw [List.getElem?_map] at hx
    obtain ⟨u, hu, rfl⟩ := Option.map_eq_some_iff.mp hx
    obtain ⟨d, hd⟩ := at4 u (List.mem_of_getElem? hu)
    have hd4 := s4 _ _ hd
    have hL4 := s4 _ _ hL3
    walk_at "sa"
    refine ⟨rfl, ?_⟩
    walk_at "sa"
    refine L_d (fun c1 => ?_) (fun c1 => ?_)
    · walk_at "sa"
      by_cases c2 : u.2.2 < most
      · refine L_dT (by omega) ?_
        walk_at "sts"
        refine r1 _ _ ?_ (Same.refl _)
        rw [hu, Option.bind_some, if_pos]
        unfold zk
        rw [decide_eq_true (show _ ≤ _ from c1), decide_eq_true c2]
        rfl
      · refine L_dF (by omega) ?_
        refine r2 _ ?_ (Same.refl _)
        rw [hu, Option.bind_some, if_neg]
        unfold zk
        rw [decide_eq_false c2, Bool.and_false]
        exact Bool.false_ne_true
    · walk_at "sts"
      refine r2 _ ?_ (Same.refl _)
      rw [hu, Option.bind_some, if_neg]
      unfold zk
      rw [decide_eq_false (show ¬ _ ≤ _ from c1), Bool.false_and]
      exact Bool.false_ne_true
  intro p5 H5 hp5 s5 e5
  rw [List.length_map, fm_flt] at e5
  walk_at "sts"
  walk_at "nw"
  rename_i p6 hp6 H6 s6 e6
  have hfl : ((Z.map (zb y)).filter (zk (((rs.length + 1 : Nat) : Int) - (wide : Nat)) most)).length ≤ 1000 := by
    have := List.length_filter_le (zk (((rs.length + 1 : Nat) : Int) - (wide : Nat)) most) (Z.map (zb y))
    rw [List.length_map] at this
    omega
  refine L_addL (s6 _ _ e5) e6 (by rw [List.length_map, List.length_singleton]; exact sz_dec (by omega)) ?_
  walk_at "nwp"
  rename_i p7 hp7 H7 s7 e7
  walk_at "sts"
  have s37 := s5.trans (s6.trans s7)
  have hL7 := s37 _ _ hL3
  refine L_sFldv hL7 T.k_Last T.na_Last_row (by show 4 < 1000; decide) ?_
  rw [show putF "row" (V.ref p7) (lF wide most (rs.length + 1) R) = lF wide most (rs.length + 1) p7 from rfl]
  have fr7 : ∀ b o, H3 b = some o → b ≠ x → (upd H7 x (.ins (cA mg "Last") dx (lF wide most (rs.length + 1) p7))) b = some o := fun b o hb ne => by rw [upd_ne ne]; exact s37 _ _ hb
  have n7 : p7 ≠ x := fun e => by rw [e, s6 _ _ (s5 _ _ hL3)] at hp7; cases hp7
  have hmem : ∀ u ∈ (Z.map (zb y)).filter (zk (((rs.length + 1 : Nat) : Int) - (wide : Nat)) most), ∃ u' ∈ Z, u'.1 = u.1 := fun u hu => by
    obtain ⟨u', h1, rfl⟩ := List.mem_map.mp (List.mem_filter.mp hu).1
    exact ⟨u', h1, rfl⟩
  refine q _ ((Z.map (zb y)).filter (zk (((rs.length + 1 : Nat) : Int) - (wide : Nat)) most) ++ [(pf, y, 0)]) (fun b o hb n1 n2 => fr7 _ _ (fr3 _ _ (fr2 _ _ hb n1) n2) n1) (fun u hu => ?_) ⟨ok.w1, ok.m1, ?_, ?_, ?_, ?_, ?_, ?_⟩ ?_
  case refine_8 =>
    rintro R' ⟨dx', w', m', p', h⟩
    rw [upd_same] at h
    injection h with h
    injection h with _ _ h
    rw [← lF_inj h]
    cases e : H p7 with
    | none => rfl
    | some o =>
      have := (s5.trans s6) _ _ (fr3 _ _ (fr2 _ _ e n7) fun u hu => by
        obtain ⟨d, h4⟩ := at4 (zb y u) (List.mem_map_of_mem hu)
        exact ne_new hp7 ⟨_, s6 _ _ (s5 _ _ h4)⟩)
      rw [hp7] at this
      cases this
  · rcases List.mem_append.mp hu with hu | hu
    · exact .inr (hmem u hu)
    · rw [List.mem_singleton.mp hu]
      exact .inl hpf
  · rw [← hy]
    intro i r hr
    by_cases hi : i < rs.length
    · rw [List.getElem?_append_left hi] at hr
      exact ok.pl i r hr
    · rw [List.getElem?_append_right (by omega)] at hr
      obtain ⟨h1, h2⟩ := List.getElem?_eq_some_iff.mp hr
      rw [List.length_singleton] at h1
      have h3 : i = rs.length := by omega
      subst h3
      rw [List.getElem?_eq_getElem h1] at hr
      simp at h2
      rw [← h2, hy]
      simp
  · rw [List.length_append, List.length_singleton]
    omega
  · refine ⟨dx, p7, by rw [upd_same, List.length_append]; rfl, ?_⟩
    rw [upd_ne n7, e7, List.map_append]
    rfl
  · intro u hu
    rcases List.mem_append.mp hu with hu | hu
    · obtain ⟨d, hd⟩ := at4 u (List.mem_filter.mp hu).1
      refine ⟨d, fr7 _ _ hd fun e => ?_⟩
      obtain ⟨u', h1, h2⟩ := hmem u hu
      exact ok.off u' h1 (by rw [h2, e])
    · rw [List.mem_singleton.mp hu]
      exact ⟨df, fr7 _ _ hf3 npx⟩
  · rw [List.map_append, List.nodup_append]
    refine ⟨?_, by simp, fun a ha b hb => ?_⟩
    · refine List.Nodup.sublist (List.Sublist.map _ List.filter_sublist) ?_
      rw [List.map_map]
      exact ok.nd
    · rw [List.mem_singleton.mp hb]
      obtain ⟨u, h1, rfl⟩ := List.mem_map.mp ha
      obtain ⟨u', h2, h3⟩ := hmem u h1
      rw [← h3]
      exact (nz u' h2).symm
  · rw [List.map_append, ← hy, cab_next ok.m1 ok.w1 ok.pl, ← ok.cz, List.map_map]
    congr 1
    rw [show Z.map (bump y ∘ fun x : Addr × Rw × Nat => x.2) = (Z.map (zb y)).map (·.2) by rw [List.map_map]; rfl]
    exact Eq.trans (by rfl) (List.filter_map (p := fun p : Rw × Nat => decide ((rs.length : Int) + 1 - (wide : Int) ≤ p.1.1) && decide (p.2 < most)) (f := fun z : Addr × Rw × Nat => z.2)).symm
theorem up_z (x : Rw) (Z : List (Addr × Rw × Nat)) : (Z.filter fun z => gr z.2.1 x).length = up (Z.map (·.2.1)) x := by
  unfold up
  rw [List.filter_map, List.length_map]
  rfl
theorem dpa_tp {H : Hp} {us : List V} {ds : List PyData} (h : DpAll K (tp H) us ds) : DpAll K H us ds := h.same rs_sub
def lt_up (most : Nat) (C : List Rw) (x : Rw) : Bool := decide (up C x < most)
def sp_Last_sample (K : PySem.W.Frag) (mg : Str → Option Value) : Sp := fun vs H Q _ => match vs with | [.ref x] => ∃ (Z : List (Addr × Rw × Nat)) (wide most : Nat) (rs : List Rw), LastOK K mg H x Z wide most rs ∧ ∀ p us H', H p = none → Same H H' → H' p = some (.lst us) → DpAll K (Kt.rs (· ≠ p) H') us ((samp most (win wide rs)).map d2s) → Q (.ref p) H' | _ => False
theorem q_Last_sample {H : Hp} {Q : VK} {E : XK} {x : Addr} (q : ∃ (Z : List (Addr × Rw × Nat)) (wide most : Nat) (rs : List Rw), LastOK K mg H x Z wide most rs ∧ ∀ p us H', H p = none → Same H H' → H' p = some (.lst us) → DpAll K (Kt.rs (· ≠ p) H') us ((samp most (win wide rs)).map d2s) → Q (.ref p) H') : sp_Last_sample K mg [.ref x] H Q E := q
local macro_rules | `(tactic| walk_at "op") => `(tactic| with_reducible refine q_Last_sample ?_)
theorem c_Last_sample (T : Txt K mg) : Met P w K mg base 2 (cA mg "Last") "sample" (sp_Last_sample K mg) := by
  refine MethAt.met T.k_Last T.d_Last_sample (k := 1) sc_Last_sample (by intro vs H Q E h; unfold sp_Last_sample at h; split at h <;> first | rfl | exact h.elim) fun f cdv A outer s H vs Q E hr h => ?_
  refine ⟨_, (pss_cons (ps_set (i := 1) sc_Last_sample.nd rfl (.inl rfl) (pe_lst pa_nil))
    (pss_cons (ps_for PassesOwn.never rfl (pi_list (pe_fld (pv 0) rfl)) (pg_name (i := 2) sc_Last_sample.nd rfl (.inr rfl))
    (pss_cons (ps_setLc (i := 3) (own := [("other", 4)]) (g := (gName 4)) (tt := (tB (tMeth (cA mg "Candidate") "is_less" (sp_Candidate_is_less K mg) [] E0 (tVar 2) (tCons (tVar 4) tNil)))) (te := (tVar 4)) rfl sc_Last_sample.nd rfl rfl (sw_true rfl rfl rfl (by decide +kernel)) (pi_list (pe_fld (pv 0) rfl)) (blkOk_by (N := ["self", "found", "one", "greater", "other"]) (sc := defScope s_Last_sample) (by decide +kernel)) (fun _ _ _ _ _ => by exact (pg_name (i := 4) sc_Last_sample.nd rfl (.inl rfl))) (fun _ _ _ _ _ => by exact pts_one (pt_val (pe_mt (c_Candidate_is_less T) hr (by decide) (pv 2) (pa_cons (pv 4) pa_nil)))) (fun _ _ _ _ _ => by exact (pv 4)))
    (pss_one (ps_if (pt_cmpR op_ltA (pe_callB call_lenA (by rfl) T.n_len (by decide +kernel) (pa_cons (pv 3) pa_nil)) (pe_fld (pv 0) rfl) (nomark _))
    (pss_one (ps_expr (pe_bm PySem.F.plainAttrs_list PySem.F.slot_list_append PySem.F.type_list_append mt_append (pv 1) (pa_cons (pe_mt0 (c_Candidate_shown T) hr (by decide) (pv 2)) pa_nil))))
    pss_nil))))
    (pss_one (ps_ret (pv 1))))), ?_⟩
  try simp only [cxOf_K, cxOf_K', cxOf_mg, cxOf_mg']
  unfold sp_Last_sample at h
  split at h
  case h_2 => exact h.elim
  rename_i x
  rw [show L2.start ["self", "found", "one", "greater", "other"] [V.ref x] = [some (V.ref x), none, none, none, none] from rfl]
  obtain ⟨Z, wide, most, rs, ok, q⟩ := h
  obtain ⟨dx, R, hL, hR⟩ := ok.ob
  have hzl := ok.zl
  walk_at "sts"
  walk_at "nw"
  rename_i p hp H1 s1 e1
  walk_at "sts"
  have hL1 := s1 _ _ hL
  have hR1 := s1 _ _ hR
  walk_at "sa"
  refine L_rl (.of hR1) ?_
  refine f_it walk_list (fun i σ' H' => ∃ (us : List V) (v2 v3 v4 : Option V), σ' = [some (.ref x), some (.ref p), v2, v3, v4] ∧ Same H H' ∧ H' p = some (.lst us) ∧ DpAll K (Kt.rs (· ≠ p) H') us (((Z.take i).filter fun z => lt_up most (can most (win wide rs)) z.2.1).map fun z => d2s z.2.1)) ⟨[], _, _, _, rfl, s1, e1, .nil⟩ (fun i σ' H' _ ⟨_, _, _, _, _, s, _⟩ => .of (s _ _ hR)) ?_ ?_
  · rintro i x1 σ' H2 H2' hi ⟨us, v2, v3, v4, rfl, s2, e2, d2⟩ ⟨e, hx⟩
    subst e
    rw [List.getElem?_map] at hx
    obtain ⟨u, hu, rfl⟩ := Option.map_eq_some_iff.mp hx
    obtain ⟨d, hd⟩ := ok.at_ u (List.mem_of_getElem? hu)
    have hL2 := s2 _ _ hL
    have hR2 := s2 _ _ hR
    have hd2 := s2 _ _ hd
    walk_at "sa"
    refine L_rl (.of hR2) ?_
    refine lc_fm walk_list (fun i => (Z[i]?).bind fun z => if gr z.2.1 u.2.1 = true then some (V.ref z.1) else none) (by rw [List.length_map]; omega) (fun H' e => .of (e _ _ hR2)) ?_ ?_
    · rintro j x2 H3 H3' R1 R2 hj s3 ⟨e, hx⟩ r1 r2
      subst e
      rw [List.getElem?_map] at hx
      obtain ⟨w, hw, rfl⟩ := Option.map_eq_some_iff.mp hx
      obtain ⟨d', hd'⟩ := ok.at_ w (List.mem_of_getElem? hw)
      have hd3 := s3 _ _ hd2
      have hw3 := s3 _ _ (s2 _ _ hd')
      walk_at "sts"
      refine ⟨rfl, ?_⟩
      walk_at "sts"
      refine L_methv hd3 rfl ?_
      walk_at "sts"
      refine ⟨d, d', u.2.1, w.2.1, _, _, hd3, hw3, ?_⟩
      refine ⟨_, rfl, ?_⟩
      refine L_b (fun c => ?_) (fun c => ?_)
      · walk_at "sts"
        exact r1 _ _ (by rw [hw, Option.bind_some, if_pos c]) (Same.refl _)
      · exact r2 _ (by rw [hw, Option.bind_some, if_neg (by rw [c]; exact Bool.false_ne_true)]) (Same.refl _)
    intro p5 H5 hp5 s5 e5
    rw [List.length_map, fm_flt] at e5
    have hL5 := s5 _ _ hL2
    walk_at "sts"
    refine L_lenL (.of e5) ?_
    rw [List.length_map, up_z, ok.cn]
    walk_at "sa"
    have e25 := s5 _ _ e2
    have htk : Z.take (i + 1) = Z.take i ++ [u] := by rw [List.take_add_one, hu]; rfl
    have hul : us.length ≤ 1000 := by
      have h1 := d2.len
      have h2 := List.length_filter_le (fun z => lt_up most (can most (win wide rs)) z.2.1) (Z.take i)
      rw [List.length_map] at h1
      rw [List.length_take] at h2
      omega
    refine L_d (fun c => ?_) (fun c => ?_)
    · walk_at "sts"
      refine L_tyL (.of e25) ?_
      walk_at "sts"
      refine L_methv (s5 _ _ hd2) rfl ?_
      walk_at "sts"
      refine ⟨d, u.2.1, u.2.2, s5 _ _ hd2, fun p6 H6 hp6 s6 e6 => ?_⟩
      walk_at "sts"
      refine L_app (s6 _ _ e25) (sz_lt (by omega)) ?_
      refine ⟨us ++ [.ref p6], _, _, _, rfl, same_mut (s2.trans (s5.trans s6)) hp, upd_same, ?_⟩
      rw [htk, List.filter_append, List.filter_cons_of_pos (by unfold lt_up; simpa using c), List.map_append]
      exact dp_grow d2 (s5.trans s6) (dp_tupN e6 (ne_new hp6 ⟨_, e25⟩) (.cons (.str _) (.cons (.int _) .nil)))
    · walk_at "sts"
      refine ⟨us, _, _, _, rfl, s2.trans s5, e25, ?_⟩
      rw [htk, List.filter_append, List.filter_cons_of_neg (by unfold lt_up; simpa using c), List.map_append]
      rw [List.filter_nil, List.map_nil, List.append_nil]
      exact d2.same (rs_same fun a o h1 h2 => ⟨h1, s5 _ _ h2⟩)
  · rintro σ' H2 ⟨us, v2, v3, v4, rfl, s2, e2, d2⟩
    rw [List.length_map, List.take_length] at d2
    walk_at "sts"
    refine q p us H2 hp s2 e2 ?_
    rw [samp_can, ← ok.cn, List.filter_map, List.map_map]
    rw [ok.cn]
    exact d2
def sp_Last_candidates (K : PySem.W.Frag) (mg : Str → Option Value) : Sp := fun vs H Q _ => match vs with | [.ref x] => ∃ (Z : List (Addr × Rw × Nat)) (wide most : Nat) (rs : List Rw), LastOK K mg H x Z wide most rs ∧ ∀ p us H', H p = none → Same H H' → H' p = some (.lst us) → DpAll K (Kt.rs (· ≠ p) H') us ((can most (win wide rs)).map d2s) → Q (.ref p) H' | _ => False
theorem q_Last_candidates {H : Hp} {Q : VK} {E : XK} {x : Addr} (q : ∃ (Z : List (Addr × Rw × Nat)) (wide most : Nat) (rs : List Rw), LastOK K mg H x Z wide most rs ∧ ∀ p us H', H p = none → Same H H' → H' p = some (.lst us) → DpAll K (Kt.rs (· ≠ p) H') us ((can most (win wide rs)).map d2s) → Q (.ref p) H') : sp_Last_candidates K mg [.ref x] H Q E := q
local macro_rules | `(tactic| walk_at "op") => `(tactic| with_reducible refine q_Last_candidates ?_)
theorem c_Last_candidates (T : Txt K mg) : Met P w K mg base 2 (cA mg "Last") "candidates" (sp_Last_candidates K mg) := by
  refine MethAt.met T.k_Last T.d_Last_candidates (k := 1) sc_Last_candidates (by intro vs H Q E h; unfold sp_Last_candidates at h; split at h <;> first | rfl | exact h.elim) fun f cdv A outer s H vs Q E hr h => ?_
  refine ⟨_, (pss_one (ps_ret (pe_lc (own := [("one", 1)]) (g := (gName 1)) (tt := tYes) (te := (tMeth (cA mg "Candidate") "shown" (sp_Candidate_shown K mg) [] E0 (tVar 1) tNil)) rfl sc_Last_candidates.nd (pi_list (pe_fld (pv 0) rfl)) (blkOk_by (N := ["self", "one"]) (sc := defScope s_Last_candidates) (by decide +kernel)) (fun _ _ _ _ _ => by exact (pg_name (i := 1) sc_Last_candidates.nd rfl (.inl rfl))) (fun _ _ _ _ _ => pts_nil) (fun _ _ _ _ _ => by exact (pe_mt0 (c_Candidate_shown T) hr (by decide) (pv 1)))))), ?_⟩
  try simp only [cxOf_K, cxOf_K', cxOf_mg, cxOf_mg']
  unfold sp_Last_candidates at h
  split at h
  case h_2 => exact h.elim
  rename_i x
  rw [show L2.start ["self", "one"] [V.ref x] = [some (V.ref x), none] from rfl]
  obtain ⟨Z, wide, most, rs, ok, q⟩ := h
  obtain ⟨dx, R, hL, hR⟩ := ok.ob
  have hzl := ok.zl
  walk_at "sa"
  refine L_rl (.of hR) ?_
  refine lc_dp (K := K) walk_list (fun i => (Z[i]?).map fun z => d2s z.2.1) (by rw [List.length_map]; omega) (fun H' e => .of (e _ _ hR)) ?_ ?_
  · rintro j x2 p0 H3 H3' R1 R2 hj np s3 ⟨o, ho⟩ ⟨e, hx⟩ r1 r2
    subst e
    rw [List.getElem?_map] at hx
    obtain ⟨w, hw, rfl⟩ := Option.map_eq_some_iff.mp hx
    obtain ⟨d', hd'⟩ := ok.at_ w (List.mem_of_getElem? hw)
    have hw3 := s3 _ _ hd'
    walk_at "sts"
    refine ⟨rfl, ?_⟩
    walk_at "sts"
    refine L_methv hw3 rfl ?_
    walk_at "sts"
    refine ⟨d', w.2.1, w.2.2, hw3, fun p6 H6 hp6 s6 e6 => ?_⟩
    exact r1 _ _ _ (by rw [hw]; rfl) s6 (dp_tupN e6 (ne_new hp6 ⟨_, ho⟩) (.cons (.str _) (.cons (.int _) .nil)))
  · intro p5 H5 vs5 hp5 s5 e5 d5
    rw [List.length_map, fm_get] at d5
    refine q p5 vs5 H5 hp5 s5 e5 ?_
    rw [← ok.cn, List.map_map]
    exact d5
/-! the law's mixing of a cell -/
def mix (c k : Int) : Int :=
  let a := (c % 2147483629 + 7919 * k + 101) * 48271 % 2147483647
  let b := a * a % 2147483629
  b * (b + 7) % 2147483587
theorem mix_b (c k : Int) : 0 ≤ mix c k ∧ mix c k < 2147483587 := by
  unfold mix
  exact ⟨Int.emod_nonneg _ (by decide), Int.emod_lt_of_pos _ (by decide)⟩
def sp__law_cell_at (K : PySem.W.Frag) (mg : Str → Option Value) : Sp := fun vs H Q _ => match vs with | [.ref a, .int k] => ∃ ns : List Int, SqL K H a (ns.map V.int) ∧ 0 ≤ k ∧ Q (.int (cellAt ns k 0)) H | _ => False
theorem q__law_cell_at {H : Hp} {Q : VK} {E : XK} {a : Addr} {k : Int} (q : ∃ ns : List Int, SqL K H a (ns.map V.int) ∧ 0 ≤ k ∧ Q (.int (cellAt ns k 0)) H) : sp__law_cell_at K mg [.ref a, .int k] H Q E := q
local macro_rules | `(tactic| walk_at "op") => `(tactic| with_reducible refine q__law_cell_at ?_)
theorem c__law_cell_at (T : Txt K mg) : Cal P w K mg base 1 "_law_cell_at" (sp__law_cell_at K mg) := by
  refine T.d__law_cell_at.cal (k := 0) sc__law_cell_at (by intro vs H Q E h; unfold sp__law_cell_at at h; split at h <;> first | rfl | exact h.elim) fun f cdv A outer s H vs Q E hr h => ?_
  refine ⟨_, (pss_cons (ps_if (pt_cmpR op_ltA (pv 1) (pe_callB call_lenA (by rfl) T.n_len (by decide +kernel) (pa_cons (pv 0) pa_nil)) (nomark _))
    (pss_one (ps_ret (pe_ix ix_seq (pv 0) (pv 1) (fun _ _ => rfl))))
    pss_nil)
    (pss_one (ps_ret pe_int))), ?_⟩
  try simp only [cxOf_K, cxOf_K', cxOf_mg, cxOf_mg']
  unfold sp__law_cell_at at h
  split at h
  case h_2 => exact h.elim
  rename_i a k
  rw [show L2.start ["_law_script", "_law_k"] [V.ref a, V.int k] = [some (V.ref a), some (V.int k)] from rfl]
  obtain ⟨ns, hS, hk, q⟩ := h
  walk_at "sa"
  rw [List.length_map]
  refine L_d (fun c => ?_) (fun c => ?_)
  · walk_at "sts"
    exact L_ixL hS (cellAt_in hk c) q
  · walk_at "sts"
    rw [cellAt_out c] at q
    exact q
def sp__law_mix (K : PySem.W.Frag) (mg : Str → Option Value) : Sp := fun vs H Q _ => match vs with | [.int c, .int k] => 0 ≤ k ∧ k < 1000000 ∧ Q (.int (mix c k)) H | _ => False
theorem q__law_mix {H : Hp} {Q : VK} {E : XK} {c : Int} {k : Int} (q : 0 ≤ k ∧ k < 1000000 ∧ Q (.int (mix c k)) H) : sp__law_mix K mg [.int c, .int k] H Q E := q
local macro_rules | `(tactic| walk_at "op") => `(tactic| with_reducible refine q__law_mix ?_)
theorem c__law_mix (T : Txt K mg) : Cal P w K mg base 1 "_law_mix" (sp__law_mix K mg) := by
  refine T.d__law_mix.cal (k := 0) sc__law_mix (by intro vs H Q E h; unfold sp__law_mix at h; split at h <;> first | rfl | exact h.elim) fun f cdv A outer s H vs Q E hr h => ?_
  refine ⟨_, (pss_cons (ps_set (i := 2) sc__law_mix.nd rfl (.inl rfl) (pe_op op_mod (pe_op op_mulA (pe_op op_addA (pe_op op_addA (pe_op op_mod (pv 0) pe_int) (pe_op op_mulA pe_int (pv 1))) pe_int) pe_int) pe_int))
    (pss_cons (ps_set (i := 2) sc__law_mix.nd rfl (.inl rfl) (pe_op op_mod (pe_op op_mulA (pv 2) (pv 2)) pe_int))
    (pss_one (ps_ret (pe_op op_mod (pe_op op_mulA (pv 2) (pe_op op_addA (pv 2) pe_int)) pe_int))))), ?_⟩
  try simp only [cxOf_K, cxOf_K', cxOf_mg, cxOf_mg']
  unfold sp__law_mix at h
  split at h
  case h_2 => exact h.elim
  rename_i c k
  rw [show L2.start ["_law_cell", "_law_k", "_law_number"] [V.int c, V.int k] = [some (V.int c), some (V.int k), none] from rfl]
  obtain ⟨hk, hk2, q⟩ := h
  walk_at "sa"
  exact q
/-- what the law takes of a cell, base by base -/
def nums (d : Bool) : Int → Nat → List Int → List Int
  | _, _, [] => []
  | c, k, b :: r => if d = true then (c % b) :: nums d (c / b) (k + 1) r else (mix c (3 + (k : Int)) % b) :: nums d c (k + 1) r
theorem nums_len (d : Bool) : ∀ (bs : List Int) (c : Int) (k : Nat), (nums d c k bs).length = bs.length
  | [], _, _ => rfl
  | b :: r, c, k => by
    unfold nums
    split
    · rw [List.length_cons, List.length_cons, nums_len d r]
    · rw [List.length_cons, List.length_cons, nums_len d r]
theorem nums_b (d : Bool) : ∀ (bs : List Int) (c : Int) (k : Nat), (∀ b ∈ bs, 0 < b) → ∀ (i : Nat) (z b : Int), (nums d c k bs)[i]? = some z → bs[i]? = some b → 0 ≤ z ∧ z < b
  | [], _, _, _, i, z, b, h, _ => by simp [nums] at h
  | b :: r, c, k, hb, i, z, b', h, h' => by
    have h0 := hb b (List.mem_cons_self ..)
    have hr : ∀ x ∈ r, 0 < x := fun x hx => hb x (List.mem_cons_of_mem _ hx)
    unfold nums at h
    split at h
    · cases i with
      | zero =>
        simp at h h'
        subst h; subst h'
        exact ⟨Int.emod_nonneg _ (by omega), Int.emod_lt_of_pos _ h0⟩
      | succ i => exact nums_b d r _ _ hr i z b' (by simpa using h) (by simpa using h')
    · cases i with
      | zero =>
        simp at h h'
        subst h; subst h'
        exact ⟨Int.emod_nonneg _ (by omega), Int.emod_lt_of_pos _ h0⟩
      | succ i => exact nums_b d r _ _ hr i z b' (by simpa using h) (by simpa using h')
def sp__law_numbers (K : PySem.W.Frag) (mg : Str → Option Value) : Sp := fun vs H Q _ => match vs with | [.int c, .bl d, .ref l] => ∃ bs : List Int, H l = some (.lst (bs.map V.int)) ∧ bs.length ≤ 1000 ∧ (∀ b ∈ bs, 0 < b ∧ b < 18446744073709551616) ∧ NewL H ((nums d c 0 bs).map V.int) Q | _ => False
theorem q__law_numbers {H : Hp} {Q : VK} {E : XK} {c : Int} {d : Bool} {l : Addr} (q : ∃ bs : List Int, H l = some (.lst (bs.map V.int)) ∧ bs.length ≤ 1000 ∧ (∀ b ∈ bs, 0 < b ∧ b < 18446744073709551616) ∧ NewL H ((nums d c 0 bs).map V.int) Q) : sp__law_numbers K mg [.int c, .bl d, .ref l] H Q E := q
local macro_rules | `(tactic| walk_at "op") => `(tactic| with_reducible refine q__law_numbers ?_)
theorem c__law_numbers (T : Txt K mg) : Cal P w K mg base 2 "_law_numbers" (sp__law_numbers K mg) := by
  refine T.d__law_numbers.cal (k := 1) sc__law_numbers (by intro vs H Q E h; unfold sp__law_numbers at h; split at h <;> first | rfl | exact h.elim) fun f cdv A outer s H vs Q E hr h => ?_
  refine ⟨_, (pss_cons (ps_set (i := 3) sc__law_numbers.nd rfl (.inl rfl) (pe_lst pa_nil))
    (pss_cons (ps_for PassesOwn.never rfl (pi_enum (by rfl) T.n_enumerate (pa_cons (pv 2) pa_nil)) (pg_tup rfl (pgs_cons (pg_name (i := 4) sc__law_numbers.nd rfl (.inl rfl)) (pgs_cons (pg_name (i := 5) sc__law_numbers.nd rfl (.inl rfl)) pgs_nil)))
    (pss_one (ps_if (pt_tru (pv 1) (by intro _; rfl))
    (pss_cons (ps_expr (pe_bm PySem.F.plainAttrs_list PySem.F.slot_list_append PySem.F.type_list_append mt_append (pv 3) (pa_cons (pe_op op_mod (pv 0) (pv 5)) pa_nil)))
    (pss_one (ps_set (i := 0) sc__law_numbers.nd rfl (.inl rfl) (pe_op op_fdivW (pv 0) (pv 5)))))
    (pss_one (ps_expr (pe_bm PySem.F.plainAttrs_list PySem.F.slot_list_append PySem.F.type_list_append mt_append (pv 3) (pa_cons (pe_op op_mod (pe_c (c__law_mix T) hr (by decide) (by rfl) (pa_cons (pv 0) (pa_cons (pe_op op_addA pe_int (pv 4)) pa_nil))) (pv 5)) pa_nil)))))))
    (pss_one (ps_ret (pv 3))))), ?_⟩
  try simp only [cxOf_K, cxOf_K', cxOf_mg, cxOf_mg']
  unfold sp__law_numbers at h
  split at h
  case h_2 => exact h.elim
  rename_i c d l
  rw [show L2.start ["_law_cell", "_law_digits", "_law_bases", "_law_numbers_here", "_law_k", "_law_base"] [V.int c, V.bl d, V.ref l] = [some (V.int c), some (V.bl d), some (V.ref l), none, none, none] from rfl]
  obtain ⟨bs, hl, hb, hp, q⟩ := h
  walk_at "sa"
  refine L_new (by decide) fun p hpn => ?_
  walk_at "sa"
  refine L_re (.of (hp_new hpn hl)) ?_
  refine f_it walk_enum (fun i σ' H' => ∃ (c' : Int) (done : List Int) (v1 v2 : Option V), σ' = [some (.int c'), some (.bl d), some (.ref l), some (.ref p), v1, v2] ∧ Same H H' ∧ H' p = some (.lst (done.map V.int)) ∧ done.length = i ∧ nums d c 0 bs = done ++ nums d c' i (bs.drop i)) ⟨c, [], none, none, rfl, same_new hpn, upd_same, rfl, rfl⟩ (fun i σ' H' _ ⟨_, _, _, _, _, s, _⟩ => .of (s _ _ hl)) ?_ ?_
  · rintro i x σ' H' H'' hi ⟨c', done, v1, v2, rfl, s, hd, hlen, e⟩ ⟨T, k0, b0, rfl, hT, rfl, hk, hbv⟩
    cases hk
    rw [List.length_map] at hi
    replace hbv : (bs.map V.int)[i]? = some b0 := hbv
    rw [List.getElem?_map, List.getElem?_eq_getElem hi] at hbv
    cases hbv
    have hb0 := hp bs[i] (List.getElem_mem hi)
    have e2 : bs.drop i = bs[i] :: bs.drop (i + 1) := List.drop_eq_getElem_cons hi
    refine L_gTup (.of upd_same) rfl ?_
    have s2 := same_upd (o := HO.tup [V.int (i : Int), V.int bs[i]]) s hT
    have hd2 := hp_new (o := HO.tup [V.int (i : Int), V.int bs[i]]) hT hd
    walk_at "sts"
    refine L_b (fun hdt => ?_) (fun hdt => ?_)
    · walk_at "sts"
      refine L_tyL (.of hd2) ?_
      walk_at "sts"
      refine L_I hb0.1 ?_
      walk_at "sts"
      refine L_app hd2 (by rw [List.length_map]; exact sz_lt (by omega)) ?_
      walk_at "sts"
      refine L_I ((bd_64 (by omega)).cdiv hb0.1) ?_
      walk_at "sts"
      refine ⟨c' / bs[i], done ++ [c' % bs[i]], _, _, rfl, fun b o hbo => ?_, by rw [List.map_append]; exact upd_same, by simp [hlen], ?_⟩
      · rw [upd_ne (ne_of_none hbo hpn)]; exact s2 _ _ hbo
      · rw [e, e2, nums, if_pos hdt, List.append_assoc]; rfl
    · walk_at "sts"
      refine L_tyL (.of hd2) ?_
      walk_at "sts"
      refine ⟨by omega, by omega, ?_⟩
      walk_at "sts"
      refine L_I hb0.1 ?_
      walk_at "sts"
      refine L_app hd2 (by rw [List.length_map]; exact sz_lt (by omega)) ?_
      walk_at "sts"
      refine ⟨c', done ++ [mix c' (3 + (i : Int)) % bs[i]], _, _, rfl, fun b o hbo => ?_, by rw [List.map_append]; exact upd_same, by simp [hlen], ?_⟩
      · rw [upd_ne (ne_of_none hbo hpn)]; exact s2 _ _ hbo
      · rw [e, e2, nums, if_neg (by simp [hdt]), List.append_assoc]; rfl
  · rintro σ' H' ⟨c', done, v1, v2, rfl, s, hd, hlen, e⟩
    walk_at "sts"
    rw [List.length_map, List.drop_length, nums, List.append_nil] at e
    rw [← e] at hd
    exact q p H' hpn s hd
/-! the plain law -/
theorem gr_irr (x : Rw) : gr x x = false := by unfold gr; rw [if_pos rfl]; exact decide_eq_false (by omega)
theorem gr_tot {x y : Rw} (h : x.1 ≠ y.1) (n : gr y x = false) : gr x y = true := by
  unfold gr at *
  split at n <;> split <;> simp only [decide_eq_false_iff_not, decide_eq_true_eq] at * <;> omega
theorem up_le {r : List Rw} {x y : Rw} (g : gr x y = true) : up r x ≤ up r y := by
  unfold up
  rw [← List.countP_eq_length_filter, ← List.countP_eq_length_filter]
  exact List.countP_mono_left fun z _ hz => gr_trans hz g
theorem up_lt {r : List Rw} {x y : Rw} (hx : x ∈ r) (g : gr x y = true) : up r x < up r y := by
  obtain ⟨a, b, rfl⟩ := List.append_of_mem hx
  rw [up_app, up_app, up_cons, up_cons, gr_irr, if_neg Bool.false_ne_true, if_pos g]
  have := up_le (r := a) g
  have := up_le (r := b) g
  omega
theorem up_len (r : List Rw) (x : Rw) : up r x ≤ r.length := List.length_filter_le ..
theorem samp_cnt (m : Nat) (w : List Rw) : (samp m w).length = w.countP fun x => decide (up w x < m) := by unfold samp; rw [List.countP_eq_length_filter]
theorem samp_len : ∀ (w : List Rw) (m : Nat), (w.map (·.1)).Nodup → (samp m w).length = min m w.length
  | [], m, _ => by simp [samp]
  | y :: r, m, h => by
    rw [List.map_cons, List.nodup_cons] at h
    obtain ⟨hy, hr⟩ := h
    have hne : ∀ x ∈ r, x.1 ≠ y.1 := fun x hx e => hy (by rw [← e]; exact List.mem_map_of_mem hx)
    rw [samp_cnt, List.countP_cons, up_cons, gr_irr, if_neg Bool.false_ne_true, Nat.zero_add, List.length_cons]
    by_cases hk : up r y < m
    · have e : r.countP (fun x => decide (up (y :: r) x < m)) = r.countP fun x => decide (up r x < m - 1) := List.countP_congr fun x hx => by
        rw [decide_eq_true_eq, decide_eq_true_eq, up_cons]
        cases g : gr y x with
        | true => rw [if_pos rfl]; omega
        | false =>
          rw [if_neg Bool.false_ne_true]
          have := up_lt hx (gr_tot (hne x hx) g)
          omega
      rw [e, ← samp_cnt, samp_len r (m - 1) hr, if_pos (decide_eq_true hk)]
      omega
    · have e : r.countP (fun x => decide (up (y :: r) x < m)) = r.countP fun x => decide (up r x < m) := List.countP_congr fun x hx => by
        rw [decide_eq_true_eq, decide_eq_true_eq, up_cons]
        cases g : gr y x with
        | true =>
          rw [if_pos rfl]
          have := up_le (r := r) g
          omega
        | false => rw [if_neg Bool.false_ne_true]; omega
      rw [e, ← samp_cnt, samp_len r m hr, if_neg (by simpa using hk)]
      have := up_len r y
      omega
theorem samp_in {m : Nat} {w : List Rw} {x : Rw} (h : x ∈ samp m w) : x ∈ can m w := by
  rw [samp_can] at h
  exact (List.mem_filter.mp h).1
theorem can_of {m : Nat} {x : Rw} {r : List Rw} (h : up r x < m) : ∀ a : List Rw, x ∈ can m (a ++ x :: r)
  | [] => by
    unfold can
    rw [List.nil_append, cab, if_pos h]
    exact List.mem_cons_self ..
  | y :: a => by
    have := can_of h a
    unfold can at this ⊢
    rw [List.cons_append, cab]
    split
    · exact List.mem_cons_of_mem _ this
    · exact this
theorem can_at {m : Nat} {x : Rw} : ∀ {w : List Rw}, x ∈ can m w → ∃ a r, w = a ++ x :: r ∧ up r x < m
  | [], h => nomatch h
  | y :: r, h => by
    unfold can at h
    rw [cab] at h
    split at h
    · rename_i hu
      rcases List.mem_cons.mp h with rfl | h
      · exact ⟨[], r, rfl, hu⟩
      · obtain ⟨a, r', e, h'⟩ := can_at (w := r) h
        exact ⟨y :: a, r', by rw [e]; rfl, h'⟩
    · obtain ⟨a, r', e, h'⟩ := can_at (w := r) h
      exact ⟨y :: a, r', by rw [e]; rfl, h'⟩
/-- the place's own name -/
def sg (p : Nat) : Str := ⟨#[97 + p % 26]⟩
def nm (p : Nat) : Str := sg p ++ sg (p / 26)
theorem nm_inj {p q : Nat} (hp : p < 676) (hq : q < 676) (h : nm p = nm q) : p = q := by
  have h2 := congrArg (fun z : Str => z.cps.toList) h
  simp only [nm, sg, str_app_list] at h2
  simp at h2
  omega
theorem nm_name (p : Nat) : isName (nm p) = true := by
  unfold isName nm sg
  rw [str_len_append, len1, len1, str_app_list]
  have h1 : 97 + p % 26 ≤ 122 := by omega
  have h2 : 97 + p / 26 % 26 ≤ 122 := by omega
  simp [h1, h2]
def mk (ns : List Int) : List Rw := ns.mapIdx fun i n => ((i : Int), nm i, n)
theorem mk_at (ns : List Int) (i : Nat) : (mk ns)[i]? = ns[i]?.map fun n => (((i : Nat) : Int), nm i, n) := List.getElem?_mapIdx
theorem mk_len (ns : List Int) : (mk ns).length = ns.length := List.length_mapIdx
theorem mk_snoc (ns : List Int) (n : Int) : mk (ns ++ [n]) = mk ns ++ [((ns.length : Int), nm ns.length, n)] := by unfold mk; rw [List.mapIdx_concat]
theorem mk_in {ns : List Int} {x : Rw} (h : x ∈ mk ns) : ∃ (i : Nat) (n : Int), ns[i]? = some n ∧ x = ((i : Int), nm i, n) := by
  obtain ⟨i, hi⟩ := List.mem_iff_getElem?.mp h
  rw [mk_at] at hi
  obtain ⟨n, h1, h2⟩ := Option.map_eq_some_iff.mp hi
  exact ⟨i, n, h1, h2.symm⟩
theorem mk_pl (ns : List Int) : Pl 0 (mk ns) := fun i r h => by
  rw [mk_at] at h
  obtain ⟨n, _, rfl⟩ := Option.map_eq_some_iff.mp h
  simp
/-- more things came: those ahead are as they were -/
theorem mk_more (ns : List Int) : ∀ ms : List Int, ∃ b, mk (ns ++ ms) = mk ns ++ b ∧ ∀ y ∈ b, (ns.length : Int) ≤ y.1 ∧ y.2.2 ∈ ms := by
  intro ms
  refine ⟨ms.mapIdx fun i n => (((i + ns.length : Nat) : Int), nm (i + ns.length), n), by unfold mk; rw [List.mapIdx_append], fun y hy => ?_⟩
  obtain ⟨i, hi⟩ := List.mem_iff_getElem?.mp hy
  rw [List.getElem?_mapIdx] at hi
  obtain ⟨n, h1, rfl⟩ := Option.map_eq_some_iff.mp hi
  exact ⟨by show (ns.length : Int) ≤ ((i + ns.length : Nat) : Int); omega, List.mem_of_getElem? h1⟩
theorem pl_nodup : ∀ {n : Nat} {w : List Rw}, Pl n w → (w.map (·.1)).Nodup
  | _, [], _ => List.nodup_nil
  | n, y :: r, h => by
    rw [List.map_cons, List.nodup_cons]
    refine ⟨fun hm => ?_, pl_nodup h.tail⟩
    obtain ⟨z, hz, e⟩ := List.mem_map.mp hm
    have h1 := h.tail.ge hz
    have h2 := h 0 y rfl
    omega
theorem win_pl (wide : Nat) (ns : List Int) : Pl (0 + (ns.length - wide)) (win wide (mk ns)) := by
  unfold win
  rw [mk_len]
  exact Pl.drop (rs := mk ns) _ (mk_pl ns)
theorem win_len (wide : Nat) (ns : List Int) : (win wide (mk ns)).length = min wide ns.length := by
  unfold win
  rw [List.length_drop, mk_len]
  omega
/-- the sample is as large as can be -/
theorem law_len (wide most : Nat) (ns : List Int) : (samp most (win wide (mk ns))).length = min most (min wide ns.length) := by
  rw [samp_len _ _ (pl_nodup (win_pl wide ns)), win_len]
theorem cab_sub' {m : Nat} {w : List Rw} {x : Rw} (h : x ∈ can m w) : x ∈ w := by
  obtain ⟨p, h1, rfl⟩ := List.mem_map.mp h
  exact cab_in h1
theorem win_sub' {wide : Nat} {w : List Rw} {x : Rw} (h : x ∈ win wide w) : x ∈ w := List.mem_of_mem_drop h
/-- each candidate is in the sample at some time, where noughts come -/
theorem law_some {wide most : Nat} {ns : List Int} (h0 : ∀ n ∈ ns, 0 ≤ n) {x : Rw} (hx : x ∈ can most (win wide (mk ns))) : ∃ t, t ≤ wide ∧ x ∈ samp most (win wide (mk (ns ++ (List.replicate wide 0).take t))) := by
  obtain ⟨a, r, e, hu⟩ := can_at hx
  have hxw : (win wide (mk ns))[a.length]? = some x := by rw [e]; simp
  have hp := win_pl wide ns _ _ hxw
  have hl := win_len wide ns
  have hal : a.length < (win wide (mk ns)).length := (List.getElem?_eq_some_iff.mp hxw).1
  obtain ⟨p, hpe⟩ : ∃ p : Nat, p = 0 + (ns.length - wide) + a.length := ⟨_, rfl⟩
  rw [← hpe] at hp
  have hd : (mk ns).drop p = x :: r := by
    rw [hpe, Nat.zero_add, ← List.drop_drop, show (mk ns).drop (ns.length - wide) = win wide (mk ns) by unfold win; rw [mk_len], e]
    simp
  refine ⟨p + wide - ns.length, by omega, ?_⟩
  obtain ⟨b, hb, hb2⟩ := mk_more ns ((List.replicate wide (0 : Int)).take (p + wide - ns.length))
  have htl : ((List.replicate wide (0 : Int)).take (p + wide - ns.length)).length = p + wide - ns.length := by rw [List.length_take, List.length_replicate]; omega
  have hw : win wide (mk (ns ++ (List.replicate wide (0 : Int)).take (p + wide - ns.length))) = x :: (r ++ b) := by
    unfold win
    rw [mk_len, List.length_append, htl, hb, show ns.length + (p + wide - ns.length) - wide = p by omega, List.drop_append_of_le_length (by rw [mk_len]; omega), hd]
    rfl
  rw [hw]
  unfold samp
  refine List.mem_filter.mpr ⟨List.mem_cons_self .., decide_eq_true ?_⟩
  rw [up_cons, gr_irr, if_neg Bool.false_ne_true, Nat.zero_add, up_app]
  have hz : up b x = 0 := by
    unfold up
    rw [List.filter_eq_nil_iff.mpr]
    · rfl
    · intro y hy
      obtain ⟨y1, y2⟩ := hb2 y hy
      have y3 := List.eq_of_mem_replicate (List.mem_of_mem_take y2)
      have hx0 : 0 ≤ x.2.2 := by
        obtain ⟨i, n, h1, rfl⟩ := mk_in (win_sub' (cab_sub' hx))
        exact h0 n (List.mem_of_getElem? h1)
      unfold gr
      split <;> simp only [decide_eq_true_eq] <;> omega
  omega
/-- what is no candidate is never in the sample again -/
theorem law_gone {wide most : Nat} {ns : List Int} {p : Nat} (hp0 : ns.length - wide ≤ p) (hp1 : p < ns.length) (hg : nm p ∉ (can most (win wide (mk ns))).map (·.2.1)) (ms : List Int) (hl : (ns ++ ms).length ≤ 676) : nm p ∉ (samp most (win wide (mk (ns ++ ms)))).map (·.2.1) := by
  intro hin
  obtain ⟨y, hy, e⟩ := List.mem_map.mp hin
  obtain ⟨hyw, hyu⟩ := List.mem_filter.mp hy
  have hyu := of_decide_eq_true hyu
  obtain ⟨i, n, h1, rfl⟩ := mk_in (win_sub' hyw)
  have hi : i < (ns ++ ms).length := (List.getElem?_eq_some_iff.mp h1).1
  have hl2 : ns.length ≤ (ns ++ ms).length := by rw [List.length_append]; omega
  obtain rfl : p = i := nm_inj (by omega) (by omega) e.symm
  rw [List.getElem?_append_left hp1] at h1
  -- its place in the first window
  have hx : (mk ns)[p]? = some (((p : Nat) : Int), nm p, n) := by rw [mk_at, h1]; rfl
  generalize hxe : ((((p : Nat) : Int), nm p, n) : Rw) = x at *
  have hd : (mk ns).drop p = x :: (mk ns).drop (p + 1) := by
    obtain ⟨z1, z2⟩ := List.getElem?_eq_some_iff.mp hx
    rw [List.drop_eq_getElem_cons z1, z2]
  have hw : ∃ a, win wide (mk ns) = a ++ x :: (mk ns).drop (p + 1) := by
    refine ⟨((mk ns).drop (ns.length - wide)).take (p - (ns.length - wide)), ?_⟩
    rw [← hd]
    unfold win
    rw [mk_len]
    conv => lhs; rw [← List.take_append_drop (p - (ns.length - wide)) ((mk ns).drop (ns.length - wide))]
    rw [List.drop_drop, show ns.length - wide + (p - (ns.length - wide)) = p by omega]
  obtain ⟨a, hw⟩ := hw
  have hge : most ≤ up ((mk ns).drop (p + 1)) x := by
    refine Nat.le_of_not_lt fun hlt => hg ?_
    rw [hw]
    exact List.mem_map.mpr ⟨x, can_of hlt a, by rw [← hxe]⟩
  -- and in the later one
  obtain ⟨b, hb, _⟩ := mk_more ns ms
  rw [hb] at hyw hyu
  unfold win at hyw hyu
  rw [List.length_append, mk_len] at hyw hyu
  have hle : ns.length + b.length - wide ≤ p := by
    obtain ⟨j, hj⟩ := List.mem_iff_getElem?.mp hyw
    rw [List.getElem?_drop, ← hb] at hj
    have := mk_pl (ns ++ ms) _ _ hj
    rw [← hxe] at this
    have h3 : (p : Int) = _ := this
    omega
  rw [List.drop_append_of_le_length (by rw [mk_len]; omega), up_app] at hyu
  have hs : up ((mk ns).drop (p + 1)) x ≤ up ((mk ns).drop (ns.length + b.length - wide)) x := by
    have e2 : (mk ns).drop (p + 1) = ((mk ns).drop (ns.length + b.length - wide)).drop (p + 1 - (ns.length + b.length - wide)) := by rw [List.drop_drop]; congr 1; omega
    rw [e2]
    conv => rhs; rw [← List.take_append_drop (p + 1 - (ns.length + b.length - wide)) ((mk ns).drop (ns.length + b.length - wide))]
    rw [up_app]
    omega
  omega
theorem nuMin3_int (a b c : Int) : nuMin3 (.int a) (.int b) (.int c) = some (.int (min a (min b c))) := by
  have h : ∀ x y : Int, nuMin2 (.int x) (.int y) = some (.int (min x y)) := fun x y => by
    show some (if decide (y < x) = true then V.int y else V.int x) = _
    by_cases c : y < x
    · rw [if_pos (decide_eq_true c), Int.min_eq_right (by omega)]
    · rw [if_neg (by simpa using c), Int.min_eq_left (by omega)]
  unfold nuMin3
  rw [h, Option.bind_some, h, Int.min_assoc]
def sp__law_name (K : PySem.W.Frag) (mg : Str → Option Value) : Sp := fun vs H Q _ => match vs with | [.int p] => ∃ n : Nat, p = (n : Int) ∧ n < 1000000 ∧ Q (.str (nm n)) H | _ => False
theorem q__law_name {H : Hp} {Q : VK} {E : XK} {p : Int} (q : ∃ n : Nat, p = (n : Int) ∧ n < 1000000 ∧ Q (.str (nm n)) H) : sp__law_name K mg [.int p] H Q E := q
local macro_rules | `(tactic| walk_at "op") => `(tactic| with_reducible refine q__law_name ?_)
theorem c__law_name (T : Txt K mg) : Cal P w K mg base 1 "_law_name" (sp__law_name K mg) := by
  refine T.d__law_name.cal (k := 0) sc__law_name (by intro vs H Q E h; unfold sp__law_name at h; split at h <;> first | rfl | exact h.elim) fun f cdv A outer s H vs Q E hr h => ?_
  refine ⟨_, (pss_cons (ps_set (i := 1) sc__law_name.nd rfl (.inl rfl) pe_str)
    (pss_one (ps_ret (pe_op op_addA (pe_ix ix_seq (pv 1) (pe_op op_mod (pv 0) pe_int) (fun _ _ => rfl)) (pe_ix ix_seq (pv 1) (pe_op op_mod (pe_op op_fdivW (pv 0) pe_int) pe_int) (fun _ _ => rfl)))))), ?_⟩
  try simp only [cxOf_K, cxOf_K', cxOf_mg, cxOf_mg']
  unfold sp__law_name at h
  split at h
  case h_2 => exact h.elim
  rename_i p
  rw [show L2.start ["_law_place", "_law_letters"] [V.int p] = [some (V.int p), none] from rfl]
  obtain ⟨n, rfl, hn, q⟩ := h
  have sgn : ∀ k : Nat, atI (Str.ofString "abcdefghijklmnopqrstuvwxyz").cps.toList ((k : Int) % 26) = some (97 + k % 26) := fun k => by
    rw [show (k : Int) % 26 = ((k % 26 : Nat) : Int) by omega]
    refine atI_nat ?_
    rw [letters_is, List.getElem?_range' (by omega), Nat.one_mul]
  walk_at "sa"
  refine L_ixS (sz_dec (by decide)) (sgn n) ?_
  walk_at "sa"
  rw [show (n : Int) / 26 = ((n / 26 : Nat) : Int) by omega]
  refine L_ixS (sz_dec (by decide)) (sgn (n / 26)) ?_
  refine L_addS (sz_dec (by rw [len1, len1]; decide)) ?_
  exact q
def sp__law_last (K : PySem.W.Frag) (mg : Str → Option Value) : Sp := fun vs H Q _ => match vs with | [.int wi, .int mo, .ref a] => ∃ (wide most : Nat) (ns : List Int), wi = (wide : Int) ∧ mo = (most : Int) ∧ 1 ≤ wide ∧ wide ≤ 100 ∧ 1 ≤ most ∧ most ≤ 24 ∧ SqL K H a (ns.map V.int) ∧ ns.length ≤ 600 ∧ (∀ n ∈ ns, 0 ≤ n ∧ n ≤ 1000000000) ∧ ∀ L H' Z, H L = none → Same H H' → LastOK K mg H' L Z wide most (mk ns) → (∀ z ∈ Z, H z.1 = none) → Q (.ref L) H' | _ => False
theorem q__law_last {H : Hp} {Q : VK} {E : XK} {wi : Int} {mo : Int} {a : Addr} (q : ∃ (wide most : Nat) (ns : List Int), wi = (wide : Int) ∧ mo = (most : Int) ∧ 1 ≤ wide ∧ wide ≤ 100 ∧ 1 ≤ most ∧ most ≤ 24 ∧ SqL K H a (ns.map V.int) ∧ ns.length ≤ 600 ∧ (∀ n ∈ ns, 0 ≤ n ∧ n ≤ 1000000000) ∧ ∀ L H' Z, H L = none → Same H H' → LastOK K mg H' L Z wide most (mk ns) → (∀ z ∈ Z, H z.1 = none) → Q (.ref L) H') : sp__law_last K mg [.int wi, .int mo, .ref a] H Q E := q
local macro_rules | `(tactic| walk_at "op") => `(tactic| with_reducible refine q__law_last ?_)
theorem c__law_last (T : Txt K mg) : Cal P w K mg base 4 "_law_last" (sp__law_last K mg) := by
  refine T.d__law_last.cal (k := 3) sc__law_last (by intro vs H Q E h; unfold sp__law_last at h; split at h <;> first | rfl | exact h.elim) fun f cdv A outer s H vs Q E hr h => ?_
  refine ⟨_, (pss_cons (ps_set (i := 3) sc__law_last.nd rfl (.inl rfl) (pe_xMk (m_Last T) hr (by decide) (by rfl) (fun σ => passN σ) (pa_cons (pv 0) (pa_cons (pv 1) pa_nil))))
    (pss_cons (ps_for PassesOwn.never rfl (pi_enum (by rfl) T.n_enumerate (pa_cons (pv 2) pa_nil)) (pg_tup rfl (pgs_cons (pg_name (i := 4) sc__law_last.nd rfl (.inl rfl)) (pgs_cons (pg_name (i := 5) sc__law_last.nd rfl (.inl rfl)) pgs_nil)))
    (pss_one (ps_expr (pe_xMt (c_Last_come T) hr (by decide) (fun σ => passN σ) (pv 3) (pa_cons (pe_c (c__law_name T) hr (by decide) (by rfl) (pa_cons (pv 4) pa_nil)) (pa_cons (pv 5) pa_nil))))))
    (pss_one (ps_ret (pv 3))))), ?_⟩
  try simp only [cxOf_K, cxOf_K', cxOf_mg, cxOf_mg']
  unfold sp__law_last at h
  split at h
  case h_2 => exact h.elim
  rename_i wi mo a
  rw [show L2.start ["_law_wide", "_law_most", "_law_numbers_here", "_law_last_here", "_law_place", "_law_number"] [V.int wi, V.int mo, V.ref a] = [some (V.int wi), some (V.int mo), some (V.ref a), none, none, none] from rfl]
  obtain ⟨wide, most, ns, rfl, rfl, w1, w2, m1, m2, hN, hl, hb, q⟩ := h
  walk_at "sts"
  refine L_last ⟨w1, w2, m1, m2⟩ fun L H1 hL s1 ok1 => ?_
  walk_at "sts"
  refine L_re (s1.seq hN) ?_
  refine f_it walk_enum (fun i σ' H' => ∃ (Z : List (Addr × Rw × Nat)) (v4 v5 : Option V), σ' = [some (.int (wide : Nat)), some (.int (most : Nat)), some (.ref a), some (.ref L), v4, v5] ∧ Same H H' ∧ LastOK K mg H' L Z wide most (mk (ns.take i)) ∧ ∀ z ∈ Z, H z.1 = none) ⟨[], _, _, rfl, s1, ok1, (fun _ h => nomatch h)⟩ (fun i σ' H' _ ⟨_, _, _, _, s, _⟩ => s.seq hN) ?_ ?_
  · rintro i x σ' Ha Ha' hi ⟨Z, v4, v5, rfl, sa, ok, hZ⟩ ⟨T1, k0, t0, rfl, hT, rfl, hk, hx⟩
    cases hk
    replace hx : (ns.map V.int)[i]? = some t0 := hx
    rw [List.getElem?_map] at hx
    obtain ⟨c, hc, rfl⟩ := Option.map_eq_some_iff.mp hx
    rw [List.length_map] at hi
    have hcb := hb c (List.mem_of_getElem? hc)
    refine L_gTup (.of upd_same) rfl ?_
    have sb : Same Ha (upd Ha T1 (HO.tup [V.int (i : Int), V.int c])) := same_new hT
    generalize upd Ha T1 (HO.tup [V.int (i : Int), V.int c]) = Hb at sb
    have okb := ok.same sb
    obtain ⟨dx, R, hLb, -⟩ := okb.ob
    walk_at "sts"
    refine L_methv hLb rfl ?_
    walk_at "sts"
    refine ⟨i, rfl, by omega, ?_⟩
    walk_at "sts"
    have htl : (ns.take i).length = i := by rw [List.length_take]; omega
    refine ⟨Z, wide, most, _, okb, .inr ⟨nm i, c, rfl, rfl, nm_name i, hcb.1, hcb.2, by rw [mk_len]; omega, fun Hk Z' fr hz' ok' _ => ?_⟩⟩
    walk_at "sts"
    refine ⟨Z', _, _, rfl, fun b o hbo => fr _ _ ((sa.trans sb) _ _ hbo) (fun z => by rw [z, hL] at hbo; cases hbo) (fun y hy z => by rw [z, hZ y hy] at hbo; cases hbo), ?_, fun y hy => ?_⟩
    · rw [mk_len, htl] at ok'
      have e := mk_snoc (ns.take i) c
      rw [htl] at e
      rw [List.take_add_one, hc, Option.toList_some, e]
      exact ok'
    · rcases hz' y hy with h | ⟨y', h1, h2⟩
      · exact (sa.trans sb).free h
      · rw [← h2]; exact hZ y' h1
  · rintro σ' Ha ⟨Z, v4, v5, rfl, sa, ok, hZ⟩
    rw [List.length_map, List.take_length] at ok
    walk_at "sts"
    exact q L Ha Z hL sa ok hZ
theorem hit2s {H : Hp} {us : List V} {c : List Rw} (hA : DpAll K H us (c.map d2s)) {i : Nat} {x : V} (hx : us[i]? = some x) : ∃ m t, c[i]? = some m ∧ x = .ref t ∧ SqT K H t [.str m.2.1, .int m.2.2] := by
  obtain ⟨d, h1, h2⟩ := hA.of hx
  rw [List.getElem?_map] at h1
  obtain ⟨m, h3, rfl⟩ := Option.map_eq_some_iff.mp h1
  obtain ⟨t, x1, x2, rfl, h4, h5, h6⟩ := of_t2 h2
  rw [of_str h5, of_int h6] at h4
  exact ⟨m, t, h3, rfl, h4⟩
/-- the names -/
def nms (l : List Rw) : List Str := l.map (·.2.1)
def sp__law_names (K : PySem.W.Frag) (mg : Str → Option Value) : Sp := fun vs H Q _ => match vs with | [.ref a] => ∃ (us : List V) (l : List Rw), SqL K H a us ∧ DpAll K H us (l.map d2s) ∧ l.length ≤ 1000 ∧ NewL H ((nms l).map V.str) Q | _ => False
theorem q__law_names {H : Hp} {Q : VK} {E : XK} {a : Addr} (q : ∃ (us : List V) (l : List Rw), SqL K H a us ∧ DpAll K H us (l.map d2s) ∧ l.length ≤ 1000 ∧ NewL H ((nms l).map V.str) Q) : sp__law_names K mg [.ref a] H Q E := q
local macro_rules | `(tactic| walk_at "op") => `(tactic| with_reducible refine q__law_names ?_)
theorem c__law_names (T : Txt K mg) : Cal P w K mg base 1 "_law_names" (sp__law_names K mg) := by
  refine T.d__law_names.cal (k := 0) sc__law_names (by intro vs H Q E h; unfold sp__law_names at h; split at h <;> first | rfl | exact h.elim) fun f cdv A outer s H vs Q E hr h => ?_
  refine ⟨_, (pss_one (ps_ret (pe_lc (own := [("_law_name_here", 1), ("_law_number", 2)]) (g := (gTup K 2 (gCons (gName 1) (gCons (gName 2) gNil)))) (tt := tYes) (te := (tVar 1)) rfl sc__law_names.nd (pi_list (pv 0)) (blkOk_by (N := ["_law_rows", "_law_name_here", "_law_number"]) (sc := defScope s__law_names) (by decide +kernel)) (fun _ _ _ _ _ => by exact (pg_tup rfl (pgs_cons (pg_name (i := 1) sc__law_names.nd rfl (.inl rfl)) (pgs_cons (pg_name (i := 2) sc__law_names.nd rfl (.inl rfl)) pgs_nil)))) (fun _ _ _ _ _ => pts_nil) (fun _ _ _ _ _ => by exact (pv 1))))), ?_⟩
  try simp only [cxOf_K, cxOf_K', cxOf_mg, cxOf_mg']
  unfold sp__law_names at h
  split at h
  case h_2 => exact h.elim
  rename_i a
  rw [show L2.start ["_law_rows", "_law_name_here", "_law_number"] [V.ref a] = [some (V.ref a), none, none] from rfl]
  obtain ⟨us, l, hL, hA, hl, q⟩ := h
  have hul := hA.len
  rw [List.length_map] at hul
  walk_at "sts"
  refine L_rl hL ?_
  refine lc_fm walk_list (fun i => (l[i]?).map fun r => V.str r.2.1) (by omega) (fun H' e => e.seq hL) ?_ ?_
  · rintro j x2 H3 H3' R1 R2 hj s3 ⟨e, hx⟩ r1 r2
    subst e
    obtain ⟨m, t, hm, rfl, ht⟩ := hit2s hA hx
    refine L_gTup (s3.seqT ht) rfl ?_
    walk_at "sts"
    refine ⟨rfl, ?_⟩
    walk_at "sts"
    exact r1 _ _ (by rw [hm]; rfl) (Same.refl _)
  · intro p5 H5 hp5 s5 e5
    rw [hul, fm_get] at e5
    refine q p5 H5 hp5 s5 ?_
    unfold nms
    rw [List.map_map]
    exact e5
theorem L_names {H : Hp} {Q : VK} {a : Addr} {us : List V} {l : List Rw} (h : H a = some (.lst us)) (hA : DpAll K (rs (· ≠ a) H) us (l.map d2s)) (hl : l.length ≤ 1000) (q : ∀ p H', H p = none → Same H H' → H' p = some (.lst ((nms l).map V.str)) → Q (.ref p) H') : ∃ (us : List V) (l : List Rw), SqL K H a us ∧ DpAll K H us (l.map d2s) ∧ l.length ≤ 1000 ∧ NewL H ((nms l).map V.str) Q :=
  ⟨us, l, .of h, hA.same rs_sub, hl, q⟩
theorem samp_le (m : Nat) (w : List Rw) : (samp m w).length ≤ w.length := List.length_filter_le ..
theorem can_le (m : Nat) (w : List Rw) : (can m w).length ≤ w.length := by unfold can; rw [List.length_map]; exact cab_len w
theorem win_le (wide : Nat) (ns : List Int) : (win wide (mk ns)).length ≤ ns.length := by rw [win_len]; omega
def sp__law_led_on (K : PySem.W.Frag) (mg : Str → Option Value) : Sp := fun vs H Q _ => match vs with | [.int wi, .int mo, .ref a, .ref b] => ∃ (wide most : Nat) (ns ms : List Int), wi = (wide : Int) ∧ mo = (most : Int) ∧ 1 ≤ wide ∧ wide ≤ 100 ∧ 1 ≤ most ∧ most ≤ 24 ∧ SqL K H a (ns.map V.int) ∧ SqL K H b (ms.map V.int) ∧ ns.length ≤ 100 ∧ ms.length ≤ 100 ∧ (∀ n ∈ ns, 0 ≤ n ∧ n ≤ 1000000000) ∧ (∀ n ∈ ms, 0 ≤ n ∧ n ≤ 1000000000) ∧ ∀ (p : Addr) (names : List Str) (H' : Hp), H p = none → Same H H' → H' p = some (.lst (names.map V.str)) → (∀ z, z ∈ names ↔ ∃ t, t ≤ ms.length ∧ z ∈ nms (samp most (win wide (mk (ns ++ ms.take t))))) → Q (.ref p) H' | _ => False
theorem q__law_led_on {H : Hp} {Q : VK} {E : XK} {wi : Int} {mo : Int} {a : Addr} {b : Addr} (q : ∃ (wide most : Nat) (ns ms : List Int), wi = (wide : Int) ∧ mo = (most : Int) ∧ 1 ≤ wide ∧ wide ≤ 100 ∧ 1 ≤ most ∧ most ≤ 24 ∧ SqL K H a (ns.map V.int) ∧ SqL K H b (ms.map V.int) ∧ ns.length ≤ 100 ∧ ms.length ≤ 100 ∧ (∀ n ∈ ns, 0 ≤ n ∧ n ≤ 1000000000) ∧ (∀ n ∈ ms, 0 ≤ n ∧ n ≤ 1000000000) ∧ ∀ (p : Addr) (names : List Str) (H' : Hp), H p = none → Same H H' → H' p = some (.lst (names.map V.str)) → (∀ z, z ∈ names ↔ ∃ t, t ≤ ms.length ∧ z ∈ nms (samp most (win wide (mk (ns ++ ms.take t))))) → Q (.ref p) H') : sp__law_led_on K mg [.int wi, .int mo, .ref a, .ref b] H Q E := q
local macro_rules | `(tactic| walk_at "op") => `(tactic| with_reducible refine q__law_led_on ?_)
theorem c__law_led_on (T : Txt K mg) : Cal P w K mg base 5 "_law_led_on" (sp__law_led_on K mg) := by
  refine T.d__law_led_on.cal (k := 4) sc__law_led_on (by intro vs H Q E h; unfold sp__law_led_on at h; split at h <;> first | rfl | exact h.elim) fun f cdv A outer s H vs Q E hr h => ?_
  refine ⟨_, (pss_cons (ps_set (i := 4) sc__law_led_on.nd rfl (.inl rfl) (pe_c (c__law_last T) hr (by decide) (by rfl) (pa_cons (pv 0) (pa_cons (pv 1) (pa_cons (pv 2) pa_nil)))))
    (pss_cons (ps_set (i := 5) sc__law_led_on.nd rfl (.inr rfl) (pe_c (c__law_names T) hr (by decide) (by rfl) (pa_cons (pe_mt0 (c_Last_sample T) hr (by decide) (pv 4)) pa_nil)))
    (pss_cons (ps_for PassesOwn.never rfl (pi_enum (by rfl) T.n_enumerate (pa_cons (pv 3) pa_nil)) (pg_tup rfl (pgs_cons (pg_name (i := 6) sc__law_led_on.nd rfl (.inl rfl)) (pgs_cons (pg_name (i := 7) sc__law_led_on.nd rfl (.inl rfl)) pgs_nil)))
    (pss_cons (ps_expr (pe_xMt (c_Last_come T) hr (by decide) (fun σ => passN σ) (pv 4) (pa_cons (pe_c (c__law_name T) hr (by decide) (by rfl) (pa_cons (pe_op op_addA (pe_callB call_lenA (by rfl) T.n_len (by decide +kernel) (pa_cons (pv 2) pa_nil)) (pv 6)) pa_nil)) (pa_cons (pv 7) pa_nil))))
    (pss_one (ps_set (i := 5) sc__law_led_on.nd rfl (.inr rfl) (pe_op op_addA (pv 5) (pe_lc (own := [("_law_name_here", 8)]) (g := (gName 8)) (tt := (tTest (tOp (aNotIn K) (tVar 8) (tVar 5)))) (te := (tVar 8)) rfl sc__law_led_on.nd (pi_list (pe_c (c__law_names T) hr (by decide) (by rfl) (pa_cons (pe_mt0 (c_Last_sample T) hr (by decide) (pv 4)) pa_nil))) (blkOk_by (N := ["_law_wide", "_law_most", "_law_numbers_here", "_law_more", "_law_last_here", "_law_met_names", "_law_k", "_law_number", "_law_name_here"]) (sc := defScope s__law_led_on) (by decide +kernel)) (fun _ _ _ _ _ => by exact (pg_name (i := 8) sc__law_led_on.nd rfl (.inl rfl))) (fun _ _ _ _ _ => by exact pts_one (pt_cmpR op_notInA (pv 8) (pv 5) (by rfl))) (fun _ _ _ _ _ => by exact (pv 8))))))))
    (pss_one (ps_ret (pv 5)))))), ?_⟩
  try simp only [cxOf_K, cxOf_K', cxOf_mg, cxOf_mg']
  unfold sp__law_led_on at h
  split at h
  case h_2 => exact h.elim
  rename_i wi mo a b
  rw [show L2.start ["_law_wide", "_law_most", "_law_numbers_here", "_law_more", "_law_last_here", "_law_met_names", "_law_k", "_law_number", "_law_name_here"] [V.int wi, V.int mo, V.ref a, V.ref b] = [some (V.int wi), some (V.int mo), some (V.ref a), some (V.ref b), none, none, none, none, none] from rfl]
  obtain ⟨wide, most, ns, ms, rfl, rfl, w1, w2, m1, m2, hN, hM, hl, hl2, hb, hb2, q⟩ := h
  walk_at "sts"
  refine ⟨wide, most, ns, rfl, rfl, w1, w2, m1, m2, hN, by omega, hb, fun L H1 Z1 hL s1 ok1 hZ1 => ?_⟩
  walk_at "sts"
  obtain ⟨dx1, R1, hL1, -⟩ := ok1.ob
  refine L_methv hL1 rfl ?_
  walk_at "sts"
  refine ⟨Z1, wide, most, _, ok1, fun p2 us2 H2 hp2 s2 e2 d2 => ?_⟩
  walk_at "sts"
  have hw := win_le wide ns
  have hs := samp_le most (win wide (mk ns))
  refine L_names e2 d2 (by omega) fun p3 H3 hp3 s3 e3 => ?_
  walk_at "sts"
  have s13 := s1.trans (s2.trans s3)
  refine L_re (s13.seq hM) ?_
  refine f_it walk_enum (fun i σ' H' => ∃ (Z : List (Addr × Rw × Nat)) (pm : Addr) (names : List Str) (v6 v7 v8 : Option V), σ' = [some (.int (wide : Nat)), some (.int (most : Nat)), some (.ref a), some (.ref b), some (.ref L), some (.ref pm), v6, v7, v8] ∧ Same H H' ∧ LastOK K mg H' L Z wide most (mk (ns ++ ms.take i)) ∧ (∀ z ∈ Z, H z.1 = none) ∧ H pm = none ∧ H' pm = some (.lst (names.map V.str)) ∧ (∀ z, z ∈ names ↔ ∃ t, t ≤ i ∧ z ∈ nms (samp most (win wide (mk (ns ++ ms.take t))))) ∧ names.length ≤ 200 * (i + 1)) ⟨Z1, p3, _, _, _, _, rfl, s13, ?_, hZ1, (s1.trans s2).free hp3, e3, fun z => ?_, ?_⟩ (fun i σ' H' _ ⟨_, _, _, _, _, _, _, s, _⟩ => s.seq hM) ?_ ?_
  · rw [List.take_zero, List.append_nil]
    exact ok1.same (s2.trans s3)
  · constructor
    · exact fun h => ⟨0, Nat.le_refl _, by rw [List.take_zero, List.append_nil]; exact h⟩
    · rintro ⟨t, ht, h⟩
      rw [show t = 0 by omega, List.take_zero, List.append_nil] at h
      exact h
  · unfold nms
    rw [List.length_map]
    omega
  · rintro i x σ' Ha Ha' hi ⟨Z, pm, names, v6, v7, v8, rfl, sa, ok, hZ, npm, epm, hch, hnl⟩ ⟨T1, k0, t0, rfl, hT, rfl, hk, hx⟩
    cases hk
    replace hx : (ms.map V.int)[i]? = some t0 := hx
    rw [List.getElem?_map] at hx
    obtain ⟨c, hc, rfl⟩ := Option.map_eq_some_iff.mp hx
    rw [List.length_map] at hi
    have hcb := hb2 c (List.mem_of_getElem? hc)
    refine L_gTup (.of upd_same) rfl ?_
    have sb : Same Ha (upd Ha T1 (HO.tup [V.int (i : Int), V.int c])) := same_new hT
    generalize upd Ha T1 (HO.tup [V.int (i : Int), V.int c]) = Hb at sb
    have okb := ok.same sb
    obtain ⟨dx, R, hLb, -⟩ := okb.ob
    have sab := sa.trans sb
    walk_at "sts"
    refine L_methv hLb rfl ?_
    walk_at "sts"
    refine L_lenL (sab.seq hN) ?_
    walk_at "sts"
    rw [List.length_map]
    refine ⟨ns.length + i, by omega, by omega, ?_⟩
    walk_at "sts"
    have htl : (ns ++ ms.take i).length = ns.length + i := by rw [List.length_append, List.length_take]; omega
    have epb := sb _ _ epm
    refine ⟨Z, wide, most, _, okb, .inr ⟨nm (ns.length + i), c, rfl, rfl, nm_name _, hcb.1, hcb.2, by rw [mk_len]; omega, fun Hk Z' fr hz' ok' _ => ?_⟩⟩
    have epk := fr _ _ epb (okb.non epb (fun _ _ _ z => by cases z)).1 (okb.non epb (fun _ _ _ z => by cases z)).2
    have sk : Same H Hk := fun b o hbo => fr _ _ (sab _ _ hbo) (fun z => by rw [z, hL] at hbo; cases hbo) (fun y hy z => by rw [z, hZ y hy] at hbo; cases hbo)
    have hZ' : ∀ y ∈ Z', H y.1 = none := fun y hy => by
      rcases hz' y hy with h | ⟨y', h1, h2⟩
      · exact sab.free h
      · rw [← h2]; exact hZ y' h1
    have okk : LastOK K mg Hk L Z' wide most (mk (ns ++ ms.take (i + 1))) := by
      rw [mk_len, htl] at ok'
      have e := mk_snoc (ns ++ ms.take i) c
      rw [htl] at e
      rw [List.take_add_one, hc, Option.toList_some, ← List.append_assoc, e]
      exact ok'
    clear ok' fr hz'
    walk_at "sts"
    obtain ⟨dxk, Rk, hLk, -⟩ := okk.ob
    refine L_methv hLk rfl ?_
    walk_at "sts"
    refine ⟨Z', wide, most, _, okk, fun p4 us4 H4 hp4 s4 e4 d4 => ?_⟩
    walk_at "sts"
    have hw4 := win_le wide (ns ++ ms.take (i + 1))
    have hs4 := samp_le most (win wide (mk (ns ++ ms.take (i + 1))))
    have htl4 : (ns ++ ms.take (i + 1)).length ≤ 200 := by rw [List.length_append, List.length_take]; omega
    refine L_names e4 d4 (by omega) fun p5 H5 hp5 s5 e5 => ?_
    have hnm : (nms (samp most (win wide (mk (ns ++ ms.take (i + 1)))))).length ≤ 200 := by unfold nms; rw [List.length_map]; omega
    have hch2 : ∀ z, (∃ t, t ≤ i + 1 ∧ z ∈ nms (samp most (win wide (mk (ns ++ ms.take t))))) ↔ z ∈ names ∨ z ∈ nms (samp most (win wide (mk (ns ++ ms.take (i + 1))))) := fun z => by
      rw [hch]
      constructor
      · rintro ⟨t, ht, h⟩
        by_cases e : t ≤ i
        · exact .inl ⟨t, e, h⟩
        · rw [show t = i + 1 by omega] at h
          exact .inr h
      · rintro (⟨t, ht, h⟩ | h)
        · exact ⟨t, by omega, h⟩
        · exact ⟨i + 1, Nat.le_refl _, h⟩
    generalize nms (samp most (win wide (mk (ns ++ ms.take (i + 1))))) = fresh at e5 hnm hch2
    refine L_rl (.of e5) ?_
    have s45 := s4.trans s5
    refine lc_fm walk_list (fun i => (fresh[i]?).bind fun z => if (!decide (z ∈ names)) = true then some (V.str z) else none) (by rw [List.length_map]; omega) (fun H' e => .of (e _ _ e5)) ?_ ?_
    · rintro j x2 H6 H6' R1 R2 hj s6 ⟨e, hx⟩ r1 r2
      subst e
      rw [List.getElem?_map] at hx
      obtain ⟨z, hz, rfl⟩ := Option.map_eq_some_iff.mp hx
      walk_at "sts"
      refine ⟨rfl, ?_⟩
      walk_at "sts"
      refine L_notInSs (.of ((s45.trans s6) _ _ epk)) ?_
      walk_at "sts"
      refine L_nd (fun cz => ?_) (fun cz => ?_)
      · walk_at "sts"
        exact r1 _ _ (by rw [hz, Option.bind_some, decide_eq_false cz]; rfl) (Same.refl _)
      · exact r2 _ (by rw [hz, Option.bind_some, decide_eq_true cz]; rfl) (Same.refl _)
    intro p6 H6 hp6 s6 e6
    rw [List.length_map, fm_flt] at e6
    have hfl := List.length_filter_le (fun z => !decide (z ∈ names)) fresh
    have epm6 := (s45.trans s6) _ _ epk
    refine L_addL epm6 e6 (by rw [List.length_map, List.length_map]; exact sz_dec (by omega)) ?_
    walk_at "nwp"
    rename_i p7 hp7 H7 s7 e7
    rw [← List.map_append] at e7
    have sk7 := s45.trans (s6.trans s7)
    walk_at "sts"
    refine ⟨Z', p7, _, _, _, _, rfl, sk.trans sk7, okk.same sk7, hZ', (sk.trans (s45.trans s6)).free hp7, e7, fun z => ?_, by rw [List.length_append]; omega⟩
    rw [List.mem_append, List.mem_filter, hch2]
    constructor
    · rintro (h | ⟨h, _⟩)
      · exact .inl h
      · exact .inr h
    · rintro (h | h)
      · exact .inl h
      · by_cases e : z ∈ names
        · exact .inl e
        · exact .inr ⟨h, by simpa using e⟩
  · rintro σ' Ha ⟨Z, pm, names, v6, v7, v8, rfl, sa, ok, hZ, npm, epm, hch, hnl⟩
    rw [List.length_map] at hch
    walk_at "sts"
    exact q pm names Ha npm sa epm hch
def sp__law_at (K : PySem.W.Frag) (mg : Str → Option Value) : Sp := fun vs H Q _ => match vs with | [.int wi, .int mo, .ref a, .ref b] => ∃ (wide most : Nat) (ns ds : List Int), wi = (wide : Int) ∧ mo = (most : Int) ∧ 1 ≤ wide ∧ wide ≤ 100 ∧ 1 ≤ most ∧ most ≤ 24 ∧ SqL K H a (ns.map V.int) ∧ SqL K H b (ds.map V.int) ∧ ns.length ≤ 100 ∧ ds.length ≤ 100 ∧ (∀ n ∈ ns, 0 ≤ n ∧ n ≤ 1000000000) ∧ (∀ n ∈ ds, 0 ≤ n ∧ n ≤ 1000000000) ∧ ∀ H', Same H H' → Q (.bl true) H' | _ => False
theorem q__law_at {H : Hp} {Q : VK} {E : XK} {wi : Int} {mo : Int} {a : Addr} {b : Addr} (q : ∃ (wide most : Nat) (ns ds : List Int), wi = (wide : Int) ∧ mo = (most : Int) ∧ 1 ≤ wide ∧ wide ≤ 100 ∧ 1 ≤ most ∧ most ≤ 24 ∧ SqL K H a (ns.map V.int) ∧ SqL K H b (ds.map V.int) ∧ ns.length ≤ 100 ∧ ds.length ≤ 100 ∧ (∀ n ∈ ns, 0 ≤ n ∧ n ≤ 1000000000) ∧ (∀ n ∈ ds, 0 ≤ n ∧ n ≤ 1000000000) ∧ ∀ H', Same H H' → Q (.bl true) H') : sp__law_at K mg [.int wi, .int mo, .ref a, .ref b] H Q E := q
local macro_rules | `(tactic| walk_at "op") => `(tactic| with_reducible refine q__law_at ?_)
theorem c__law_at (T : Txt K mg) : Cal P w K mg base 6 "_law_at" (sp__law_at K mg) := by
  refine T.d__law_at.cal (k := 5) sc__law_at (by intro vs H Q E h; unfold sp__law_at at h; split at h <;> first | rfl | exact h.elim) fun f cdv A outer s H vs Q E hr h => ?_
  refine ⟨_, (pss_cons (ps_set (i := 4) sc__law_at.nd rfl (.inl rfl) (pe_c (c__law_last T) hr (by decide) (by rfl) (pa_cons (pv 0) (pa_cons (pv 1) (pa_cons (pv 2) pa_nil)))))
    (pss_cons (ps_set (i := 5) sc__law_at.nd rfl (.inr rfl) (pe_c (c__law_names T) hr (by decide) (by rfl) (pa_cons (pe_mt0 (c_Last_candidates T) hr (by decide) (pv 4)) pa_nil)))
    (pss_cons (ps_if (pt_cmpR (op_neA hr) (pe_callB call_lenA (by rfl) T.n_len (by decide +kernel) (pa_cons (pe_mt0 (c_Last_sample T) hr (by decide) (pv 4)) pa_nil)) (pe_callB (call_min3Nu rfl) (by rfl) T.n_min (by decide +kernel) (pa_cons (pv 1) (pa_cons (pv 0) (pa_cons (pe_callB call_lenA (by rfl) T.n_len (by decide +kernel) (pa_cons (pv 2) pa_nil)) pa_nil)))) (nomark _))
    (pss_one (ps_ret pe_bl))
    pss_nil)
    (pss_cons (ps_if (pt_cmpR (op_neA hr) (pe_lc (own := [("_law_name_here", 9)]) (g := (gName 9)) (tt := (tTest (tOp (aNotIn K) (tVar 9) (tVar 5)))) (te := (tVar 9)) rfl sc__law_at.nd (pi_list (pe_c (c__law_names T) hr (by decide) (by rfl) (pa_cons (pe_mt0 (c_Last_sample T) hr (by decide) (pv 4)) pa_nil))) (blkOk_by (N := ["_law_wide", "_law_most", "_law_numbers_here", "_law_drawn_ones", "_law_last_here", "_law_some", "_law_first", "_law_gone", "_law_met_names", "_law_name_here", "_law_place"]) (sc := defScope s__law_at) (by decide +kernel)) (fun _ _ _ _ _ => by exact (pg_name (i := 9) sc__law_at.nd rfl (.inl rfl))) (fun _ _ _ _ _ => by exact pts_one (pt_cmpR op_notInA (pv 9) (pv 5) (by rfl))) (fun _ _ _ _ _ => by exact (pv 9))) (pe_lst pa_nil) (nomark _))
    (pss_one (ps_ret pe_bl))
    pss_nil)
    (pss_cons (ps_set (i := 6) sc__law_at.nd rfl (.inl rfl) (pe_callB (call_max2A rfl) (by rfl) T.n_max (by decide +kernel) (pa_cons pe_int (pa_cons (pe_op op_sub (pe_callB call_lenA (by rfl) T.n_len (by decide +kernel) (pa_cons (pv 2) pa_nil)) (pv 0)) pa_nil))))
    (pss_cons (ps_setLc (i := 7) (own := [("_law_place", 10)]) (g := (gName 10)) (tt := (tTest (tOp (aNotIn K) (tCall (sp__law_name K mg) [] E0 (tCons (tVar 10) tNil)) (tVar 5)))) (te := (tCall (sp__law_name K mg) [] E0 (tCons (tVar 10) tNil))) rfl sc__law_at.nd rfl rfl (sw_true rfl rfl rfl (by decide +kernel)) (pi_range2 (by rfl) T.n_range (pa_cons (pv 6) (pa_cons (pe_callB call_lenA (by rfl) T.n_len (by decide +kernel) (pa_cons (pv 2) pa_nil)) pa_nil))) (blkOk_by (N := ["_law_wide", "_law_most", "_law_numbers_here", "_law_drawn_ones", "_law_last_here", "_law_some", "_law_first", "_law_gone", "_law_met_names", "_law_name_here", "_law_place"]) (sc := defScope s__law_at) (by decide +kernel)) (fun _ _ _ _ _ => by exact (pg_name (i := 10) sc__law_at.nd rfl (.inl rfl))) (fun _ _ _ _ _ => by exact pts_one (pt_cmpR op_notInA (pe_c (c__law_name T) hr (by decide) (by rfl) (pa_cons (pv 10) pa_nil)) (pv 5) (by rfl))) (fun _ _ _ _ _ => by exact (pe_c (c__law_name T) hr (by decide) (by rfl) (pa_cons (pv 10) pa_nil))))
    (pss_cons (ps_set (i := 8) sc__law_at.nd rfl (.inr rfl) (pe_c (c__law_led_on T) hr (by decide) (by rfl) (pa_cons (pv 0) (pa_cons (pv 1) (pa_cons (pv 2) (pa_cons (pe_op op_mulA (pe_lst (pa_cons pe_int pa_nil)) (pv 0)) pa_nil))))))
    (pss_cons (ps_if (PW.pt (pw_or (pt_cmpR (op_neA hr) (pe_lc (own := [("_law_name_here", 9)]) (g := (gName 9)) (tt := (tTest (tOp (aNotIn K) (tVar 9) (tVar 8)))) (te := (tVar 9)) rfl sc__law_at.nd (pi_list (pv 5)) (blkOk_by (N := ["_law_wide", "_law_most", "_law_numbers_here", "_law_drawn_ones", "_law_last_here", "_law_some", "_law_first", "_law_gone", "_law_met_names", "_law_name_here", "_law_place"]) (sc := defScope s__law_at) (by decide +kernel)) (fun _ _ _ _ _ => by exact (pg_name (i := 9) sc__law_at.nd rfl (.inl rfl))) (fun _ _ _ _ _ => by exact pts_one (pt_cmpR op_notInA (pv 9) (pv 8) (by rfl))) (fun _ _ _ _ _ => by exact (pv 9))) (pe_lst pa_nil) (nomark _)) (pw_or1 (pt_cmpR (op_neA hr) (pe_lc (own := [("_law_name_here", 9)]) (g := (gName 9)) (tt := (tTest (tOp (aIn K) (tVar 9) (tVar 8)))) (te := (tVar 9)) rfl sc__law_at.nd (pi_list (pv 7)) (blkOk_by (N := ["_law_wide", "_law_most", "_law_numbers_here", "_law_drawn_ones", "_law_last_here", "_law_some", "_law_first", "_law_gone", "_law_met_names", "_law_name_here", "_law_place"]) (sc := defScope s__law_at) (by decide +kernel)) (fun _ _ _ _ _ => by exact (pg_name (i := 9) sc__law_at.nd rfl (.inl rfl))) (fun _ _ _ _ _ => by exact pts_one (pt_cmpR op_inA (pv 9) (pv 8) (by rfl))) (fun _ _ _ _ _ => by exact (pv 9))) (pe_lst pa_nil) (nomark _)))))
    (pss_one (ps_ret pe_bl))
    pss_nil)
    (pss_cons (ps_set (i := 8) sc__law_at.nd rfl (.inr rfl) (pe_c (c__law_led_on T) hr (by decide) (by rfl) (pa_cons (pv 0) (pa_cons (pv 1) (pa_cons (pv 2) (pa_cons (pv 3) pa_nil))))))
    (pss_one (ps_ret (pe_cmpR (op_eqA hr) (pe_lc (own := [("_law_name_here", 9)]) (g := (gName 9)) (tt := (tTest (tOp (aIn K) (tVar 9) (tVar 8)))) (te := (tVar 9)) rfl sc__law_at.nd (pi_list (pv 7)) (blkOk_by (N := ["_law_wide", "_law_most", "_law_numbers_here", "_law_drawn_ones", "_law_last_here", "_law_some", "_law_first", "_law_gone", "_law_met_names", "_law_name_here", "_law_place"]) (sc := defScope s__law_at) (by decide +kernel)) (fun _ _ _ _ _ => by exact (pg_name (i := 9) sc__law_at.nd rfl (.inl rfl))) (fun _ _ _ _ _ => by exact pts_one (pt_cmpR op_inA (pv 9) (pv 8) (by rfl))) (fun _ _ _ _ _ => by exact (pv 9))) (pe_lst pa_nil) (nomark _))))))))))))), ?_⟩
  try simp only [cxOf_K, cxOf_K', cxOf_mg, cxOf_mg']
  unfold sp__law_at at h
  split at h
  case h_2 => exact h.elim
  rename_i wi mo a b
  rw [show L2.start ["_law_wide", "_law_most", "_law_numbers_here", "_law_drawn_ones", "_law_last_here", "_law_some", "_law_first", "_law_gone", "_law_met_names", "_law_name_here", "_law_place"] [V.int wi, V.int mo, V.ref a, V.ref b] = [some (V.int wi), some (V.int mo), some (V.ref a), some (V.ref b), none, none, none, none, none, none, none] from rfl]
  obtain ⟨wide, most, ns, ds, rfl, rfl, w1, w2, m1, m2, hN, hD, hl, hl2, hb, hb2, q⟩ := h
  have hsomeL := @law_some wide most ns fun n hn => (hb n hn).1
  have hgoneL := fun p (h0 : ns.length - wide ≤ p) (h1 : p < ns.length) => @law_gone wide most ns p h0 h1
  have hlenL := law_len wide most ns
  have hsub : ∀ z, z ∈ nms (samp most (win wide (mk ns))) → z ∈ nms (can most (win wide (mk ns))) := fun z hz => by
    obtain ⟨x, h1, h2⟩ := List.mem_map.mp hz
    exact List.mem_map.mpr ⟨x, samp_in h1, h2⟩
  walk_at "sts"
  refine ⟨wide, most, ns, rfl, rfl, w1, w2, m1, m2, hN, by omega, hb, fun L H1 Z hL s1 ok1 hZ => ?_⟩
  have hw := win_le wide ns
  have hs := samp_le most (win wide (mk ns))
  have hc := can_le most (win wide (mk ns))
  obtain ⟨dx1, R1, hL1, -⟩ := ok1.ob
  walk_at "sts"
  refine L_methv hL1 rfl ?_
  walk_at "sts"
  refine ⟨Z, wide, most, _, ok1, fun p2 us2 H2 hp2 s2 e2 d2 => ?_⟩
  walk_at "sts"
  refine L_names e2 d2 (by omega) fun p3 H3 hp3 s3 e3 => ?_
  have s23 := s2.trans s3
  have s13 := s1.trans s23
  walk_at "sts"
  refine L_methv (s23 _ _ hL1) rfl ?_
  walk_at "sts"
  refine ⟨Z, wide, most, _, ok1.same s23, fun p4 us4 H4 hp4 s4 e4 d4 => ?_⟩
  walk_at "sts"
  have hul := d4.len
  rw [List.length_map] at hul
  refine L_lenL (.of e4) ?_
  walk_at "sts"
  refine L_lenL ((s13.trans s4).seq hN) ?_
  walk_at "sts"
  refine ⟨_, _, _, _, rfl, nuMin3_int _ _ _, ?_⟩
  rw [List.length_map]
  walk_at "sts"
  refine L_ndF (by rw [hul, hlenL]; omega) ?_
  walk_at "sts"
  have s24 := s23.trans s4
  refine L_methv (s24 _ _ hL1) rfl ?_
  walk_at "sts"
  refine ⟨Z, wide, most, _, ok1.same s24, fun p5 us5 H5 hp5 s5 e5 d5 => ?_⟩
  walk_at "sts"
  refine L_names e5 d5 (by omega) fun p6 H6 hp6 s6 e6 => ?_
  have e36 := (s4.trans (s5.trans s6)) _ _ e3
  have s16 := s13.trans (s4.trans (s5.trans s6))
  obtain ⟨sa, hsa⟩ : ∃ l, l = nms (samp most (win wide (mk ns))) := ⟨_, rfl⟩
  obtain ⟨ca, hca⟩ : ∃ l, l = nms (can most (win wide (mk ns))) := ⟨_, rfl⟩
  rw [← hsa] at e6 hsub
  rw [← hca] at e36 hsub
  have hsl : sa.length ≤ 100 := by rw [hsa]; unfold nms; rw [List.length_map]; omega
  have hcl : ca.length ≤ 100 := by rw [hca]; unfold nms; rw [List.length_map]; omega
  clear ok1 d2 d4 d5 e2 e4 e5 hL1
  refine L_rl (.of e6) ?_
  refine lc_fm walk_list (fun i => (sa[i]?).bind fun z => if (!decide (z ∈ ca)) = true then some (V.str z) else none) (by rw [List.length_map]; omega) (fun H' e => .of (e _ _ e6)) ?_ ?_
  · rintro j x2 H7 H7' R1 R2 hj s7 ⟨e, hx⟩ r1 r2
    subst e
    rw [List.getElem?_map] at hx
    obtain ⟨z, hz, rfl⟩ := Option.map_eq_some_iff.mp hx
    walk_at "sts"
    refine ⟨rfl, ?_⟩
    walk_at "sts"
    refine L_notInSs (.of (s7 _ _ e36)) ?_
    walk_at "sts"
    refine L_nd (fun cz => ?_) (fun cz => ?_)
    · walk_at "sts"
      exact r1 _ _ (by rw [hz, Option.bind_some, decide_eq_false cz]; rfl) (Same.refl _)
    · exact r2 _ (by rw [hz, Option.bind_some, decide_eq_true cz]; rfl) (Same.refl _)
  intro p7 H7 hp7 s7 e7
  rw [List.length_map, fm_flt, List.filter_eq_nil_iff.mpr (fun z hz => by rw [decide_eq_true (hsub z hz)]; exact Bool.false_ne_true)] at e7
  walk_at "sts"
  walk_at "nw"
  rename_i p8 hp8 H8 s8 e8
  refine L_neR (d := .list []) (.lst (.of (s8 _ _ e7)) .nil) (.lst (.of e8) .nil) (shp_lst (n := 0) shp_nil).ok ?_
  walk_at "sts"
  have s18 := s16.trans (s7.trans s8)
  have e38 := (s7.trans s8) _ _ e36
  refine L_lenL (s18.seq hN) ?_
  walk_at "sts"
  rw [List.length_map, show max 0 ((ns.length : Int) - (wide : Int)) = ((ns.length - wide : Nat) : Int) by omega]
  refine L_lenL (s18.seq hN) ?_
  walk_at "sts"
  rw [List.length_map]
  refine L_r2 (by omega) ?_
  obtain ⟨cnt, hcnt⟩ : ∃ k : Nat, k = ((ns.length : Int) - ((ns.length - wide : Nat) : Int)).toNat := ⟨_, rfl⟩
  rw [← hcnt]
  refine lc_fm walk_range (fun i => (if nm (ns.length - wide + i) ∈ ca then none else some (nm (ns.length - wide + i))).map V.str) (by omega) (fun _ _ => True.intro) ?_ ?_
  · rintro j x2 H9 H9' R1 R2 hj s9 ⟨e, hx⟩ r1 r2
    subst e
    subst hx
    walk_at "sts"
    refine ⟨rfl, ?_⟩
    walk_at "sts"
    refine ⟨ns.length - wide + j, by omega, by omega, ?_⟩
    walk_at "sts"
    refine L_notInSs (.of (s9 _ _ e38)) ?_
    walk_at "sts"
    refine L_nd (fun cz => ?_) (fun cz => ?_)
    · walk_at "sts"
      refine ⟨ns.length - wide + j, by omega, by omega, ?_⟩
      exact r1 _ _ (by rw [if_neg cz]; rfl) (Same.refl _)
    · exact r2 _ (by rw [if_pos cz]; rfl) (Same.refl _)
  intro p9 H9 hp9 s9 e9
  rw [← List.map_filterMap] at e9
  obtain ⟨go, hgo⟩ : ∃ l, l = (List.range cnt).filterMap fun i => if nm (ns.length - wide + i) ∈ ca then none else some (nm (ns.length - wide + i)) := ⟨_, rfl⟩
  rw [← hgo] at e9
  have hgl : go.length ≤ 100 := by rw [hgo]; have := fm_len' (fun i => if nm (ns.length - wide + i) ∈ ca then none else some (nm (ns.length - wide + i))) cnt; omega
  have hgm : ∀ z ∈ go, ∀ ms : List Int, ms.length ≤ 100 → ∀ t, z ∉ nms (samp most (win wide (mk (ns ++ ms.take t)))) := fun z hz ms hms t => by
    rw [hgo] at hz
    obtain ⟨i, h1, h2⟩ := List.mem_filterMap.mp hz
    have h1 := List.mem_range.mp h1
    split at h2
    · cases h2
    · rename_i h3
      cases h2
      exact hgoneL _ (by omega) (by omega) (by rw [hca] at h3; exact h3) _ (by rw [List.length_append, List.length_take]; omega)
  clear hgo
  walk_at "sts"
  walk_at "nw"
  rename_i p10 hp10 H10 s10 e10
  walk_at "sts"
  refine L_repL (k := (wide : Int)) e10 (by omega) (by omega) (sz_dec (by simp; omega)) ?_
  walk_at "nwp"
  rename_i p11 hp11 H11 s11 e11
  rw [rep1 0, Int.toNat_natCast] at e11
  have s911 := s9.trans (s10.trans s11)
  have s1b := s18.trans s911
  have e3b := s911 _ _ e38
  have e9b := (s10.trans s11) _ _ e9
  walk_at "sts"
  refine ⟨wide, most, ns, List.replicate wide 0, rfl, rfl, w1, w2, m1, m2, s1b.seq hN, .of e11, hl, by rw [List.length_replicate]; omega, hb, fun n hn => by rw [List.eq_of_mem_replicate hn]; decide, fun p12 names H12 hp12 s12 e12 hch => ?_⟩
  rw [List.length_replicate] at hch
  have s1c := s1b.trans s12
  have e3c := s12 _ _ e3b
  have e9c := s12 _ _ e9b
  walk_at "sts"
  refine L_rl (.of e3c) ?_
  refine lc_fm walk_list (fun i => (ca[i]?).bind fun z => if (!decide (z ∈ names)) = true then some (V.str z) else none) (by rw [List.length_map]; omega) (fun H' e => .of (e _ _ e3c)) ?_ ?_
  · rintro j x2 H7 H7' R1 R2 hj s7 ⟨e, hx⟩ r1 r2
    subst e
    rw [List.getElem?_map] at hx
    obtain ⟨z, hz, rfl⟩ := Option.map_eq_some_iff.mp hx
    walk_at "sts"
    refine ⟨rfl, ?_⟩
    walk_at "sts"
    refine L_notInSs (.of (s7 _ _ e12)) ?_
    walk_at "sts"
    refine L_nd (fun cz => ?_) (fun cz => ?_)
    · walk_at "sts"
      exact r1 _ _ (by rw [hz, Option.bind_some, decide_eq_false cz]; rfl) (Same.refl _)
    · exact r2 _ (by rw [hz, Option.bind_some, decide_eq_true cz]; rfl) (Same.refl _)
  intro p13 H13 hp13 s13' e13
  rw [List.length_map, fm_flt, List.filter_eq_nil_iff.mpr (fun z hz => by
    rw [decide_eq_true ((hch z).mpr _)]
    · exact Bool.false_ne_true
    · rw [hca] at hz
      obtain ⟨x, h1, h2⟩ := List.mem_map.mp hz
      obtain ⟨t, h3, h4⟩ := hsomeL h1
      exact ⟨t, h3, List.mem_map.mpr ⟨x, h4, h2⟩⟩)] at e13
  walk_at "sts"
  walk_at "nw"
  rename_i p14 hp14 H14 s14 e14
  refine L_neR (d := .list []) (.lst (.of (s14 _ _ e13)) .nil) (.lst (.of e14) .nil) (shp_lst (n := 0) shp_nil).ok ?_
  walk_at "sts"
  have s1314 := s13'.trans s14
  have e9d := s1314 _ _ e9c
  have e12d := s1314 _ _ e12
  refine L_rl (.of e9d) ?_
  refine lc_fm walk_list (fun i => (go[i]?).bind fun z => if decide (z ∈ names) = true then some (V.str z) else none) (by rw [List.length_map]; omega) (fun H' e => .of (e _ _ e9d)) ?_ ?_
  · rintro j x2 H7 H7' R1 R2 hj s7 ⟨e, hx⟩ r1 r2
    subst e
    rw [List.getElem?_map] at hx
    obtain ⟨z, hz, rfl⟩ := Option.map_eq_some_iff.mp hx
    walk_at "sts"
    refine ⟨rfl, ?_⟩
    walk_at "sts"
    refine L_inSs (.of (s7 _ _ e12d)) ?_
    walk_at "sts"
    refine L_d (fun cz => ?_) (fun cz => ?_)
    · walk_at "sts"
      exact r1 _ _ (by rw [hz, Option.bind_some, decide_eq_true cz]; rfl) (Same.refl _)
    · exact r2 _ (by rw [hz, Option.bind_some, decide_eq_false cz]; rfl) (Same.refl _)
  intro p15 H15 hp15 s15 e15
  rw [List.length_map, fm_flt, List.filter_eq_nil_iff.mpr (fun z hz => by
    rw [decide_eq_false fun h => ?_]
    · exact Bool.false_ne_true
    · obtain ⟨t, h1, h2⟩ := (hch z).mp h
      exact hgm z hz _ (by rw [List.length_replicate]; omega) t h2)] at e15
  walk_at "sts"
  walk_at "nw"
  rename_i p16 hp16 H16 s16' e16
  refine L_neR (d := .list []) (.lst (.of (s16' _ _ e15)) .nil) (.lst (.of e16) .nil) (shp_lst (n := 0) shp_nil).ok ?_
  walk_at "sts"
  have s1516 := s15.trans s16'
  have s1e := s1c.trans (s1314.trans s1516)
  refine ⟨wide, most, ns, ds, rfl, rfl, w1, w2, m1, m2, s1e.seq hN, s1e.seq hD, hl, hl2, hb, hb2, fun p17 names2 H17 hp17 s17 e17 hch2 => ?_⟩
  have e9f := (s1516.trans s17) _ _ e9d
  walk_at "sts"
  refine L_rl (.of e9f) ?_
  refine lc_fm walk_list (fun i => (go[i]?).bind fun z => if decide (z ∈ names2) = true then some (V.str z) else none) (by rw [List.length_map]; omega) (fun H' e => .of (e _ _ e9f)) ?_ ?_
  · rintro j x2 H7 H7' R1 R2 hj s7 ⟨e, hx⟩ r1 r2
    subst e
    rw [List.getElem?_map] at hx
    obtain ⟨z, hz, rfl⟩ := Option.map_eq_some_iff.mp hx
    walk_at "sts"
    refine ⟨rfl, ?_⟩
    walk_at "sts"
    refine L_inSs (.of (s7 _ _ e17)) ?_
    walk_at "sts"
    refine L_d (fun cz => ?_) (fun cz => ?_)
    · walk_at "sts"
      exact r1 _ _ (by rw [hz, Option.bind_some, decide_eq_true cz]; rfl) (Same.refl _)
    · exact r2 _ (by rw [hz, Option.bind_some, decide_eq_false cz]; rfl) (Same.refl _)
  intro p18 H18 hp18 s18' e18
  rw [List.length_map, fm_flt, List.filter_eq_nil_iff.mpr (fun z hz => by
    rw [decide_eq_false fun h => ?_]
    · exact Bool.false_ne_true
    · obtain ⟨t, h1, h2⟩ := (hch2 z).mp h
      exact hgm z hz _ hl2 t h2)] at e18
  walk_at "sts"
  walk_at "nw"
  rename_i p19 hp19 H19 s19 e19
  refine L_eqR (d := .list []) (.lst (.of (s19 _ _ e18)) .nil) (.lst (.of e19) .nil) (shp_lst (n := 0) shp_nil).ok ?_
  exact q _ (s1e.trans (s17.trans (s18'.trans s19)))
theorem len3 {l : List Int} (h : l.length = 3) : ∃ a b c, l = [a, b, c] := by
  match l, h with
  | [a, b, c], _ => exact ⟨a, b, c, rfl⟩
theorem len1' {l : List Int} (h : l.length = 1) : ∃ a, l = [a] := by
  match l, h with
  | [a], _ => exact ⟨a, rfl⟩
def sp_law (K : PySem.W.Frag) (mg : Str → Option Value) : Sp := fun vs H Q _ => match vs with | [.ref a] => ∃ ns : List Int, SqL K H a (ns.map V.int) ∧ ns.length ≤ 63 ∧ (∀ z ∈ ns, Builtin.Int.intBits z ≤ 1048576) ∧ ∀ H', Q (.bl true) H' | _ => False
theorem q_law {H : Hp} {Q : VK} {E : XK} {a : Addr} (q : ∃ ns : List Int, SqL K H a (ns.map V.int) ∧ ns.length ≤ 63 ∧ (∀ z ∈ ns, Builtin.Int.intBits z ≤ 1048576) ∧ ∀ H', Q (.bl true) H') : sp_law K mg [.ref a] H Q E := q
local macro_rules | `(tactic| walk_at "op") => `(tactic| with_reducible refine q_law ?_)
theorem c_law (T : Txt K mg) {f : Addr} {fd : FuncData} (F : Fun K "law" "law" s_law f fd) : FnOk P w K mg base CX0 7 f fd ["_law_script"] (sp_law K mg) := by
  refine F.ok (k := 6) sc_law (by intro vs H Q E h; unfold sp_law at h; split at h <;> first | rfl | exact h.elim) fun cdv A outer s H vs Q E hr h => ?_
  refine ⟨_, (pss_cons (ps_set (i := 1) sc_law.nd rfl (.inr rfl) (pe_cmpR (op_eqA hr) (pe_op op_mod (pe_c (c__law_cell_at T) hr (by decide) (by rfl) (pa_cons (pv 0) (pa_cons pe_int pa_nil))) pe_int) pe_int (nomark _)))
    (pss_cons (ps_asg (pe_c (c__law_numbers T) hr (by decide) (by rfl) (pa_cons (pe_c (c__law_cell_at T) hr (by decide) (by rfl) (pa_cons (pv 0) (pa_cons pe_int pa_nil))) (pa_cons (pv 1) (pa_cons (pe_lst (pa_cons pe_int (pa_cons pe_int (pa_cons pe_int pa_nil)))) pa_nil)))) (pg_lst rfl (pgs_cons (pg_name (i := 2) sc_law.nd rfl (.inl rfl)) (pgs_cons (pg_name (i := 3) sc_law.nd rfl (.inl rfl)) (pgs_cons (pg_name (i := 4) sc_law.nd rfl (.inl rfl)) pgs_nil)))))
    (pss_cons (ps_set (i := 5) sc_law.nd rfl (.inr rfl) (pe_ix ix_seq (pe_lst (pa_cons pe_int (pa_cons pe_int (pa_cons pe_int (pa_cons pe_int (pa_cons (pe_op op_pow pe_int pe_int) pa_nil)))))) (pv 4) (fun _ _ => rfl)))
    (pss_cons (ps_setLc (i := 6) (own := [("_law_cell", 9)]) (g := (gName 9)) (tt := tYes) (te := (tOp (rI (fun _ j => 0 < j) fun i j => .int (i % j)) (tOp (rIx K) (tCall (sp__law_numbers K mg) [] E0 (tCons (tVar 9) (tCons (tVar 1) (tCons (tLst (tCons (tOp (aAdd K) (tOp (rI CPow fun i j => .int (i ^ j.toNat)) (tC (.int 10)) (tC (.int 9))) (tC (.int 1))) tNil)) tNil)))) (tC (.int 0))) (tOp (aAdd K) (tVar 5) (tC (.int 1))))) rfl sc_law.nd rfl rfl (sw_true rfl rfl rfl (by decide +kernel)) (pi_list (pe_slice sl_list (pv 0) (po_some pe_int) (po_some pe_int))) (blkOk_by (N := ["_law_script", "_law_digits", "_law_wide", "_law_most", "_law_level", "_law_top", "_law_numbers_here", "_law_drawn_ones", "_law_many", "_law_cell", "_law_k"]) (sc := defScope s_law) (by decide +kernel)) (fun _ _ _ _ _ => by exact (pg_name (i := 9) sc_law.nd rfl (.inl rfl))) (fun _ _ _ _ _ => pts_nil) (fun _ _ _ _ _ => by exact (pe_op op_mod (pe_ix ix_seq (pe_c (c__law_numbers T) hr (by decide) (by rfl) (pa_cons (pv 9) (pa_cons (pv 1) (pa_cons (pe_lst (pa_cons (pe_op op_addA (pe_op op_pow pe_int pe_int) pe_int) pa_nil)) pa_nil)))) pe_int (fun _ _ => rfl)) (pe_op op_addA (pv 5) pe_int))))
    (pss_cons (ps_setLc (i := 7) (own := [("_law_k", 10)]) (g := (gName 10)) (tt := tYes) (te := (tOp (rI (fun _ j => 0 < j) fun i j => .int (i % j)) (tCall (sp__law_mix K mg) [] E0 (tCons (tCall (sp__law_cell_at K mg) [] E0 (tCons (tVar 0) (tCons (tC (.int 1)) tNil))) (tCons (tOp (aAdd K) (tC (.int 90)) (tVar 10)) tNil))) (tOp (aAdd K) (tVar 5) (tC (.int 1))))) rfl sc_law.nd rfl rfl (sw_true rfl rfl rfl (by decide +kernel)) (pi_range1 (by rfl) T.n_range (pa_cons pe_int pa_nil)) (blkOk_by (N := ["_law_script", "_law_digits", "_law_wide", "_law_most", "_law_level", "_law_top", "_law_numbers_here", "_law_drawn_ones", "_law_many", "_law_cell", "_law_k"]) (sc := defScope s_law) (by decide +kernel)) (fun _ _ _ _ _ => by exact (pg_name (i := 10) sc_law.nd rfl (.inl rfl))) (fun _ _ _ _ _ => pts_nil) (fun _ _ _ _ _ => by exact (pe_op op_mod (pe_c (c__law_mix T) hr (by decide) (by rfl) (pa_cons (pe_c (c__law_cell_at T) hr (by decide) (by rfl) (pa_cons (pv 0) (pa_cons pe_int pa_nil))) (pa_cons (pe_op op_addA pe_int (pv 10)) pa_nil))) (pe_op op_addA (pv 5) pe_int))))
    (pss_cons (ps_for PassesOwn.never rfl (pi_list (pe_lst (pa_cons (pe_callB call_lenA (by rfl) T.n_len (by decide +kernel) (pa_cons (pv 6) pa_nil)) (pa_cons (pe_op op_fdivW (pe_callB call_lenA (by rfl) T.n_len (by decide +kernel) (pa_cons (pv 6) pa_nil)) pe_int) (pa_cons (pe_callB (call_min2A rfl) (by rfl) T.n_min (by decide +kernel) (pa_cons (pe_callB call_lenA (by rfl) T.n_len (by decide +kernel) (pa_cons (pv 6) pa_nil)) (pa_cons (pe_op op_addA (pv 2) pe_int) pa_nil))) pa_nil))))) (pg_name (i := 8) sc_law.nd rfl (.inl rfl))
    (pss_one (ps_if (pt_not (pt_val (pe_c (c__law_at T) hr (by decide) (by rfl) (pa_cons (pe_op op_addA pe_int (pv 2)) (pa_cons (pe_op op_addA pe_int (pv 3)) (pa_cons (pe_slice sl_list (pv 6) po_none (po_some (pv 8))) (pa_cons (pv 7) pa_nil)))))))
    (pss_one (ps_ret pe_bl))
    pss_nil)))
    (pss_one (ps_ret pe_bl)))))))), ?_⟩
  try simp only [cxOf_K, cxOf_K', cxOf_mg, cxOf_mg']
  unfold sp_law at h
  split at h
  case h_2 => exact h.elim
  rename_i a
  rw [show L2.start ["_law_script", "_law_digits", "_law_wide", "_law_most", "_law_level", "_law_top", "_law_numbers_here", "_law_drawn_ones", "_law_many", "_law_cell", "_law_k"] [V.ref a] = [some (V.ref a), none, none, none, none, none, none, none, none, none, none] from rfl]
  obtain ⟨ns, hS, hl, hbits, q⟩ := h
  walk_at "sts"
  refine ⟨ns, hS, by decide, ?_⟩
  walk_at "sa"
  generalize decide (cellAt ns 0 0 % 2 = 1) = d
  refine ⟨ns, hS, by decide, ?_⟩
  walk_at "sts"
  walk_at "nw"
  rename_i p1 hp1 H1 s1 e1
  walk_at "sts"
  refine ⟨[12, 5, 5], e1, by decide, by decide, fun p2 H2 hp2 s2 e2 => ?_⟩
  have hn := nums_len d [12, 5, 5] (cellAt ns 1 0) 0
  have hnb := nums_b d [12, 5, 5] (cellAt ns 1 0) 0 (by decide)
  generalize nums d (cellAt ns 1 0) 0 [12, 5, 5] = l at e2 hn hnb
  obtain ⟨x0, x1, x2, rfl⟩ := len3 hn
  have b0 := hnb 0 x0 12 rfl rfl
  have b1 := hnb 1 x1 5 rfl rfl
  have b2 := hnb 2 x2 5 rfl rfl
  have e2 : H2 p2 = some (.lst [V.int x0, V.int x1, V.int x2]) := e2
  refine L_gLst (.of e2) rfl ?_
  walk_at "sa"
  walk_at "nw"
  rename_i p5 hp5 H5 s5 e5
  walk_at "sts"
  refine L_ixP (ns := [0, 1, 3, 20, 1000000000]) (P := fun v => 0 ≤ v ∧ v ≤ 1000000000) (.of e5) (by decide) b2.1 (by show x2 < 5; omega) fun top htop => ?_
  walk_at "sts"
  have s15 := s1.trans (s2.trans s5)
  refine L_slL (s15.seq hS) ?_
  walk_at "nwp"
  rename_i p6 hp6 H6 s6 e6
  rw [cutV_map] at e6
  have hcl := cutG_len ns (some 2) (some 42)
  have hcl2 : (cutG ns (some 2) (some 42)).length ≤ 63 := by omega
  generalize cutG ns (some 2) (some 42) = cells at e6 hcl2
  refine L_rl (.of e6) ?_
  refine lc_fm walk_list (fun i => (cells[i]?).map fun c => V.int ((nums d c 0 [1000000001]).getD 0 0 % (top + 1))) (by rw [List.length_map]; omega) (fun H' e => .of (e _ _ e6)) ?_ ?_
  · rintro j x Ha Ha' R1 R2 hj sa ⟨e, hx⟩ r1 r2
    subst e
    rw [List.getElem?_map] at hx
    obtain ⟨c, hc, rfl⟩ := Option.map_eq_some_iff.mp hx
    walk_at "sts"
    refine ⟨rfl, ?_⟩
    walk_at "sa"
    walk_at "nw"
    rename_i q1 hq1 Hb sb eb
    walk_at "sts"
    refine ⟨[1000000001], eb, by decide, by decide, fun q2 Hc hq2 sc ec => ?_⟩
    have hn1 := nums_len d [1000000001] c 0
    obtain ⟨y, hy⟩ := len1' hn1
    rw [hy] at ec
    walk_at "sts"
    refine L_ixL (.of ec) rfl ?_
    walk_at "sts"
    refine L_I (show 0 < top + 1 by omega) ?_
    exact r1 _ _ (by rw [hc, Option.map_some, hy]; rfl) (sb.trans sc)
  intro pN HN hpN sN eN
  rw [List.length_map, fm_get, show (fun c => V.int ((nums d c 0 [1000000001]).getD 0 0 % (top + 1))) = V.int ∘ fun c => (nums d c 0 [1000000001]).getD 0 0 % (top + 1) from rfl, ← List.map_map] at eN
  obtain ⟨nn, hnn⟩ : ∃ l, l = cells.map fun c => (nums d c 0 [1000000001]).getD 0 0 % (top + 1) := ⟨_, rfl⟩
  rw [← hnn] at eN
  have nnb : ∀ n ∈ nn, 0 ≤ n ∧ n ≤ 1000000000 := fun n hn => by
    rw [hnn] at hn
    obtain ⟨c, _, rfl⟩ := List.mem_map.mp hn
    have h1 := Int.emod_nonneg ((nums d c 0 [1000000001]).getD 0 0) (show top + 1 ≠ 0 by omega)
    have h2 := Int.emod_lt_of_pos ((nums d c 0 [1000000001]).getD 0 0) (show 0 < top + 1 by omega)
    omega
  have nnl : nn.length ≤ 63 := by rw [hnn, List.length_map]; exact hcl2
  clear hnn
  have s1N := s15.trans (s6.trans sN)
  walk_at "sts"
  refine L_r1 (by decide) (by decide) ?_
  refine lc_fm walk_range (fun i => some (V.int (mix (cellAt ns 1 0) (90 + (0 + (i : Int))) % (top + 1)))) (by decide) (fun _ _ => True.intro) ?_ ?_
  · rintro j x Ha Ha' R1 R2 hj sa ⟨e, hx⟩ r1 r2
    subst e
    subst hx
    walk_at "sts"
    refine ⟨rfl, ?_⟩
    walk_at "sts"
    refine ⟨ns, (s1N.trans sa).seq hS, by decide, ?_⟩
    walk_at "sts"
    refine ⟨by omega, by omega, ?_⟩
    walk_at "sts"
    refine L_I (show 0 < top + 1 by omega) ?_
    exact r1 _ _ rfl (Same.refl _)
  intro pD HD hpD sD eD
  rw [fm_map (fun i : Nat => mix (cellAt ns 1 0) (90 + (0 + (i : Int))) % (top + 1)) V.int] at eD
  obtain ⟨dd, hdd⟩ : ∃ l, l = (List.range (12 : Int).toNat).map fun i : Nat => mix (cellAt ns 1 0) (90 + (0 + (i : Int))) % (top + 1) := ⟨_, rfl⟩
  rw [← hdd] at eD
  have ddb : ∀ n ∈ dd, 0 ≤ n ∧ n ≤ 1000000000 := fun n hn => by
    rw [hdd] at hn
    obtain ⟨i, _, rfl⟩ := List.mem_map.mp hn
    have h1 := Int.emod_nonneg (mix (cellAt ns 1 0) (90 + (0 + (i : Int)))) (show top + 1 ≠ 0 by omega)
    have h2 := Int.emod_lt_of_pos (mix (cellAt ns 1 0) (90 + (0 + (i : Int)))) (show 0 < top + 1 by omega)
    omega
  have ddl : dd.length ≤ 100 := by rw [hdd, List.length_map, List.length_range]; decide
  clear hdd
  have eND := sD _ _ eN
  walk_at "sts"
  refine L_lenL (.of eND) ?_
  walk_at "sts"
  refine L_lenL (.of eND) ?_
  walk_at "sa"
  rw [List.length_map]
  walk_at "nw"
  rename_i pm hpm Hm sm em
  walk_at "sts"
  refine L_rl (.of em) ?_
  refine f_it walk_list (fun i σ' H' => Same Hm H' ∧ ∃ v8 v9 v10 : Option V, σ' = [some (.ref a), some (.bl d), some (.int x0), some (.int x1), some (.int x2), some (.int top), some (.ref pN), some (.ref pD), v8, v9, v10]) ⟨Same.refl _, none, none, none, rfl⟩ (fun _ _ _ _ p => .of (p.1 _ _ em)) ?_ ?_
  · rintro i x σ' Ha Ha' hi ⟨sa, v8, v9, v10, rfl⟩ ⟨e, hx⟩
    subst e
    obtain ⟨m, rfl⟩ : ∃ m : Nat, x = .int (m : Int) := by
      have hm := List.mem_of_getElem? hx
      simp only [List.mem_cons, List.not_mem_nil, or_false] at hm
      rcases hm with rfl | rfl | rfl
      · exact ⟨_, rfl⟩
      · exact ⟨nn.length / 2, by simp⟩
      · exact ⟨(min (nn.length : Int) (x0 + 1)).toNat, by congr 1; omega⟩
    have eNa := (sm.trans sa) _ _ eND
    have eDa := (sm.trans sa) _ _ eD
    walk_at "sts"
    refine L_slL (.of eNa) ?_
    rw [cutV_map, cutG_take]
    walk_at "nwp"
    rename_i p8 hp8 H8 s8 e8
    walk_at "sts"
    refine ⟨(1 + x0).toNat, (1 + x1).toNat, nn.take m, dd, by omega, by omega, by omega, by omega, by omega, by omega, .of e8, .of (s8 _ _ eDa), by rw [List.length_take]; omega, ddl, fun n hn => nnb n (List.mem_of_mem_take hn), ddb, fun H9 s9 => ?_⟩
    walk_at "sts"
    exact ⟨sa.trans (s8.trans s9), _, _, _, rfl⟩
  · rintro σ' Ha ⟨sa, v8, v9, v10, rfl⟩
    walk_at "sts"
    exact q _
end
theorem txt_mk {K : PySem.W.Frag} {h : Heap} {mg : Str → Option Value} (X : K.In h) (G : h.Ns mainGlobals mg)
    (z_n_bool : PySem.W.nsIn K mainGlobals "bool" = some none)
    (z_n_int : PySem.W.nsIn K mainGlobals "int" = some none)
    (z_n_isinstance : PySem.W.nsIn K mainGlobals "isinstance" = some none)
    (z_n_len : PySem.W.nsIn K mainGlobals "len" = some none)
    (z_n_str : PySem.W.nsIn K mainGlobals "str" = some none)
    {u_g_LETTERS : Value} (z_g_LETTERS : PySem.W.nsIn K mainGlobals "LETTERS" = some (some u_g_LETTERS)) (y_g_LETTERS : RelV (.str "abcdefghijklmnopqrstuvwxyz") u_g_LETTERS)
    {C_Candidate : Addr} (aC_Candidate : PySem.W.nsIn K mainGlobals "Candidate" = some (some (.ref C_Candidate)))
    (pg_Candidate : PySem.W.plainGet K C_Candidate Str.empty = true) (hd_Candidate : PySem.W.hasDictIn K C_Candidate = true) (po_Candidate : PySem.W.plainOver K C_Candidate = true) (sa_Candidate : PySem.W.findIn K (.ref C_Candidate) "__setattr__" = some (some (.builtin "object.__setattr__"))) (mk_Candidate : PySem.W.makesIn K C_Candidate = true) (kc_Candidate : PySem.W.keepIn K (.ref C_Candidate) = true)
    (na_Candidate_place : PySem.W.findIn K (.ref C_Candidate) "place" = some none)
    (na_Candidate_thing : PySem.W.findIn K (.ref C_Candidate) "thing" = some none)
    (na_Candidate_number : PySem.W.findIn K (.ref C_Candidate) "number" = some none)
    (na_Candidate_above : PySem.W.findIn K (.ref C_Candidate) "above" = some none)
    {C_Last : Addr} (aC_Last : PySem.W.nsIn K mainGlobals "Last" = some (some (.ref C_Last)))
    (pg_Last : PySem.W.plainGet K C_Last Str.empty = true) (hd_Last : PySem.W.hasDictIn K C_Last = true) (po_Last : PySem.W.plainOver K C_Last = true) (sa_Last : PySem.W.findIn K (.ref C_Last) "__setattr__" = some (some (.builtin "object.__setattr__"))) (mk_Last : PySem.W.makesIn K C_Last = true) (kc_Last : PySem.W.keepIn K (.ref C_Last) = true)
    (na_Last_wide : PySem.W.findIn K (.ref C_Last) "wide" = some none)
    (na_Last_most : PySem.W.findIn K (.ref C_Last) "most" = some none)
    (na_Last_passed : PySem.W.findIn K (.ref C_Last) "passed" = some none)
    (na_Last_row : PySem.W.findIn K (.ref C_Last) "row" = some none)
    {u_g_MOST_KEPT : Value} (z_g_MOST_KEPT : PySem.W.nsIn K mainGlobals "MOST_KEPT" = some (some u_g_MOST_KEPT)) (y_g_MOST_KEPT : RelV (.int 24) u_g_MOST_KEPT)
    {u_g_WIDEST : Value} (z_g_WIDEST : PySem.W.nsIn K mainGlobals "WIDEST" = some (some u_g_WIDEST)) (y_g_WIDEST : RelV (.int 100) u_g_WIDEST)
    {C_NoThing : Addr} (aC_NoThing : PySem.W.nsIn K mainGlobals "NoThing" = some (some (.ref C_NoThing)))
    (xx_NoThing : PySem.W.excIn K C_NoThing [.type "ValueError", .type "Exception", .type "BaseException", .type "object"] "ValueError.__new__" = true) (xk_NoThing : PySem.W.keepIn K (.ref C_NoThing) = true) (xb_NoThing : PySem.W.subIn K (.ref C_NoThing) (.type "BaseException") = some true) (xt_NoThing : PySem.W.typeIn K (.ref C_NoThing) = some (.type "type"))
    {u_g_MOST_NUMBER : Value} (z_g_MOST_NUMBER : PySem.W.nsIn K mainGlobals "MOST_NUMBER" = some (some u_g_MOST_NUMBER)) (y_g_MOST_NUMBER : RelV (.int 1000000000) u_g_MOST_NUMBER)
    (z_n_enumerate : PySem.W.nsIn K mainGlobals "enumerate" = some none)
    (z_n_max : PySem.W.nsIn K mainGlobals "max" = some none)
    (z_n_min : PySem.W.nsIn K mainGlobals "min" = some none)
    (z_n_range : PySem.W.nsIn K mainGlobals "range" = some none)
    {f_is_whole : Addr} {od_is_whole an_is_whole : Option Addr} {sl_is_whole : Array (Option Value)} {oc_is_whole kV_is_whole dc_is_whole pm_is_whole cd_is_whole ct_is_whole : Value}
    (a_is_whole : PySem.W.nsIn K mainGlobals "is_whole" = some (some (.ref f_is_whole))) (l_is_whole : K.lookup f_is_whole = some ⟨oc_is_whole, od_is_whole, .func (PySem.W.fnOf "is_whole" "is_whole" (defArgs s_is_whole) (defBody s_is_whole) (defScope s_is_whole) .none kV_is_whole dc_is_whole pm_is_whole an_is_whole cd_is_whole ct_is_whole), sl_is_whole⟩) (c_is_whole : PySem.W.codeIn K cd_is_whole "is_whole" = true) (k_is_whole : PySem.W.keepIn K (.ref f_is_whole) = true)
    {f_is_name : Addr} {od_is_name an_is_name : Option Addr} {sl_is_name : Array (Option Value)} {oc_is_name kV_is_name dc_is_name pm_is_name cd_is_name ct_is_name : Value}
    (a_is_name : PySem.W.nsIn K mainGlobals "is_name" = some (some (.ref f_is_name))) (l_is_name : K.lookup f_is_name = some ⟨oc_is_name, od_is_name, .func (PySem.W.fnOf "is_name" "is_name" (defArgs s_is_name) (defBody s_is_name) (defScope s_is_name) .none kV_is_name dc_is_name pm_is_name an_is_name cd_is_name ct_is_name), sl_is_name⟩) (c_is_name : PySem.W.codeIn K cd_is_name "is_name" = true) (k_is_name : PySem.W.keepIn K (.ref f_is_name) = true)
    {f_Candidate___init__ : Addr} {od_Candidate___init__ an_Candidate___init__ : Option Addr} {sl_Candidate___init__ : Array (Option Value)} {oc_Candidate___init__ kV_Candidate___init__ dc_Candidate___init__ pm_Candidate___init__ cd_Candidate___init__ ct_Candidate___init__ : Value}
    (a_Candidate___init__ : PySem.W.findIn K (.ref C_Candidate) "__init__" = some (some (.ref f_Candidate___init__))) (i_Candidate___init__ : PySem.W.isFn K (.ref f_Candidate___init__) = true) (l_Candidate___init__ : K.lookup f_Candidate___init__ = some ⟨oc_Candidate___init__, od_Candidate___init__, .func (PySem.W.fnOf "__init__" "Candidate.__init__" (defArgs s_Candidate___init__) (defBody s_Candidate___init__) (defScope s_Candidate___init__) .none kV_Candidate___init__ dc_Candidate___init__ pm_Candidate___init__ an_Candidate___init__ cd_Candidate___init__ ct_Candidate___init__), sl_Candidate___init__⟩) (c_Candidate___init__ : PySem.W.codeIn K cd_Candidate___init__ "Candidate.__init__" = true) (k_Candidate___init__ : PySem.W.keepIn K (.ref f_Candidate___init__) = true)
    {f_Candidate_is_less : Addr} {od_Candidate_is_less an_Candidate_is_less : Option Addr} {sl_Candidate_is_less : Array (Option Value)} {oc_Candidate_is_less kV_Candidate_is_less dc_Candidate_is_less pm_Candidate_is_less cd_Candidate_is_less ct_Candidate_is_less : Value}
    (a_Candidate_is_less : PySem.W.findIn K (.ref C_Candidate) "is_less" = some (some (.ref f_Candidate_is_less))) (i_Candidate_is_less : PySem.W.isFn K (.ref f_Candidate_is_less) = true) (l_Candidate_is_less : K.lookup f_Candidate_is_less = some ⟨oc_Candidate_is_less, od_Candidate_is_less, .func (PySem.W.fnOf "is_less" "Candidate.is_less" (defArgs s_Candidate_is_less) (defBody s_Candidate_is_less) (defScope s_Candidate_is_less) .none kV_Candidate_is_less dc_Candidate_is_less pm_Candidate_is_less an_Candidate_is_less cd_Candidate_is_less ct_Candidate_is_less), sl_Candidate_is_less⟩) (c_Candidate_is_less : PySem.W.codeIn K cd_Candidate_is_less "Candidate.is_less" = true) (k_Candidate_is_less : PySem.W.keepIn K (.ref f_Candidate_is_less) = true)
    {f_Candidate_shown : Addr} {od_Candidate_shown an_Candidate_shown : Option Addr} {sl_Candidate_shown : Array (Option Value)} {oc_Candidate_shown kV_Candidate_shown dc_Candidate_shown pm_Candidate_shown cd_Candidate_shown ct_Candidate_shown : Value}
    (a_Candidate_shown : PySem.W.findIn K (.ref C_Candidate) "shown" = some (some (.ref f_Candidate_shown))) (i_Candidate_shown : PySem.W.isFn K (.ref f_Candidate_shown) = true) (l_Candidate_shown : K.lookup f_Candidate_shown = some ⟨oc_Candidate_shown, od_Candidate_shown, .func (PySem.W.fnOf "shown" "Candidate.shown" (defArgs s_Candidate_shown) (defBody s_Candidate_shown) (defScope s_Candidate_shown) .none kV_Candidate_shown dc_Candidate_shown pm_Candidate_shown an_Candidate_shown cd_Candidate_shown ct_Candidate_shown), sl_Candidate_shown⟩) (c_Candidate_shown : PySem.W.codeIn K cd_Candidate_shown "Candidate.shown" = true) (k_Candidate_shown : PySem.W.keepIn K (.ref f_Candidate_shown) = true)
    {f_Last___init__ : Addr} {od_Last___init__ an_Last___init__ : Option Addr} {sl_Last___init__ : Array (Option Value)} {oc_Last___init__ kV_Last___init__ dc_Last___init__ pm_Last___init__ cd_Last___init__ ct_Last___init__ : Value}
    (a_Last___init__ : PySem.W.findIn K (.ref C_Last) "__init__" = some (some (.ref f_Last___init__))) (i_Last___init__ : PySem.W.isFn K (.ref f_Last___init__) = true) (l_Last___init__ : K.lookup f_Last___init__ = some ⟨oc_Last___init__, od_Last___init__, .func (PySem.W.fnOf "__init__" "Last.__init__" (defArgs s_Last___init__) (defBody s_Last___init__) (defScope s_Last___init__) .none kV_Last___init__ dc_Last___init__ pm_Last___init__ an_Last___init__ cd_Last___init__ ct_Last___init__), sl_Last___init__⟩) (c_Last___init__ : PySem.W.codeIn K cd_Last___init__ "Last.__init__" = true) (k_Last___init__ : PySem.W.keepIn K (.ref f_Last___init__) = true)
    {f_Last_come : Addr} {od_Last_come an_Last_come : Option Addr} {sl_Last_come : Array (Option Value)} {oc_Last_come kV_Last_come dc_Last_come pm_Last_come cd_Last_come ct_Last_come : Value}
    (a_Last_come : PySem.W.findIn K (.ref C_Last) "come" = some (some (.ref f_Last_come))) (i_Last_come : PySem.W.isFn K (.ref f_Last_come) = true) (l_Last_come : K.lookup f_Last_come = some ⟨oc_Last_come, od_Last_come, .func (PySem.W.fnOf "come" "Last.come" (defArgs s_Last_come) (defBody s_Last_come) (defScope s_Last_come) .none kV_Last_come dc_Last_come pm_Last_come an_Last_come cd_Last_come ct_Last_come), sl_Last_come⟩) (c_Last_come : PySem.W.codeIn K cd_Last_come "Last.come" = true) (k_Last_come : PySem.W.keepIn K (.ref f_Last_come) = true)
    {f_Last_sample : Addr} {od_Last_sample an_Last_sample : Option Addr} {sl_Last_sample : Array (Option Value)} {oc_Last_sample kV_Last_sample dc_Last_sample pm_Last_sample cd_Last_sample ct_Last_sample : Value}
    (a_Last_sample : PySem.W.findIn K (.ref C_Last) "sample" = some (some (.ref f_Last_sample))) (i_Last_sample : PySem.W.isFn K (.ref f_Last_sample) = true) (l_Last_sample : K.lookup f_Last_sample = some ⟨oc_Last_sample, od_Last_sample, .func (PySem.W.fnOf "sample" "Last.sample" (defArgs s_Last_sample) (defBody s_Last_sample) (defScope s_Last_sample) .none kV_Last_sample dc_Last_sample pm_Last_sample an_Last_sample cd_Last_sample ct_Last_sample), sl_Last_sample⟩) (c_Last_sample : PySem.W.codeIn K cd_Last_sample "Last.sample" = true) (k_Last_sample : PySem.W.keepIn K (.ref f_Last_sample) = true)
    {f_Last_candidates : Addr} {od_Last_candidates an_Last_candidates : Option Addr} {sl_Last_candidates : Array (Option Value)} {oc_Last_candidates kV_Last_candidates dc_Last_candidates pm_Last_candidates cd_Last_candidates ct_Last_candidates : Value}
    (a_Last_candidates : PySem.W.findIn K (.ref C_Last) "candidates" = some (some (.ref f_Last_candidates))) (i_Last_candidates : PySem.W.isFn K (.ref f_Last_candidates) = true) (l_Last_candidates : K.lookup f_Last_candidates = some ⟨oc_Last_candidates, od_Last_candidates, .func (PySem.W.fnOf "candidates" "Last.candidates" (defArgs s_Last_candidates) (defBody s_Last_candidates) (defScope s_Last_candidates) .none kV_Last_candidates dc_Last_candidates pm_Last_candidates an_Last_candidates cd_Last_candidates ct_Last_candidates), sl_Last_candidates⟩) (c_Last_candidates : PySem.W.codeIn K cd_Last_candidates "Last.candidates" = true) (k_Last_candidates : PySem.W.keepIn K (.ref f_Last_candidates) = true)
    {f__law_cell_at : Addr} {od__law_cell_at an__law_cell_at : Option Addr} {sl__law_cell_at : Array (Option Value)} {oc__law_cell_at kV__law_cell_at dc__law_cell_at pm__law_cell_at cd__law_cell_at ct__law_cell_at : Value}
    (a__law_cell_at : PySem.W.nsIn K mainGlobals "_law_cell_at" = some (some (.ref f__law_cell_at))) (l__law_cell_at : K.lookup f__law_cell_at = some ⟨oc__law_cell_at, od__law_cell_at, .func (PySem.W.fnOf "_law_cell_at" "_law_cell_at" (defArgs s__law_cell_at) (defBody s__law_cell_at) (defScope s__law_cell_at) .none kV__law_cell_at dc__law_cell_at pm__law_cell_at an__law_cell_at cd__law_cell_at ct__law_cell_at), sl__law_cell_at⟩) (c__law_cell_at : PySem.W.codeIn K cd__law_cell_at "_law_cell_at" = true) (k__law_cell_at : PySem.W.keepIn K (.ref f__law_cell_at) = true)
    {f__law_mix : Addr} {od__law_mix an__law_mix : Option Addr} {sl__law_mix : Array (Option Value)} {oc__law_mix kV__law_mix dc__law_mix pm__law_mix cd__law_mix ct__law_mix : Value}
    (a__law_mix : PySem.W.nsIn K mainGlobals "_law_mix" = some (some (.ref f__law_mix))) (l__law_mix : K.lookup f__law_mix = some ⟨oc__law_mix, od__law_mix, .func (PySem.W.fnOf "_law_mix" "_law_mix" (defArgs s__law_mix) (defBody s__law_mix) (defScope s__law_mix) .none kV__law_mix dc__law_mix pm__law_mix an__law_mix cd__law_mix ct__law_mix), sl__law_mix⟩) (c__law_mix : PySem.W.codeIn K cd__law_mix "_law_mix" = true) (k__law_mix : PySem.W.keepIn K (.ref f__law_mix) = true)
    {f__law_numbers : Addr} {od__law_numbers an__law_numbers : Option Addr} {sl__law_numbers : Array (Option Value)} {oc__law_numbers kV__law_numbers dc__law_numbers pm__law_numbers cd__law_numbers ct__law_numbers : Value}
    (a__law_numbers : PySem.W.nsIn K mainGlobals "_law_numbers" = some (some (.ref f__law_numbers))) (l__law_numbers : K.lookup f__law_numbers = some ⟨oc__law_numbers, od__law_numbers, .func (PySem.W.fnOf "_law_numbers" "_law_numbers" (defArgs s__law_numbers) (defBody s__law_numbers) (defScope s__law_numbers) .none kV__law_numbers dc__law_numbers pm__law_numbers an__law_numbers cd__law_numbers ct__law_numbers), sl__law_numbers⟩) (c__law_numbers : PySem.W.codeIn K cd__law_numbers "_law_numbers" = true) (k__law_numbers : PySem.W.keepIn K (.ref f__law_numbers) = true)
    {f__law_name : Addr} {od__law_name an__law_name : Option Addr} {sl__law_name : Array (Option Value)} {oc__law_name kV__law_name dc__law_name pm__law_name cd__law_name ct__law_name : Value}
    (a__law_name : PySem.W.nsIn K mainGlobals "_law_name" = some (some (.ref f__law_name))) (l__law_name : K.lookup f__law_name = some ⟨oc__law_name, od__law_name, .func (PySem.W.fnOf "_law_name" "_law_name" (defArgs s__law_name) (defBody s__law_name) (defScope s__law_name) .none kV__law_name dc__law_name pm__law_name an__law_name cd__law_name ct__law_name), sl__law_name⟩) (c__law_name : PySem.W.codeIn K cd__law_name "_law_name" = true) (k__law_name : PySem.W.keepIn K (.ref f__law_name) = true)
    {f__law_last : Addr} {od__law_last an__law_last : Option Addr} {sl__law_last : Array (Option Value)} {oc__law_last kV__law_last dc__law_last pm__law_last cd__law_last ct__law_last : Value}
    (a__law_last : PySem.W.nsIn K mainGlobals "_law_last" = some (some (.ref f__law_last))) (l__law_last : K.lookup f__law_last = some ⟨oc__law_last, od__law_last, .func (PySem.W.fnOf "_law_last" "_law_last" (defArgs s__law_last) (defBody s__law_last) (defScope s__law_last) .none kV__law_last dc__law_last pm__law_last an__law_last cd__law_last ct__law_last), sl__law_last⟩) (c__law_last : PySem.W.codeIn K cd__law_last "_law_last" = true) (k__law_last : PySem.W.keepIn K (.ref f__law_last) = true)
    {f__law_names : Addr} {od__law_names an__law_names : Option Addr} {sl__law_names : Array (Option Value)} {oc__law_names kV__law_names dc__law_names pm__law_names cd__law_names ct__law_names : Value}
    (a__law_names : PySem.W.nsIn K mainGlobals "_law_names" = some (some (.ref f__law_names))) (l__law_names : K.lookup f__law_names = some ⟨oc__law_names, od__law_names, .func (PySem.W.fnOf "_law_names" "_law_names" (defArgs s__law_names) (defBody s__law_names) (defScope s__law_names) .none kV__law_names dc__law_names pm__law_names an__law_names cd__law_names ct__law_names), sl__law_names⟩) (c__law_names : PySem.W.codeIn K cd__law_names "_law_names" = true) (k__law_names : PySem.W.keepIn K (.ref f__law_names) = true)
    {f__law_led_on : Addr} {od__law_led_on an__law_led_on : Option Addr} {sl__law_led_on : Array (Option Value)} {oc__law_led_on kV__law_led_on dc__law_led_on pm__law_led_on cd__law_led_on ct__law_led_on : Value}
    (a__law_led_on : PySem.W.nsIn K mainGlobals "_law_led_on" = some (some (.ref f__law_led_on))) (l__law_led_on : K.lookup f__law_led_on = some ⟨oc__law_led_on, od__law_led_on, .func (PySem.W.fnOf "_law_led_on" "_law_led_on" (defArgs s__law_led_on) (defBody s__law_led_on) (defScope s__law_led_on) .none kV__law_led_on dc__law_led_on pm__law_led_on an__law_led_on cd__law_led_on ct__law_led_on), sl__law_led_on⟩) (c__law_led_on : PySem.W.codeIn K cd__law_led_on "_law_led_on" = true) (k__law_led_on : PySem.W.keepIn K (.ref f__law_led_on) = true)
    {f__law_at : Addr} {od__law_at an__law_at : Option Addr} {sl__law_at : Array (Option Value)} {oc__law_at kV__law_at dc__law_at pm__law_at cd__law_at ct__law_at : Value}
    (a__law_at : PySem.W.nsIn K mainGlobals "_law_at" = some (some (.ref f__law_at))) (l__law_at : K.lookup f__law_at = some ⟨oc__law_at, od__law_at, .func (PySem.W.fnOf "_law_at" "_law_at" (defArgs s__law_at) (defBody s__law_at) (defScope s__law_at) .none kV__law_at dc__law_at pm__law_at an__law_at cd__law_at ct__law_at), sl__law_at⟩) (c__law_at : PySem.W.codeIn K cd__law_at "_law_at" = true) (k__law_at : PySem.W.keepIn K (.ref f__law_at) = true)
    {f_law : Addr} {od_law an_law : Option Addr} {sl_law : Array (Option Value)} {oc_law kV_law dc_law pm_law cd_law ct_law : Value}
    (a_law : PySem.W.nsIn K mainGlobals "law" = some (some (.ref f_law))) (l_law : K.lookup f_law = some ⟨oc_law, od_law, .func (PySem.W.fnOf "law" "law" (defArgs s_law) (defBody s_law) (defScope s_law) .none kV_law dc_law pm_law an_law cd_law ct_law), sl_law⟩) (c_law : PySem.W.codeIn K cd_law "law" = true) (k_law : PySem.W.keepIn K (.ref f_law) = true) : Txt K mg := by
  have e_Candidate : cA mg "Candidate" = C_Candidate := cA_of (PySem.W.mg_of X G aC_Candidate)
  have e_Last : cA mg "Last" = C_Last := cA_of (PySem.W.mg_of X G aC_Last)
  have e_NoThing : cA mg "NoThing" = C_NoThing := cA_of (PySem.W.mg_of X G aC_NoThing)
  exact ⟨(PySem.W.mg_none_of X G z_n_bool), (PySem.W.mg_none_of X G z_n_int), (PySem.W.mg_none_of X G z_n_isinstance), (PySem.W.mg_none_of X G z_n_len), (PySem.W.mg_none_of X G z_n_str), (⟨_, PySem.W.mg_of X G z_g_LETTERS, y_g_LETTERS⟩), (by rw [e_Candidate]; exact PySem.W.mg_of X G aC_Candidate), (by rw [e_Candidate]; exact ⟨pg_Candidate, hd_Candidate, po_Candidate, sa_Candidate⟩), (by rw [e_Candidate]; exact na_Candidate_place), (by rw [e_Candidate]; exact na_Candidate_thing), (by rw [e_Candidate]; exact na_Candidate_number), (by rw [e_Candidate]; exact na_Candidate_above), (by rw [e_Last]; exact PySem.W.mg_of X G aC_Last), (by rw [e_Last]; exact ⟨pg_Last, hd_Last, po_Last, sa_Last⟩), (by rw [e_Last]; exact na_Last_wide), (by rw [e_Last]; exact na_Last_most), (by rw [e_Last]; exact na_Last_passed), (by rw [e_Last]; exact na_Last_row), (⟨_, PySem.W.mg_of X G z_g_MOST_KEPT, y_g_MOST_KEPT⟩), (⟨_, PySem.W.mg_of X G z_g_WIDEST, y_g_WIDEST⟩), (by rw [e_NoThing]; exact PySem.W.mg_of X G aC_NoThing), (by rw [e_NoThing]; exact ⟨xx_NoThing, xk_NoThing, xb_NoThing, xt_NoThing⟩), (⟨_, PySem.W.mg_of X G z_g_MOST_NUMBER, y_g_MOST_NUMBER⟩), (PySem.W.mg_none_of X G z_n_enumerate), (PySem.W.mg_none_of X G z_n_max), (PySem.W.mg_none_of X G z_n_min), (PySem.W.mg_none_of X G z_n_range), (⟨f_is_whole, _, fun_mk (st := s_is_whole) l_is_whole c_is_whole k_is_whole, PySem.W.mg_of X G a_is_whole, (fun_mk (st := s_is_whole) l_is_whole c_is_whole k_is_whole).binds (ps := ["thing", "low", "high"]) fun _ _ _ _ _ _ us hl => match us, hl with | [_, _, _], _ => rfl⟩), (⟨f_is_name, _, fun_mk (st := s_is_name) l_is_name c_is_name k_is_name, PySem.W.mg_of X G a_is_name, (fun_mk (st := s_is_name) l_is_name c_is_name k_is_name).binds (ps := ["thing"]) fun _ _ _ _ _ _ us hl => match us, hl with | [_], _ => rfl⟩), (by rw [e_Candidate]; exact ⟨f_Candidate___init__, _, fun_mk (st := s_Candidate___init__) l_Candidate___init__ c_Candidate___init__ k_Candidate___init__, ⟨mk_Candidate, a_Candidate___init__, i_Candidate___init__, kc_Candidate⟩, (fun_mk (st := s_Candidate___init__) l_Candidate___init__ c_Candidate___init__ k_Candidate___init__).binds (ps := ["self", "place", "thing", "number"]) fun _ _ _ _ _ _ us hl => match us, hl with | [_, _, _, _], _ => rfl⟩), (by rw [e_Candidate]; exact ⟨f_Candidate_is_less, _, fun_mk (st := s_Candidate_is_less) l_Candidate_is_less c_Candidate_is_less k_Candidate_is_less, ⟨a_Candidate_is_less, i_Candidate_is_less, k_Candidate_is_less⟩, (fun_mk (st := s_Candidate_is_less) l_Candidate_is_less c_Candidate_is_less k_Candidate_is_less).binds (ps := ["self", "other"]) fun _ _ _ _ _ _ us hl => match us, hl with | [_, _], _ => rfl⟩), (by rw [e_Candidate]; exact ⟨f_Candidate_shown, _, fun_mk (st := s_Candidate_shown) l_Candidate_shown c_Candidate_shown k_Candidate_shown, ⟨a_Candidate_shown, i_Candidate_shown, k_Candidate_shown⟩, (fun_mk (st := s_Candidate_shown) l_Candidate_shown c_Candidate_shown k_Candidate_shown).binds (ps := ["self"]) fun _ _ _ _ _ _ us hl => match us, hl with | [_], _ => rfl⟩), (by rw [e_Last]; exact ⟨f_Last___init__, _, fun_mk (st := s_Last___init__) l_Last___init__ c_Last___init__ k_Last___init__, ⟨mk_Last, a_Last___init__, i_Last___init__, kc_Last⟩, (fun_mk (st := s_Last___init__) l_Last___init__ c_Last___init__ k_Last___init__).binds (ps := ["self", "wide", "most"]) fun _ _ _ _ _ _ us hl => match us, hl with | [_, _, _], _ => rfl⟩), (by rw [e_Last]; exact ⟨f_Last_come, _, fun_mk (st := s_Last_come) l_Last_come c_Last_come k_Last_come, ⟨a_Last_come, i_Last_come, k_Last_come⟩, (fun_mk (st := s_Last_come) l_Last_come c_Last_come k_Last_come).binds (ps := ["self", "thing", "number"]) fun _ _ _ _ _ _ us hl => match us, hl with | [_, _, _], _ => rfl⟩), (by rw [e_Last]; exact ⟨f_Last_sample, _, fun_mk (st := s_Last_sample) l_Last_sample c_Last_sample k_Last_sample, ⟨a_Last_sample, i_Last_sample, k_Last_sample⟩, (fun_mk (st := s_Last_sample) l_Last_sample c_Last_sample k_Last_sample).binds (ps := ["self"]) fun _ _ _ _ _ _ us hl => match us, hl with | [_], _ => rfl⟩), (by rw [e_Last]; exact ⟨f_Last_candidates, _, fun_mk (st := s_Last_candidates) l_Last_candidates c_Last_candidates k_Last_candidates, ⟨a_Last_candidates, i_Last_candidates, k_Last_candidates⟩, (fun_mk (st := s_Last_candidates) l_Last_candidates c_Last_candidates k_Last_candidates).binds (ps := ["self"]) fun _ _ _ _ _ _ us hl => match us, hl with | [_], _ => rfl⟩), (⟨f__law_cell_at, _, fun_mk (st := s__law_cell_at) l__law_cell_at c__law_cell_at k__law_cell_at, PySem.W.mg_of X G a__law_cell_at, (fun_mk (st := s__law_cell_at) l__law_cell_at c__law_cell_at k__law_cell_at).binds (ps := ["_law_script", "_law_k"]) fun _ _ _ _ _ _ us hl => match us, hl with | [_, _], _ => rfl⟩), (⟨f__law_mix, _, fun_mk (st := s__law_mix) l__law_mix c__law_mix k__law_mix, PySem.W.mg_of X G a__law_mix, (fun_mk (st := s__law_mix) l__law_mix c__law_mix k__law_mix).binds (ps := ["_law_cell", "_law_k"]) fun _ _ _ _ _ _ us hl => match us, hl with | [_, _], _ => rfl⟩), (⟨f__law_numbers, _, fun_mk (st := s__law_numbers) l__law_numbers c__law_numbers k__law_numbers, PySem.W.mg_of X G a__law_numbers, (fun_mk (st := s__law_numbers) l__law_numbers c__law_numbers k__law_numbers).binds (ps := ["_law_cell", "_law_digits", "_law_bases"]) fun _ _ _ _ _ _ us hl => match us, hl with | [_, _, _], _ => rfl⟩), (⟨f__law_name, _, fun_mk (st := s__law_name) l__law_name c__law_name k__law_name, PySem.W.mg_of X G a__law_name, (fun_mk (st := s__law_name) l__law_name c__law_name k__law_name).binds (ps := ["_law_place"]) fun _ _ _ _ _ _ us hl => match us, hl with | [_], _ => rfl⟩), (⟨f__law_last, _, fun_mk (st := s__law_last) l__law_last c__law_last k__law_last, PySem.W.mg_of X G a__law_last, (fun_mk (st := s__law_last) l__law_last c__law_last k__law_last).binds (ps := ["_law_wide", "_law_most", "_law_numbers_here"]) fun _ _ _ _ _ _ us hl => match us, hl with | [_, _, _], _ => rfl⟩), (⟨f__law_names, _, fun_mk (st := s__law_names) l__law_names c__law_names k__law_names, PySem.W.mg_of X G a__law_names, (fun_mk (st := s__law_names) l__law_names c__law_names k__law_names).binds (ps := ["_law_rows"]) fun _ _ _ _ _ _ us hl => match us, hl with | [_], _ => rfl⟩), (⟨f__law_led_on, _, fun_mk (st := s__law_led_on) l__law_led_on c__law_led_on k__law_led_on, PySem.W.mg_of X G a__law_led_on, (fun_mk (st := s__law_led_on) l__law_led_on c__law_led_on k__law_led_on).binds (ps := ["_law_wide", "_law_most", "_law_numbers_here", "_law_more"]) fun _ _ _ _ _ _ us hl => match us, hl with | [_, _, _, _], _ => rfl⟩), (⟨f__law_at, _, fun_mk (st := s__law_at) l__law_at c__law_at k__law_at, PySem.W.mg_of X G a__law_at, (fun_mk (st := s__law_at) l__law_at c__law_at k__law_at).binds (ps := ["_law_wide", "_law_most", "_law_numbers_here", "_law_drawn_ones"]) fun _ _ _ _ _ _ us hl => match us, hl with | [_, _, _, _], _ => rfl⟩), (⟨f_law, _, fun_mk (st := s_law) l_law c_law k_law, PySem.W.mg_of X G a_law, (fun_mk (st := s_law) l_law c_law k_law).binds (ps := ["_law_script"]) fun _ _ _ _ _ _ us hl => match us, hl with | [_], _ => rfl⟩)⟩
theorem law_mk {P : Program} {w : World} {K : PySem.W.Frag} {mg : Str → Option Value} {fa : Addr} (T : Txt K mg) (hfa : mg "law" = some (.ref fa)) :
    ∃ fd : FuncData, (∀ (s : Shared) (v : Value), BindsTo s fd ⟨[v], []⟩ [("_law_script", v)]) ∧ ∀ base : Heap, K.In base → base.Ns mainGlobals mg → FnOk P w K mg base CX0 7 fa fd ["_law_script"] (sp_law K mg) := by
  obtain ⟨f, fd, F, hm, b⟩ := T.d_law.ex
  have e := hfa.symm.trans hm
  cases e
  refine ⟨fd, fun s v => ?_, fun base _ _ => c_law T F⟩
  obtain ⟨oc, od, kV, doc, pm, an, cdv, ct, osl, rfl, lk, hcd⟩ := F.ex
  exact .of_eq rfl
end My
open PySem PySem.W PyProof.Rows
set_option maxRecDepth 100000 in
set_option maxHeartbeats 0 in
theorem PySem.Challenge.cw_fewspeak_k72_whole_no_candidate_is_needl_holds : PySem.Challenge.rw_fewspeak_k72_whole_no_candidate_is_needl.Holds := by
  w_on; o_law; k_head; (case hw => w_witness2)
  k_fill
  refine L2.walk_ofB (l := PySem.Challenge.rw_fewspeak_k72_whole_no_candidate_is_needl) (n := 63) (k := 7) (x := "_law_script") (CX := fun _ => L2.CX0) (sp := fun w => My.sp_law _ (fun _ => none)) rfl (by decide) rfl ⟨rfl, by decide, by decide⟩ (fun w h Y => PySem.W.kIn_of Y) ?F (fun _ _ a ns hl hb _ hS => ⟨ns, hS, hl, hb, fun _ => rfl⟩) (fun _ _ _ _ _ h => h)
  case F =>
    intro w mg fa h KX G hmg
    refine' My.law_mk (My.txt_mk KX G ?z_n_bool ?z_n_int ?z_n_isinstance ?z_n_len ?z_n_str ?z_g_LETTERS ?y_g_LETTERS ?aC_Candidate ?pg_Candidate ?hd_Candidate ?po_Candidate ?sa_Candidate ?mk_Candidate ?kc_Candidate ?na_Candidate_place ?na_Candidate_thing ?na_Candidate_number ?na_Candidate_above ?aC_Last ?pg_Last ?hd_Last ?po_Last ?sa_Last ?mk_Last ?kc_Last ?na_Last_wide ?na_Last_most ?na_Last_passed ?na_Last_row ?z_g_MOST_KEPT ?y_g_MOST_KEPT ?z_g_WIDEST ?y_g_WIDEST ?aC_NoThing ?xx_NoThing ?xk_NoThing ?xb_NoThing ?xt_NoThing ?z_g_MOST_NUMBER ?y_g_MOST_NUMBER ?z_n_enumerate ?z_n_max ?z_n_min ?z_n_range ?a_is_whole ?l_is_whole ?c_is_whole ?k_is_whole ?a_is_name ?l_is_name ?c_is_name ?k_is_name ?a_Candidate___init__ ?i_Candidate___init__ ?l_Candidate___init__ ?c_Candidate___init__ ?k_Candidate___init__ ?a_Candidate_is_less ?i_Candidate_is_less ?l_Candidate_is_less ?c_Candidate_is_less ?k_Candidate_is_less ?a_Candidate_shown ?i_Candidate_shown ?l_Candidate_shown ?c_Candidate_shown ?k_Candidate_shown ?a_Last___init__ ?i_Last___init__ ?l_Last___init__ ?c_Last___init__ ?k_Last___init__ ?a_Last_come ?i_Last_come ?l_Last_come ?c_Last_come ?k_Last_come ?a_Last_sample ?i_Last_sample ?l_Last_sample ?c_Last_sample ?k_Last_sample ?a_Last_candidates ?i_Last_candidates ?l_Last_candidates ?c_Last_candidates ?k_Last_candidates ?a__law_cell_at ?l__law_cell_at ?c__law_cell_at ?k__law_cell_at ?a__law_mix ?l__law_mix ?c__law_mix ?k__law_mix ?a__law_numbers ?l__law_numbers ?c__law_numbers ?k__law_numbers ?a__law_name ?l__law_name ?c__law_name ?k__law_name ?a__law_last ?l__law_last ?c__law_last ?k__law_last ?a__law_names ?l__law_names ?c__law_names ?k__law_names ?a__law_led_on ?l__law_led_on ?c__law_led_on ?k__law_led_on ?a__law_at ?l__law_at ?c__law_at ?k__law_at ?a_law ?l_law ?c_law ?k_law) hmg
    (case z_n_bool => k_is)
    (case z_n_int => k_is)
    (case z_n_isinstance => k_is)
    (case z_n_len => k_is)
    (case z_n_str => k_is)
    (case z_g_LETTERS => k_is)
    (case y_g_LETTERS => exact ⟨_, rfl⟩)
    (case aC_Candidate => k_is)
    (case pg_Candidate => k_is)
    (case hd_Candidate => k_is)
    (case po_Candidate => k_is)
    (case sa_Candidate => k_is)
    (case mk_Candidate => k_is)
    (case kc_Candidate => k_is)
    (case na_Candidate_place => k_is)
    (case na_Candidate_thing => k_is)
    (case na_Candidate_number => k_is)
    (case na_Candidate_above => k_is)
    (case aC_Last => k_is)
    (case pg_Last => k_is)
    (case hd_Last => k_is)
    (case po_Last => k_is)
    (case sa_Last => k_is)
    (case mk_Last => k_is)
    (case kc_Last => k_is)
    (case na_Last_wide => k_is)
    (case na_Last_most => k_is)
    (case na_Last_passed => k_is)
    (case na_Last_row => k_is)
    (case z_g_MOST_KEPT => k_is)
    (case y_g_MOST_KEPT => exact ⟨_, rfl⟩)
    (case z_g_WIDEST => k_is)
    (case y_g_WIDEST => exact ⟨_, rfl⟩)
    (case aC_NoThing => k_is)
    (case xx_NoThing => k_exc)
    (case xk_NoThing => k_is)
    (case xb_NoThing => k_is)
    (case xt_NoThing => k_is)
    (case z_g_MOST_NUMBER => k_is)
    (case y_g_MOST_NUMBER => exact ⟨_, rfl⟩)
    (case z_n_enumerate => k_is)
    (case z_n_max => k_is)
    (case z_n_min => k_is)
    (case z_n_range => k_is)
    (case a_is_whole => k_is)
    (case l_is_whole => k_is)
    (case c_is_whole => k_is)
    (case k_is_whole => k_is)
    (case a_is_name => k_is)
    (case l_is_name => k_is)
    (case c_is_name => k_is)
    (case k_is_name => k_is)
    (case a_Candidate___init__ => k_is)
    (case i_Candidate___init__ => k_is)
    (case l_Candidate___init__ => k_is)
    (case c_Candidate___init__ => k_is)
    (case k_Candidate___init__ => k_is)
    (case a_Candidate_is_less => k_is)
    (case i_Candidate_is_less => k_is)
    (case l_Candidate_is_less => k_is)
    (case c_Candidate_is_less => k_is)
    (case k_Candidate_is_less => k_is)
    (case a_Candidate_shown => k_is)
    (case i_Candidate_shown => k_is)
    (case l_Candidate_shown => k_is)
    (case c_Candidate_shown => k_is)
    (case k_Candidate_shown => k_is)
    (case a_Last___init__ => k_is)
    (case i_Last___init__ => k_is)
    (case l_Last___init__ => k_is)
    (case c_Last___init__ => k_is)
    (case k_Last___init__ => k_is)
    (case a_Last_come => k_is)
    (case i_Last_come => k_is)
    (case l_Last_come => k_is)
    (case c_Last_come => k_is)
    (case k_Last_come => k_is)
    (case a_Last_sample => k_is)
    (case i_Last_sample => k_is)
    (case l_Last_sample => k_is)
    (case c_Last_sample => k_is)
    (case k_Last_sample => k_is)
    (case a_Last_candidates => k_is)
    (case i_Last_candidates => k_is)
    (case l_Last_candidates => k_is)
    (case c_Last_candidates => k_is)
    (case k_Last_candidates => k_is)
    (case a__law_cell_at => k_is)
    (case l__law_cell_at => k_is)
    (case c__law_cell_at => k_is)
    (case k__law_cell_at => k_is)
    (case a__law_mix => k_is)
    (case l__law_mix => k_is)
    (case c__law_mix => k_is)
    (case k__law_mix => k_is)
    (case a__law_numbers => k_is)
    (case l__law_numbers => k_is)
    (case c__law_numbers => k_is)
    (case k__law_numbers => k_is)
    (case a__law_name => k_is)
    (case l__law_name => k_is)
    (case c__law_name => k_is)
    (case k__law_name => k_is)
    (case a__law_last => k_is)
    (case l__law_last => k_is)
    (case c__law_last => k_is)
    (case k__law_last => k_is)
    (case a__law_names => k_is)
    (case l__law_names => k_is)
    (case c__law_names => k_is)
    (case k__law_names => k_is)
    (case a__law_led_on => k_is)
    (case l__law_led_on => k_is)
    (case c__law_led_on => k_is)
    (case k__law_led_on => k_is)
    (case a__law_at => k_is)
    (case l__law_at => k_is)
    (case c__law_at => k_is)
    (case k__law_at => k_is)
    (case a_law => k_is)
    (case l_law => k_is)
    (case c_law => k_is)
    (case k_law => k_is)
#print axioms PySem.Challenge.cw_fewspeak_k72_whole_no_candidate_is_needl_holds

