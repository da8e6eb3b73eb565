import PyProof.Rows.All
import Wide.All
import OpenK.AllK
import Wide.FinOn
import HandS.ForMost
import HandS.Exc
import HandS.TryOnly
import HandS.ExcOwn
import HandS.WordsExc
import HandS.Wide
import HandS.IsInst
import HandS.EndBits
import HandS.Conv
import HandS.Style
import HandS.TupAny
import HandS.Evl
import HandS.Walk
import HandS.ExcIs
import HandS.ExcInit
import HandS.ExcField
import HandS.ExcValue
import HandS.SetKeys
import KE.KExcIs
import HandS.Text
import HandS.ListItems
import PySem.Challenge.RW_fewspeak_k06_groups_of_crowds
set_option Elab.async false
set_option linter.all false
set_option maxRecDepth 100000
set_option maxHeartbeats 4000000
namespace Kt
open PySem PySem.Spec PyProof.Rows L2
/-- a def of the top, as it stands behind the top -/
structure DefAt (K : PySem.W.Frag) (mg : Str → Option Value) (x : Str) (st : Stmt) (ps : List Str) : Prop where
  ex : ∃ (f : Addr) (fd : FuncData), Fun K x x st f fd ∧ mg x = some (.ref f) ∧ Binds K fd ps []
/-- a method of the class at C -/
structure MethAt (K : PySem.W.Frag) (C : Addr) (m qual : Str) (st : Stmt) (ps : List Str) : Prop where
  ex : ∃ (f : Addr) (fd : FuncData), Fun K m qual st f fd ∧ Meth K C m f ∧ Binds K fd ps []
structure InitAt (K : PySem.W.Frag) (C : Addr) (qual : Str) (st : Stmt) (ps : List Str) : Prop where
  ex : ∃ (f : Addr) (fd : FuncData), Fun K "__init__" qual st f fd ∧ Mk K C f ∧ Binds K fd ps []
/-- the class that a name of the module holds -/
def cA (mg : Str → Option Value) (x : Str) : Addr := match mg x with | some (.ref a) => a | _ => 0
theorem cA_of {mg : Str → Option Value} {x : Str} {a : Addr} (h : mg x = some (.ref a)) : cA mg x = a := by unfold cA; rw [h]
/-- a def that may be called by its name; a method of the class at C; a class that may be made -/
structure Cal (P : Program) (w : World) (K : PySem.W.Frag) (mg : Str → Option Value) (base : Heap) (k : Nat) (x : Str) (sp : Sp) : Prop where
  ex : ∃ (f : Addr) (fd : FuncData) (ps : List Str), FnOk P w K mg base CX0 k f fd ps sp ∧ mg x = some (.ref f) ∧ PySem.W.keepIn K (.ref f) = true ∧ Binds K fd ps []
structure Met (P : Program) (w : World) (K : PySem.W.Frag) (mg : Str → Option Value) (base : Heap) (k : Nat) (C : Addr) (m : Str) (sp : Sp) : Prop where
  ex : ∃ (f : Addr) (fd : FuncData) (ps : List Str), Cls K C ∧ Meth K C m f ∧ FnOk P w K mg base CX0 k f fd ps sp ∧ Binds K fd ps []
structure Mak (P : Program) (w : World) (K : PySem.W.Frag) (mg : Str → Option Value) (base : Heap) (k : Nat) (x : Str) (C : Addr) (sp : Sp) : Prop where
  ex : ∃ (f : Addr) (fd : FuncData) (ps : List Str), Mk K C f ∧ FnOk P w K mg base CX0 k f fd ps sp ∧ mg x = some (.ref C) ∧ Binds K fd ps []
section
variable {P : Program} {w : World} {K : PySem.W.Frag} {mg : Str → Option Value} {base : Heap}
theorem DefAt.cal {x : Str} {st : Stmt} {N ps : List Str} {k : Nat} {sp : Sp} (d : DefAt K mg x st ps) (S : FnScope N ps (defScope st)) (len : ∀ vs H Q E, sp vs H Q E → vs.length = ps.length)
    (hbody : ∀ (f : Addr) (cdv : Value) (A : Around) (outer : List Env) (s : Shared) (H : Hp) (vs : List V) (Q : VK) (E : XK), Room k (A.deeper (envOfC x (defScope st) s.heap.objs.size f cdv)) → sp vs H Q E →
      ∃ t, PSs (cxOf CX0 P w K mg base N x (defScope st) f cdv A outer s H E).nox (defBody st) t ∧ t { nx := fun _ H' => Q .non H', rt := Q } (start N vs) H) : Cal P w K mg base (k + 1) x sp := by
  obtain ⟨f, fd, F, hm, b⟩ := d.ex
  exact ⟨f, fd, ps, F.ok S len (hbody f), hm, F.kp, b⟩
theorem MethAt.met {C : Addr} {m qual : Str} {st : Stmt} {N ps : List Str} {k : Nat} {sp : Sp} (c : Cls K C) (d : MethAt K C m qual st ps) (S : FnScope N ps (defScope st)) (len : ∀ vs H Q E, sp vs H Q E → vs.length = ps.length)
    (hbody : ∀ (f : Addr) (cdv : Value) (A : Around) (outer : List Env) (s : Shared) (H : Hp) (vs : List V) (Q : VK) (E : XK), Room k (A.deeper (envOfC qual (defScope st) s.heap.objs.size f cdv)) → sp vs H Q E →
      ∃ t, PSs (cxOf CX0 P w K mg base N qual (defScope st) f cdv A outer s H E).nox (defBody st) t ∧ t { nx := fun _ H' => Q .non H', rt := Q } (start N vs) H) : Met P w K mg base (k + 1) C m sp := by
  obtain ⟨f, fd, F, hm, b⟩ := d.ex
  exact ⟨f, fd, ps, c, hm, F.ok S len (hbody f), b⟩
theorem InitAt.mak {x : Str} {C : Addr} {qual : Str} {st : Stmt} {N ps : List Str} {k : Nat} {sp : Sp} (hx : mg x = some (.ref C)) (d : InitAt K C qual st ps) (S : FnScope N ps (defScope st)) (len : ∀ vs H Q E, sp vs H Q E → vs.length = ps.length)
    (hbody : ∀ (f : Addr) (cdv : Value) (A : Around) (outer : List Env) (s : Shared) (H : Hp) (vs : List V) (Q : VK) (E : XK), Room k (A.deeper (envOfC qual (defScope st) s.heap.objs.size f cdv)) → sp vs H Q E →
      ∃ t, PSs (cxOf CX0 P w K mg base N qual (defScope st) f cdv A outer s H E).nox (defBody st) t ∧ t { nx := fun _ H' => Q .non H', rt := Q } (start N vs) H) : Mak P w K mg base (k + 1) x C sp := by
  obtain ⟨f, fd, F, hm, b⟩ := d.ex
  exact ⟨f, fd, ps, hm, F.ok S len (hbody f), hx, b⟩
/-- a def that may raise -/
structure CalX (P : Program) (w : World) (K : PySem.W.Frag) (mg : Str → Option Value) (base : Heap) (k : Nat) (x : Str) (sp : Sp) : Prop where
  ex : ∃ (f : Addr) (fd : FuncData) (ps : List Str), FnOk P w K mg base (L2.CX P w) k f fd ps sp ∧ mg x = some (.ref f) ∧ PySem.W.keepIn K (.ref f) = true ∧ Binds K fd ps []
theorem DefAt.calX {x : Str} {st : Stmt} {N ps : List Str} {k : Nat} {sp : Sp} (d : DefAt K mg x st ps) (S : FnScope N ps (defScope st)) (len : ∀ vs H Q E, sp vs H Q E → vs.length = ps.length)
    (hbody : ∀ (f : Addr) (cdv : Value) (A : Around) (outer : List Env) (s : Shared) (H : Hp) (vs : List V) (Q : VK) (E : XK), Room k (A.deeper (envOfC x (defScope st) s.heap.objs.size f cdv)) → sp vs H Q E →
      ∃ t, PSs (cxOf (L2.CX P w) P w K mg base N x (defScope st) f cdv A outer s H E) (defBody st) t ∧ t { nx := fun _ H' => Q .non H', rt := Q } (start N vs) H) : CalX P w K mg base (k + 1) x sp := by
  obtain ⟨f, fd, F, hm, b⟩ := d.ex
  exact ⟨f, fd, ps, F.okX S len (hbody f), hm, F.kp, b⟩
end
section
variable {X : Cx} {k j : Nat} {C : Addr} {x m : Str} {sp : Sp} {p pos apos : Pos} {e o : Expr} {es : List Expr} {ta : TE} {t : TA}
theorem pe_c (c : Cal X.prog X.w X.K X.mg X.base k x sp) (hr : Room j X.A) (hk : k ≤ j) (hg : Gl X x) (ha : PA X (e :: es) t)
    (hdb : (x == ("__debug__" : Str)) = false := by decide) (he : starEach (e :: es) X.env = (false, eval e X.env) :: starEach es X.env := by rfl) (hpl : (backTo pos (starEach es X.env)).any (·.1) = false := by rfl) :
    PE X (.Call (.Name x p) (e :: es) [] pos) (tCall sp [] E0 t) := by
  obtain ⟨f, fd, ps, F, hm, kp, b⟩ := c.ex
  exact pe_call F (hr.mono hk) hg hm kp b .nil pass0 ha hdb he hpl
theorem pe_c0 (c : Cal X.prog X.w X.K X.mg X.base k x sp) (hr : Room j X.A) (hk : k ≤ j) (hg : Gl X x)
    (hdb : (x == ("__debug__" : Str)) = false := by decide) :
    PE X (.Call (.Name x p) [] [] pos) (tCall sp [] E0 tNil) := by
  obtain ⟨f, fd, ps, F, hm, kp, b⟩ := c.ex
  exact pe_call0 F (hr.mono hk) hg hm kp b .nil pass0 hdb
theorem pe_mk (c : Mak X.prog X.w X.K X.mg X.base k x C sp) (hr : Room j X.A) (hk : k + 1 ≤ j) (hg : Gl X x) (ha : PA X (e :: es) t)
    (hdb : (x == ("__debug__" : Str)) = false := by decide) (he : starEach (e :: es) X.env = (false, eval e X.env) :: starEach es X.env := by rfl) (hpl : (backTo pos (starEach es X.env)).any (·.1) = false := by rfl) :
    PE X (.Call (.Name x p) (e :: es) [] pos) (tMake C sp [] E0 t) := by
  obtain ⟨f, fd, ps, M, F, hm, b⟩ := c.ex
  exact pe_make M F (hr.mono hk) hg hm b .nil pass0 ha hdb he hpl
theorem pe_mt {pl : Sem Bool} (c : Met X.prog X.w X.K X.mg X.base k C m sp) (hr : Room j X.A) (hk : k ≤ j) (he : PE X o ta) (ha : PA X (e :: es) t)
    (hst : starEach (e :: es) X.env = (false, eval e X.env) :: starEach es X.env := by rfl) (hpl : (backTo pos (starEach es X.env)).any (·.1) = false := by rfl)
    (ht : eval (.Call (.Attribute o m apos) (e :: es) [] pos) X.env = (do
      let ov ← eval o X.env
      standAt apos.atName
      let (f, first) ← holding [ov] (getMethod ov m pl)
      callWith pos f first (backTo pos (starEach (e :: es) X.env)) (backToKw pos (keywordEach [] X.env))) := by rfl) :
    PE X (.Call (.Attribute o m apos) (e :: es) [] pos) (tMeth C m sp [] E0 ta t) := by
  obtain ⟨f, fd, ps, hc, hm, F, b⟩ := c.ex
  exact pe_meth (pl := pl) he hc hm F (hr.mono hk) b .nil pass0 ha hst hpl ht
theorem pe_mt0 {pl : Sem Bool} (c : Met X.prog X.w X.K X.mg X.base k C m sp) (hr : Room j X.A) (hk : k ≤ j) (he : PE X o ta)
    (ht : eval (.Call (.Attribute o m apos) [] [] pos) X.env = (do
      let ov ← eval o X.env
      standAt apos.atName
      let (f, first) ← holding [ov] (getMethod ov m pl)
      callWith pos f first (backTo pos (starEach [] X.env)) (backToKw pos (keywordEach [] X.env))) := by rfl) :
    PE X (.Call (.Attribute o m apos) [] [] pos) (tMeth C m sp [] E0 ta tNil) := by
  obtain ⟨f, fd, ps, hc, hm, F, b⟩ := c.ex
  exact pe_meth0 (pl := pl) he hc hm F (hr.mono hk) b .nil pass0 ht
/-- a call of a def that may raise, where nothing is raised -/
theorem pe_x0 (c : CalX X.prog X.w X.K X.mg X.base k x sp) (hr : Room j X.A) (hk : k ≤ j) (hg : Gl X x) (ha : PA X (e :: es) t)
    (hdb : (x == ("__debug__" : Str)) = false := by decide) (he : starEach (e :: es) X.env = (false, eval e X.env) :: starEach es X.env := by rfl) (hpl : (backTo pos (starEach es X.env)).any (·.1) = false := by rfl) :
    PE X (.Call (.Name x p) (e :: es) [] pos) (tCall sp [] E0 t) := by
  obtain ⟨f, fd, ps, F, hm, kp, b⟩ := c.ex
  exact pe_call F (hr.mono hk) hg hm kp b .nil passL ha hdb he hpl
end
/-- a built-in class as a value -/
theorem pe_ty {X : Cx} {x : Str} {pos : Pos} (n : String) (hg : Gl X x) (hm : X.mg x = none) (hv : bootBuiltins x = some (.type n)) (hn : x ≠ "__name__" := by decide) (hdb : (x == ("__debug__" : Str)) = false := by decide) : PE X (.Name x pos) (tC (.ty n)) :=
  pe_bltn hg hm hv rfl hn hdb
/-- a constant of the module -/
theorem pe_gc {X : Cx} {x : Str} {pos : Pos} {v : V} (hg : Gl X x) (h : ∃ u, X.mg x = some u ∧ RelV v u) (hdb : (x == ("__debug__" : Str)) = false := by decide) : PE X (.Name x pos) (tC v) := by
  obtain ⟨u, h1, h2⟩ := h
  exact pe_glob hg h1 h2 hdb
/-! ### heaps -/
theorem hp_new {H : Hp} {a b : Addr} {o o' : HO} (h : H a = none) (h' : H b = some o') : upd H a o b = some o' := by
  rw [upd_ne (ne_of_none h' h)]; exact h'
theorem hp_same {H H' : Hp} {b : Addr} {o : HO} (e : Same H H') (h : H b = some o) : H' b = some o := e b o h
theorem same_upd {H H' : Hp} {a : Addr} {o : HO} (e : Same H H') (h : H' a = none) : Same H (upd H' a o) := fun b o' q => hp_new h (e b o' q)
theorem same_new {H : Hp} {a : Addr} {o : HO} (h : H a = none) : Same H (upd H a o) := fun b o' q => hp_new h q
theorem cxOf_K {CX : CXT} {P : Program} {w : World} {K : PySem.W.Frag} {mg : Str → Option Value} {base : Heap} {N : List Str} {qual : Str} {scope : Scope} {f : Addr} {cd : Value} {A : Around} {outer : List Env} {s : Shared} {H : Hp} {E : XK} : (cxOf CX P w K mg base N qual scope f cd A outer s H E).nox.K = K := rfl
theorem cxOf_K' {CX : CXT} {P : Program} {w : World} {K : PySem.W.Frag} {mg : Str → Option Value} {base : Heap} {N : List Str} {qual : Str} {scope : Scope} {f : Addr} {cd : Value} {A : Around} {outer : List Env} {s : Shared} {H : Hp} {E : XK} : (cxOf CX P w K mg base N qual scope f cd A outer s H E).K = K := rfl
theorem cxOf_mg {CX : CXT} {P : Program} {w : World} {K : PySem.W.Frag} {mg : Str → Option Value} {base : Heap} {N : List Str} {qual : Str} {scope : Scope} {f : Addr} {cd : Value} {A : Around} {outer : List Env} {s : Shared} {H : Hp} {E : XK} : (cxOf CX P w K mg base N qual scope f cd A outer s H E).nox.mg = mg := rfl
theorem cxOf_mg' {CX : CXT} {P : Program} {w : World} {K : PySem.W.Frag} {mg : Str → Option Value} {base : Heap} {N : List Str} {qual : Str} {scope : Scope} {f : Addr} {cd : Value} {A : Around} {outer : List Env} {s : Shared} {H : Hp} {E : XK} : (cxOf CX P w K mg base N qual scope f cd A outer s H E).mg = mg := rfl
/-- a new tuple, a new list: all that stood stands -/
def NewT (H : Hp) (xs : List V) (Q : VK) : Prop := ∀ p H', H p = none → Same H H' → H' p = some (.tup xs) → Q (.ref p) H'
def NewL (H : Hp) (xs : List V) (Q : VK) : Prop := ∀ p H', H p = none → Same H H' → H' p = some (.lst xs) → Q (.ref p) H'
theorem NewT.at {H : Hp} {xs : List V} {Q : VK} (q : NewT H xs Q) (p : Addr) (h : H p = none) : Q (.ref p) (upd H p (.tup xs)) := q p _ h (same_new h) upd_same
theorem NewL.at {H : Hp} {xs : List V} {Q : VK} (q : NewL H xs Q) (p : Addr) (h : H p = none) : Q (.ref p) (upd H p (.lst xs)) := q p _ h (same_new h) upd_same
theorem NewT.of {H H' : Hp} {xs : List V} {Q : VK} (q : NewT H xs Q) (e : Same H H') : NewT H' xs Q := fun p H2 h s x => q p H2 (e.free h) (e.trans s) x
theorem NewL.of {H H' : Hp} {xs : List V} {Q : VK} (q : NewL H xs Q) (e : Same H H') : NewL H' xs Q := fun p H2 h s x => q p H2 (e.free h) (e.trans s) x
/-! ### readings by name -/
section
variable {X : Cx}
def aAdd (K : PySem.W.Frag) : R2 := fun x y H Q => rI0 (fun i j => .int (i + j)) x y H Q ∨ (∃ i j, x = .str i ∧ y = .str j ∧ i.length + j.length ≤ sizeLine ∧ Q (.str (i ++ j)) H) ∨ rCat x y H Q ∨ rCatA K x y H Q
theorem op_addA : OpR X (binaryOp .Add) (aAdd X.K) := op_add.or (op_add_str.or (op_cat.or op_catA))
def aMul : R2 := fun x y H Q => rI CMulW (fun i j => .int (i * j)) x y H Q ∨ rRep x y H Q
theorem op_mulA : OpR X (binaryOp .Mult) aMul := op_mulW.or op_rep
def aEq (K : PySem.W.Frag) : R2 := fun x y H Q => rEq x y H Q ∨ rEqD K x y H Q
theorem op_eqA {k : Nat} (hr : Room k X.A) : OpR X (compareOp .Eq) (aEq X.K) := op_eq.or (op_eqD hr.units)
def aNe (K : PySem.W.Frag) : R2 := fun x y H Q => rNe x y H Q ∨ rNeD K x y H Q
theorem op_neA {k : Nat} (hr : Room k X.A) : OpR X (compareOp .NotEq) (aNe X.K) := op_ne.or (op_neD hr.units)
def aLe : R2 := fun x y H Q => rI0 (fun i j => .bl (decide (i ≤ j))) x y H Q ∨ ∃ i j, x = .str i ∧ y = .str j ∧ Q (.bl (!decide (j.cps.toList < i.cps.toList))) H
theorem op_leA : OpR X (compareOp .LtE) aLe := op_le.or op_le_str
def aLt : R2 := fun x y H Q => rI0 (fun i j => .bl (decide (i < j))) x y H Q ∨ ∃ i j, x = .str i ∧ y = .str j ∧ Q (.bl (decide (i.cps.toList < j.cps.toList))) H
theorem op_ltA : OpR X (compareOp .Lt) aLt := op_lt.or op_lt_str
def aIn (K : PySem.W.Frag) : R2 := fun x y H Q => (∃ (c : Nat) (z : Str), x = .str ⟨#[c]⟩ ∧ y = .str z ∧ Q (.bl (decide (c ∈ z.cps.toList))) H) ∨ rIn K false x y H Q
theorem op_inA : OpR X (compareOp .In) (aIn X.K) := op_in_sign.or op_in_seq
def aNotIn (K : PySem.W.Frag) : R2 := fun x y H Q => (∃ (c : Nat) (z : Str), x = .str ⟨#[c]⟩ ∧ y = .str z ∧ Q (.bl (!decide (c ∈ z.cps.toList))) H) ∨ rIn K true x y H Q
theorem op_notInA : OpR X (compareOp .NotIn) (aNotIn X.K) := op_notIn_sign.or op_notIn_seq
def aLen (K : PySem.W.Frag) : List V → Hp → VK → Prop := fun xs H Q => (∃ p ys, xs = [.ref p] ∧ (SqL K H p ys ∨ SqT K H p ys) ∧ Q (.int ys.length) H) ∨ (∃ z, xs = [.str z] ∧ z.length ≤ sizeLine ∧ Q (.int z.length) H) ∨ (∃ a kvs, xs = [V.ref a] ∧ H a = some (.dK kvs) ∧ Q (.int kvs.length) H)
theorem call_lenA : CallR X (.builtin "len") (aLen X.K) := call_len_seq.or (call_len_str.or call_lenD)
def aAbs : List V → Hp → VK → Prop := fun xs H Q => ∃ i, xs = [.int i] ∧ Q (.int (if i < 0 then -i else i)) H
theorem call_absA : CallR X (.builtin "abs") aAbs := call_abs
def aMax2 : List V → Hp → VK → Prop := fun xs H Q => ∃ i j, xs = [.int i, .int j] ∧ Q (.int (if j > i then j else i)) H
theorem call_max2A (hc : X.calm = true) : CallR X (.builtin "max") aMax2 := call_max2 hc
def aMin2 : List V → Hp → VK → Prop := fun xs H Q => ∃ i j, xs = [.int i, .int j] ∧ Q (.int (if j < i then j else i)) H
theorem call_min2A (hc : X.calm = true) : CallR X (.builtin "min") aMin2 := call_min2 hc
def aInt1 : List V → Hp → VK → Prop := fun xs H Q => (∃ i, xs = [.int i] ∧ Q (.int i) H) ∨ ∃ k, xs = [.bl k] ∧ Q (.int (if k then 1 else 0)) H
theorem call_int1A : CallR X (.type "int") aInt1 := call_int1
def aStr1 : List V → Hp → VK → Prop := fun xs H Q => ∃ i, xs = [.int i] ∧ i.natAbs.log2 < 1920 ∧ Q (.str (toString i)) H
theorem call_str1A : CallR X (.type "str") aStr1 := call_str_int
def aList1 (K : PySem.W.Frag) : List V → Hp → VK → Prop := fun xs H Q => ∃ p ys, xs = [.ref p] ∧ (SqL K H p ys ∨ SqT K H p ys) ∧ ∀ l, H l = none → Q (.ref l) (upd H l (.lst ys))
theorem call_list1A : CallR X (.type "list") (aList1 X.K) := call_list_of
def aTuple1 (K : PySem.W.Frag) : List V → Hp → VK → Prop := fun xs H Q => ∃ p ys, xs = [.ref p] ∧ ((SqL K H p ys ∧ ∀ l, H l = none → Q (.ref l) (upd H l (.tup ys))) ∨ (SqT K H p ys ∧ Q (.ref p) H))
theorem call_tuple1A : CallR X (.type "tuple") (aTuple1 X.K) := call_tuple_of
def aTru (K : PySem.W.Frag) (ta : TE) : TT := fun σ H Q => ta σ H fun x H' => ∃ k, TruV K x H' k ∧ Q k H'
theorem pt_tru {a : Expr} {ta : TE} (ha : PE X a ta) (he : ∀ whole, isTrue a X.env whole = (do let v ← whole; standAt a.pos; holding [v] (truthy v))) : PT X a (aTru X.K ta) := pt_truth ha he
def aIsN : R2 := fun x y H Q => y = .non ∧ Q (.bl (decide (x = .non))) H
theorem op_isNA : OpR X (compareOp .Is) aIsN := op_isN
def aNotN : R2 := fun x y H Q => y = .non ∧ Q (.bl (!decide (x = .non))) H
theorem op_notNA : OpR X (compareOp .IsNot) aNotN := op_notN
end
/-! ### one step of a reading -/
section
variable {K : PySem.W.Frag} {σ : L2.St} {H : Hp} {N B C : L2.St → Hp → Prop} {R : VK} {t u : TS} {c d : TT} {ta tb te tc : TE} {tr : TA} {Q : VK} {g : TG} {i j : Nat} {v x y : V} {r r' : R2}
theorem L_seq (h : t ⟨u ⟨N, R, B, C⟩, R, B, C⟩ σ H) : tSeq t u ⟨N, R, B, C⟩ σ H := h
theorem L_next (h : N σ H) : tNext ⟨N, R, B, C⟩ σ H := h
theorem L_brk (h : B σ H) : tBreak ⟨N, R, B, C⟩ σ H := h
theorem L_cont (h : C σ H) : tCont ⟨N, R, B, C⟩ σ H := h
theorem L_ret (h : te σ H R) : tRet te ⟨N, R, B, C⟩ σ H := h
theorem L_retN (h : R .non H) : tRetN ⟨N, R, B, C⟩ σ H := h
theorem L_drop (h : te σ H fun _ H1 => N σ H1) : tDrop te ⟨N, R, B, C⟩ σ H := h
theorem L_asg (h : te σ H fun x H1 => g x σ H1 N) : tAsg te g ⟨N, R, B, C⟩ σ H := h
theorem L_gname {Q : L2.St → Hp → Prop} (h : Q (σ.set i (some v)) H) : gName i v σ H Q := h
theorem L_aug {ti : TIp} (hx : σ[i]? = some (some x)) (h : te σ H fun y H1 => ti x y H1 fun z H2 => N (σ.set i (some z)) H2) : tAug i te ti ⟨N, R, B, C⟩ σ H := ⟨x, hx, h⟩
theorem L_ipI {f : Int → Int → Int} {a b : Int} (h : Q (.int (f a b)) H) : ipI f (.int a) (.int b) H Q := ⟨a, b, rfl, rfl, h⟩
theorem L_ifS (h : c σ H fun b H1 => if b = true then t ⟨N, R, B, C⟩ σ H1 else u ⟨N, R, B, C⟩ σ H1) : tIfS c t u ⟨N, R, B, C⟩ σ H := h
theorem L_par (h : tr σ H fun vs H1 => ∃ v w, vs = [v, w] ∧ N ((σ.set i (some v)).set j (some w)) H1) : tPar i j tr ⟨N, R, B, C⟩ σ H := h
theorem L_par3 {l : Nat} (h : tr σ H fun vs H1 => ∃ u v w, vs = [u, v, w] ∧ N (((σ.set i (some u)).set j (some v)).set l (some w)) H1) : tPar3 i j l tr ⟨N, R, B, C⟩ σ H := h
theorem L_vs2 {Q : V → V → Prop} (h : Q x y) : ∃ v w, [x, y] = [v, w] ∧ Q v w := ⟨x, y, rfl, h⟩
theorem L_vs3 {z : V} {Q : V → V → V → Prop} (h : Q x y z) : ∃ u v w, [x, y, z] = [u, v, w] ∧ Q u v w := ⟨x, y, z, rfl, h⟩
theorem L_var (h : σ[i]? = some (some v)) (q : Q v H) : tVar i σ H Q := ⟨v, h, q⟩
theorem L_c (q : Q v H) : tC v σ H Q := q
theorem L_op (h : ta σ H fun x H1 => tb σ H1 fun y H2 => r x y H2 Q) : tOp r ta tb σ H Q := h
theorem L_un {r : V → Hp → VK → Prop} (h : ta σ H fun x H1 => r x H1 Q) : tUn r ta σ H Q := h
theorem L_rU {g : Int → V} {i : Int} (q : Q (g i) H) : rU g (.int i) H Q := ⟨i, rfl, q⟩
theorem L_I0 {g : Int → Int → V} {i j : Int} (q : Q (g i j) H) : rI0 g (.int i) (.int j) H Q := ⟨i, j, rfl, rfl, q⟩
theorem L_I {C : Int → Int → Prop} {g : Int → Int → V} {i j : Int} (hc : C i j) (q : Q (g i j) H) : rI C g (.int i) (.int j) H Q := ⟨i, j, rfl, rfl, hc, q⟩
theorem L_addI {i j : Int} (q : Q (.int (i + j)) H) : aAdd K (.int i) (.int j) H Q := .inl ⟨i, j, rfl, rfl, q⟩
theorem L_addS {a b : Str} (hl : a.length + b.length ≤ sizeLine) (q : Q (.str (a ++ b)) H) : aAdd K (.str a) (.str b) H Q := .inr (.inl ⟨a, b, rfl, rfl, hl, q⟩)
theorem L_addL {a b : Addr} {xs ys : List V} (ha : H a = some (.lst xs)) (hb : H b = some (.lst ys)) (hl : xs.length + ys.length ≤ sizeLine) (q : ∀ p, H p = none → Q (.ref p) (upd H p (.lst (xs ++ ys)))) : aAdd K (.ref a) (.ref b) H Q := .inr (.inr (.inl ⟨a, b, xs, ys, rfl, rfl, ha, hb, hl, q⟩))
theorem L_mulI {i j : Int} (hc : CMulW i j) (q : Q (.int (i * j)) H) : aMul (.int i) (.int j) H Q := .inl ⟨i, j, rfl, rfl, hc, q⟩
theorem L_eqI {i j : Int} (q : Q (.bl (decide (i = j))) H) : aEq K (.int i) (.int j) H Q := .inl ⟨rfl, by rw [show decide (V.int i = V.int j) = decide (i = j) by simp]; exact q⟩
theorem L_eqS {i j : Str} (q : Q (.bl (decide (i = j))) H) : aEq K (.str i) (.str j) H Q := .inl ⟨rfl, by rw [show decide (V.str i = V.str j) = decide (i = j) by simp]; exact q⟩
theorem L_eqB {i j : Bool} (q : Q (.bl (decide (i = j))) H) : aEq K (.bl i) (.bl j) H Q := .inl ⟨rfl, by rw [show decide (V.bl i = V.bl j) = decide (i = j) by simp]; exact q⟩
theorem L_neI {i j : Int} (q : Q (.bl (!decide (i = j))) H) : aNe K (.int i) (.int j) H Q := .inl ⟨rfl, by rw [show decide (V.int i = V.int j) = decide (i = j) by simp]; exact q⟩
theorem L_neS {i j : Str} (q : Q (.bl (!decide (i = j))) H) : aNe K (.str i) (.str j) H Q := .inl ⟨rfl, by rw [show decide (V.str i = V.str j) = decide (i = j) by simp]; exact q⟩
theorem L_eqD {d e : PyData} (hx : Dp K H x d) (hy : Dp K H y e) (sd : SeqAt.shaped d = true) (se : SeqAt.shaped e = true) (q : Q (.bl (PyData.eqv d e)) H) : aEq K x y H Q := .inr ⟨d, e, hx, hy, sd, se, q⟩
theorem L_neD {d e : PyData} (hx : Dp K H x d) (hy : Dp K H y e) (sd : SeqAt.shaped d = true) (se : SeqAt.shaped e = true) (q : Q (.bl (!PyData.eqv d e)) H) : aNe K x y H Q := .inr ⟨d, e, hx, hy, sd, se, q⟩
theorem L_leI {i j : Int} (q : Q (.bl (decide (i ≤ j))) H) : aLe (.int i) (.int j) H Q := .inl ⟨i, j, rfl, rfl, q⟩
theorem L_leS {i j : Str} (q : Q (.bl (!decide (j.cps.toList < i.cps.toList))) H) : aLe (.str i) (.str j) H Q := .inr ⟨i, j, rfl, rfl, q⟩
theorem L_ltI {i j : Int} (q : Q (.bl (decide (i < j))) H) : aLt (.int i) (.int j) H Q := .inl ⟨i, j, rfl, rfl, q⟩
theorem L_isN (q : Q (.bl (decide (x = .non))) H) : aIsN x .non H Q := ⟨rfl, q⟩
theorem L_notN (q : Q (.bl (!decide (x = .non))) H) : aNotN x .non H Q := ⟨rfl, q⟩
theorem L_inC {a : Nat} {z : Str} (q : Q (.bl (decide (a ∈ z.cps.toList))) H) : aIn K (.str ⟨#[a]⟩) (.str z) H Q := .inl ⟨a, z, rfl, rfl, q⟩
theorem L_notInC {a : Nat} {z : Str} (q : Q (.bl (!decide (a ∈ z.cps.toList))) H) : aNotIn K (.str ⟨#[a]⟩) (.str z) H Q := .inl ⟨a, z, rfl, rfl, q⟩
theorem L_fld {f : Str} (h : ta σ H fun x H1 => ∃ a C dx fs v, x = .ref a ∧ H1 a = some (.ins C dx fs) ∧ Cls K C ∧ NoAttr K C f ∧ fs.lookup f = some v ∧ Q v H1) : tFld K ta f σ H Q := h
theorem L_fldv {a C dx : Addr} {fs : List (Str × V)} {f : Str} {Q : V → Prop} (h : H a = some (.ins C dx fs)) (cl : Cls K C) (n : NoAttr K C f) (l : fs.lookup f = some v) (q : Q v) :
    ∃ a' C dx fs v, V.ref a = V.ref a' ∧ H a' = some (.ins C dx fs) ∧ Cls K C ∧ NoAttr K C f ∧ fs.lookup f = some v ∧ Q v := ⟨a, C, dx, fs, v, rfl, h, cl, n, l, q⟩
theorem L_tTest {Q : Bool → Hp → Prop} (h : te σ H fun x H' => ∃ k, x = .bl k ∧ Q k H') : tTest te σ H Q := h
theorem L_tB {Q : Bool → Hp → Prop} (h : te σ H fun x H' => ∃ k, x = .bl k ∧ Q k H') : tB te σ H Q := h
theorem L_k {b : Bool} {Q : Bool → Prop} (q : Q b) : ∃ k, V.bl b = V.bl k ∧ Q k := ⟨b, rfl, q⟩
theorem L_tru {Q : Bool → Hp → Prop} (h : te σ H fun x H' => ∃ k, TruV K x H' k ∧ Q k H') : aTru K te σ H Q := h
theorem L_truB {b : Bool} {Q : Bool → Prop} (q : Q b) : ∃ k, TruV K (.bl b) H k ∧ Q k := ⟨b, rfl, q⟩
theorem L_truI {i : Int} {Q : Bool → Prop} (q : Q (i != 0)) : ∃ k, TruV K (.int i) H k ∧ Q k := ⟨_, rfl, q⟩
theorem L_and {Q : Bool → Hp → Prop} (h : c σ H fun b H1 => if b = true then d σ H1 Q else Q false H1) : tAnd c d σ H Q := h
theorem L_or {Q : Bool → Hp → Prop} (h : c σ H fun b H1 => if b = true then Q true H1 else d σ H1 Q) : tOr c d σ H Q := h
theorem L_not {Q : Bool → Hp → Prop} (h : c σ H fun b H1 => Q (!b) H1) : tNot c σ H Q := h
theorem L_andV (h : ta σ H fun x H1 => ∃ c, x = .bl c ∧ if c = true then tb σ H1 Q else Q (.bl false) H1) : tAndV ta tb σ H Q := h
theorem L_orV (h : ta σ H fun x H1 => ∃ c, x = .bl c ∧ if c = true then Q (.bl true) H1 else tb σ H1 Q) : tOrV ta tb σ H Q := h
theorem L_notV (h : ta σ H fun x H1 => ∃ c, x = .bl c ∧ Q (.bl (!c)) H1) : tNotV ta σ H Q := h
theorem L_ifE (h : c σ H fun b H1 => if b = true then ta σ H1 Q else tb σ H1 Q) : tIf c ta tb σ H Q := h
theorem L_chain (h : ta σ H fun x H1 => tb σ H1 fun y H2 => r x y H2 fun z H3 => ∃ k, z = .bl k ∧ (if k = true then tc σ H3 fun w' H4 => r' y w' H4 Q else Q (.bl false) H3)) : tChain r r' ta tb tc σ H Q := h
theorem L_T {A B : Prop} (a : A) : if true = true then A else B := by rw [if_pos rfl]; exact a
theorem L_F {A B : Prop} (b : B) : if false = true then A else B := by rw [if_neg Bool.false_ne_true]; exact b
theorem L_dT {p : Prop} [Decidable p] {A B : Prop} (h : p) (a : A) : if decide p = true then A else B := by rw [decide_eq_true h]; exact L_T a
theorem L_dF {p : Prop} [Decidable p] {A B : Prop} (h : ¬ p) (b : B) : if decide p = true then A else B := by rw [decide_eq_false h]; exact L_F b
theorem L_d {p : Prop} [Decidable p] {A B : Prop} (a : p → A) (b : ¬ p → B) : if decide p = true then A else B := by
  by_cases h : p
  · exact L_dT h (a h)
  · exact L_dF h (b h)
theorem L_nd {p : Prop} [Decidable p] {A B : Prop} (a : ¬ p → A) (b : p → B) : if (!decide p) = true then A else B := by
  by_cases h : p
  · rw [decide_eq_true h]; exact L_F (b h)
  · rw [decide_eq_false h]; exact L_T (a h)
theorem L_ndT {p : Prop} [Decidable p] {A B : Prop} (h : ¬ p) (a : A) : if (!decide p) = true then A else B := by rw [decide_eq_false h]; exact L_T a
theorem L_ndF {p : Prop} [Decidable p] {A B : Prop} (h : p) (b : B) : if (!decide p) = true then A else B := by rw [decide_eq_true h]; exact L_F b
theorem L_b {k : Bool} {A B : Prop} (a : k = true → A) (b : k = false → B) : if k = true then A else B := by
  cases k with
  | true => exact L_T (a rfl)
  | false => exact L_F (b rfl)
theorem L_nT {A B : Prop} (b : B) : if (!true) = true then A else B := L_F b
theorem L_nF {A B : Prop} (a : A) : if (!false) = true then A else B := L_T a
theorem L_nil {Q : List V → Hp → Prop} (q : Q [] H) : tNil σ H Q := q
theorem L_cons {Q : List V → Hp → Prop} (h : ta σ H fun x H1 => tr σ H1 fun xs H2 => Q (x :: xs) H2) : tCons ta tr σ H Q := h
theorem L_tup (h : tr σ H fun xs H1 => xs.length ≤ sizeLine ∧ ∀ p, H1 p = none → Q (.ref p) (upd H1 p (.tup xs))) : tTup tr σ H Q := h
theorem L_lst (h : tr σ H fun xs H1 => xs.length ≤ sizeLine ∧ ∀ p, H1 p = none → Q (.ref p) (upd H1 p (.lst xs))) : tLst tr σ H Q := h
theorem L_new {n : Nat} {R : Prop} (hl : n ≤ sizeLine) (q : R) : n ≤ sizeLine ∧ R := ⟨hl, q⟩
theorem L_call {sp : Sp} {E : XK} (h : tr σ H fun vs H1 => sp vs H1 Q E) : tCall sp [] E tr σ H Q := by
  unfold tCall
  simp only [List.append_nil]
  exact h
theorem L_cb {r : List V → Hp → VK → Prop} (h : tr σ H fun vs H1 => r vs H1 Q) : tCB r tr σ H Q := h
theorem L_lenL {a : Addr} {xs : List V} (h : SqL K H a xs) (q : Q (.int xs.length) H) : aLen K [.ref a] H Q := .inl ⟨a, xs, rfl, .inl h, q⟩
theorem L_lenT {a : Addr} {xs : List V} (h : SqT K H a xs) (q : Q (.int xs.length) H) : aLen K [.ref a] H Q := .inl ⟨a, xs, rfl, .inr h, q⟩
theorem L_lenS {z : Str} (h : z.length ≤ sizeLine) (q : Q (.int z.length) H) : aLen K [.str z] H Q := .inr (.inl ⟨z, rfl, h, q⟩)
theorem L_abs {i : Int} (q : Q (.int (if i < 0 then -i else i)) H) : aAbs [.int i] H Q := ⟨i, rfl, q⟩
theorem L_max2 {i j : Int} (q : Q (.int (max i j)) H) : aMax2 [.int i, .int j] H Q := ⟨i, j, rfl, by rw [show (if j > i then j else i) = max i j by omega]; exact q⟩
theorem L_min2 {i j : Int} (q : Q (.int (min i j)) H) : aMin2 [.int i, .int j] H Q := ⟨i, j, rfl, by rw [show (if j < i then j else i) = min i j by omega]; exact q⟩
theorem L_int1 {i : Int} (q : Q (.int i) H) : aInt1 [.int i] H Q := .inl ⟨i, rfl, q⟩
theorem L_int1B {k : Bool} (q : Q (.int (if k then 1 else 0)) H) : aInt1 [.bl k] H Q := .inr ⟨k, rfl, q⟩
theorem L_isi {a n : String} {b : Bool} (hx : TyX K H x (.type a)) (hk : kitB a n = some b) (q : Q (.bl b) H) : rIsi K [x, .ty n] H Q := ⟨x, .ty n, .type a, .type n, b, rfl, .ty n, hx, kit_ty hk, q⟩
theorem L_ixL {p : Addr} {xs : List V} {i : Int} (h : SqL K H p xs) (ha : atI xs i = some v) (q : Q v H) : rIx K (.ref p) (.int i) H Q := .inl ⟨p, xs, i, v, rfl, rfl, h, ha, q⟩
theorem L_ixT {p : Addr} {xs : List V} {i : Int} (h : SqT K H p xs) (ha : atI xs i = some v) (q : Q v H) : rIx K (.ref p) (.int i) H Q := .inr (.inl ⟨p, xs, i, v, rfl, rfl, h, ha, q⟩)
theorem L_ixS {z : Str} {i : Int} {a : Nat} (h : z.length ≤ sizeLine) (ha : atI z.cps.toList i = some a) (q : Q (.str ⟨#[a]⟩) H) : rIx K (.str z) (.int i) H Q := .inr (.inr ⟨z, i, a, rfl, rfl, h, ha, q⟩)
theorem L_bm {T : String} {r : V → List V → Hp → VK → Prop} (h : te σ H fun x H1 => tyV K T x H1 ∧ tr σ H1 fun xs H2 => r x xs H2 Q) : tBM K T r te tr σ H Q := h
theorem L_tyL {a : Addr} {xs : List V} {R : Prop} (h : SqL K H a xs) (q : R) : tyV K "list" (.ref a) H ∧ R := ⟨.inl ⟨rfl, xs, h⟩, q⟩
theorem L_app {a : Addr} {xs : List V} (h : H a = some (.lst xs)) (hl : xs.length < sizeLine) (q : Q .non (upd H a (.lst (xs ++ [v])))) : rAppend (.ref a) [v] H Q := ⟨a, xs, v, rfl, rfl, h, hl, q⟩
theorem L_sum {a : Addr} {ns : List Int} (h : SqL K H a (ns.map V.int)) (q : Q (.int ns.sum) H) : rSum K [.ref a] H Q := ⟨a, ns, rfl, h, q⟩
theorem L_while (W : Nat → L2.St → Hp → Prop) (h0 : ∃ m, W m σ H) (hs : ∀ m σ H, W m σ H → c σ H fun b H1 => if b = true then ∃ M : L2.St → Hp → Prop, (∀ σ' H', M σ' H' → ∃ m', m' < m ∧ W m' σ' H') ∧ t ⟨M, R, N, M⟩ σ H1 else N σ H1) : tWhile c t ⟨N, R, B, C⟩ σ H := ⟨W, h0, hs⟩
theorem L_N {W : Nat → L2.St → Hp → Prop} {m : Nat} (h : t ⟨fun σ' H' => ∃ m', m' < m ∧ W m' σ' H', R, N, fun σ' H' => ∃ m', m' < m ∧ W m' σ' H'⟩ σ H) :
    ∃ M : L2.St → Hp → Prop, (∀ σ' H', M σ' H' → ∃ m', m' < m ∧ W m' σ' H') ∧ t ⟨M, R, N, M⟩ σ H := ⟨_, fun _ _ h => h, h⟩
theorem L_cut {Mid : L2.St → Hp → Prop} (h : t ⟨Mid, R, B, C⟩ σ H) (k : ∀ σ' H', Mid σ' H' → u ⟨N, R, B, C⟩ σ' H') : Evl.tCut t u ⟨N, R, B, C⟩ σ H := ⟨Mid, h, k⟩
theorem L_for {wi : TI} (h : wi σ H fun J H1 => ∃ W : Nat → Nat → L2.St → Hp → Prop, (∃ m, W 0 m σ H1) ∧ ∀ i m σ H, W i m σ H →
      (J.stop i H ∧ N σ H) ∨ (J.go i H ∧ ∃ M : L2.St → Hp → Prop, (∀ σ' H', M σ' H' → ∃ m', m' < m ∧ W (i + 1) m' σ' H') ∧ ∀ x H', J.yld i H x H' → g x σ H' fun σ2 H2 => t ⟨M, R, N, M⟩ σ2 H2)) : tFor wi g t ⟨N, R, B, C⟩ σ H := h
theorem L_iRng1 {R : It → Hp → Prop} (h : tr σ H fun vs H1 => ∃ j : Int, vs = [.int j] ∧ -(2 ^ 62) ≤ j ∧ j < 2 ^ 62 ∧ R (Itr 0 j.toNat) H1) : iRng1 tr σ H R := h
theorem L_iRng2 {R : It → Hp → Prop} (h : tr σ H fun vs H1 => ∃ i j : Int, vs = [.int i, .int j] ∧ (-(2 ^ 62) ≤ i ∧ i < 2 ^ 62 ∧ -(2 ^ 62) ≤ j ∧ j < 2 ^ 62) ∧ R (Itr i (j - i).toNat) H1) : iRng2 tr σ H R := h
theorem L_iList {R : It → Hp → Prop} (h : te σ H fun x H1 => ∃ a, x = .ref a ∧ (∃ xs, SqL K H1 a xs) ∧ R (Itl K a) H1) : iList K te σ H R := h
theorem L_iTup {R : It → Hp → Prop} (h : te σ H fun x H1 => ∃ a, x = .ref a ∧ (∃ xs, SqT K H1 a xs) ∧ R (Itt K a) H1) : iTup K te σ H R := h
theorem L_r1 {n : Int} {R : Int → Prop} (h1 : -(2 ^ 62) ≤ n) (h2 : n < 2 ^ 62) (q : R n) : ∃ j : Int, [V.int n] = [V.int j] ∧ -(2 ^ 62) ≤ j ∧ j < 2 ^ 62 ∧ R j := ⟨n, rfl, h1, h2, q⟩
theorem L_r2 {a n : Int} {R : Int → Int → Prop} (h : -(2 ^ 62) ≤ a ∧ a < 2 ^ 62 ∧ -(2 ^ 62) ≤ n ∧ n < 2 ^ 62) (q : R a n) : ∃ i j : Int, [V.int a, V.int n] = [V.int i, V.int j] ∧ (-(2 ^ 62) ≤ i ∧ i < 2 ^ 62 ∧ -(2 ^ 62) ≤ j ∧ j < 2 ^ 62) ∧ R i j := ⟨a, n, rfl, h, q⟩
theorem L_rl {a : Addr} {xs : List V} {R : Addr → Prop} (h : SqL K H a xs) (q : R a) : ∃ b, V.ref a = V.ref b ∧ (∃ xs, SqL K H b xs) ∧ R b := ⟨a, rfl, ⟨xs, h⟩, q⟩
theorem L_rt {a : Addr} {xs : List V} {R : Addr → Prop} (h : SqT K H a xs) (q : R a) : ∃ b, V.ref a = V.ref b ∧ (∃ xs, SqT K H b xs) ∧ R b := ⟨a, rfl, ⟨xs, h⟩, q⟩
end
theorem sz_dec {n : Nat} (h : n ≤ 1000000) : n ≤ sizeLine := Nat.le_trans h (by decide)
theorem sz_lt {n : Nat} (h : n < 1000000) : n < sizeLine := Nat.lt_of_lt_of_le h (by decide)
/-! ### sizes of ints -/
/-- less than n bits -/
def Bd (n : Nat) (i : Int) : Prop := i.natAbs < 2 ^ n
theorem Bd.mono {n m : Nat} {i : Int} (h : Bd n i) (hm : n ≤ m) : Bd m i := Nat.lt_of_lt_of_le h (Nat.pow_le_pow_right (by decide) hm)
theorem Bd.mul {n m : Nat} {i j : Int} (h : Bd n i) (k : Bd m j) : Bd (n + m) (i * j) := wide_lt h k
theorem Bd.add {n m : Nat} {i j : Int} (h : Bd n i) (k : Bd m j) : Bd (max n m + 1) (i + j) := by
  have a := h.mono (Nat.le_max_left n m)
  have b := k.mono (Nat.le_max_right n m)
  unfold Bd at *
  rw [Nat.pow_succ]
  have := Int.natAbs_add_le i j
  omega
theorem Bd.neg {n : Nat} {i : Int} (h : Bd n i) : Bd n (-i) := by unfold Bd at *; rw [Int.natAbs_neg]; exact h
theorem Bd.sub {n m : Nat} {i j : Int} (h : Bd n i) (k : Bd m j) : Bd (max n m + 1) (i - j) := by
  rw [Int.sub_eq_add_neg]; exact h.add k.neg
theorem Bd.cmul {n m : Nat} {i j : Int} (h : Bd n i) (k : Bd m j) (hz : n + m + 2 ≤ 1000000 := by decide) : CMulW i j :=
  wide_mul (h.mono (Nat.le_succ n)) (k.mono (Nat.le_succ m)) (Nat.succ_pos _) (Nat.succ_pos _) (by omega)
theorem Bd.cdiv {n : Nat} {i j : Int} (k : Bd n j) (h : 0 < j) (hz : n + 1 ≤ 9000 := by decide) : CDivW i j := wide_div h (k.mono (Nat.le_succ n)) (Nat.succ_pos _) hz
theorem bd_lit {i : Int} (h : -4294967296 < i ∧ i < 4294967296) : Bd 32 i := by
  unfold Bd
  have : (2 : Nat) ^ 32 = 4294967296 := by decide
  omega
theorem bd_64 {i : Int} (h : -18446744073709551616 < i ∧ i < 18446744073709551616) : Bd 64 i := by
  unfold Bd
  have : (2 : Nat) ^ 64 = 18446744073709551616 := by decide
  omega
/-- an item of the script, or what stands in its place -/
def cellAt (ns : List Int) (k d : Int) : Int := if k < (ns.length : Int) then ns.getD k.toNat 0 else d
theorem cellAt_in {ns : List Int} {k d : Int} (h0 : 0 ≤ k) (h : k < (ns.length : Int)) : atI (ns.map V.int) k = some (V.int (cellAt ns k d)) := by
  obtain ⟨j, rfl⟩ : ∃ j : Nat, k = (j : Int) := ⟨k.toNat, by omega⟩
  have hl : j < ns.length := by omega
  unfold cellAt
  rw [if_pos h]
  refine atI_nat ?_
  rw [List.getElem?_map, List.getElem?_eq_getElem hl]
  simp [List.getD, List.getElem?_eq_getElem hl]
theorem cellAt_out {ns : List Int} {k d : Int} (h : ¬ k < (ns.length : Int)) : cellAt ns k d = d := if_neg h
theorem cellAt_mem {ns : List Int} {k d : Int} (h0 : 0 ≤ k) : cellAt ns k d ∈ ns ∨ cellAt ns k d = d := by
  unfold cellAt
  split
  · rename_i h
    have hl : k.toNat < ns.length := by omega
    left
    simp [List.getD, List.getElem?_eq_getElem hl]
  · exact .inr rfl
theorem _root_.L2.Same.seqT {K : PySem.W.Frag} {H H' : Hp} {a : Addr} {xs : List V} (e : Same H H') (h : SqT K H a xs) : SqT K H' a xs := by
  rcases h with (h | ⟨o, h⟩) | h
  · exact .inl (.inl (e _ _ h))
  · exact .inl (.inr ⟨o, e _ _ h⟩)
  · exact .inr h
/-! ### what is walked: more -/
section
variable {K : PySem.W.Frag} {σ : L2.St} {H : Hp} {te : TE} {tr : TA} {Q : VK} {g : TG} {tt : TT}
theorem L_yes {Q : Bool → Hp → Prop} (q : Q true H) : tYes σ H Q := q
theorem L_iZip {R : It → Hp → Prop} (h : tr σ H fun vs H1 => ∃ a b xs ys, vs = [.ref a, .ref b] ∧ SqL K H1 a xs ∧ SqL K H1 b ys ∧ R (Itz K a b) H1) : iZip K tr σ H R := h
theorem L_iEnum {R : It → Hp → Prop} (h : tr σ H fun vs H1 => ∃ a xs, vs = [.ref a] ∧ SqL K H1 a xs ∧ R (Ite K a) H1) : iEnum K tr σ H R := h
theorem L_iStr {R : It → Hp → Prop} (h : te σ H fun v H1 => ∃ x, v = .str x ∧ R (Its x) H1) : iStr te σ H R := h
theorem L_iRng3 {R : It → Hp → Prop} (h : tr σ H fun vs H1 => ∃ (i j c : Int) (n : Nat), vs = [.int i, .int j, .int c] ∧ RgC i j c n ∧ R (Itc i c n) H1) : iRng3 tr σ H R := h
theorem L_rz {a b : Addr} {xs ys : List V} {R : Addr → Addr → Prop} (h1 : SqL K H a xs) (h2 : SqL K H b ys) (q : R a b) : ∃ a' b' xs ys, [V.ref a, V.ref b] = [.ref a', .ref b'] ∧ SqL K H a' xs ∧ SqL K H b' ys ∧ R a' b' := ⟨a, b, xs, ys, rfl, h1, h2, q⟩
theorem L_re {a : Addr} {xs : List V} {R : Addr → Prop} (h1 : SqL K H a xs) (q : R a) : ∃ a' xs, [V.ref a] = [.ref a'] ∧ SqL K H a' xs ∧ R a' := ⟨a, xs, rfl, h1, q⟩
theorem L_rs {z : Str} {R : Str → Prop} (q : R z) : ∃ x, V.str z = .str x ∧ R x := ⟨z, rfl, q⟩
theorem L_r3 {i j c : Int} {n : Nat} {R : Int → Int → Nat → Prop} (h : RgC i j c n) (q : R i c n) : ∃ (i' j' c' : Int) (n : Nat), [V.int i, V.int j, V.int c] = [.int i', .int j', .int c'] ∧ RgC i' j' c' n ∧ R i' c' n := ⟨i, j, c, n, rfl, h, q⟩
theorem L_lc {wi : TI} {vs : List Nat} (h : wi σ H fun J H1 => ∀ D, H1 D = none → ∃ W : Nat → Nat → Hp → Prop, (∃ m, W 0 m (upd H1 D (.lst []))) ∧ ∀ i m H, W i m H →
  (J.stop i H ∧ Q (.ref D) H) ∨ (J.go i H ∧ ∃ Nx : Hp → Prop, (∀ H', Nx H' → ∃ m', m' < m ∧ W (i + 1) m' H') ∧ ∀ x H', J.yld i H x H' → g x (wipe σ vs) H' fun σ2 H2 => wipe σ2 vs = wipe σ vs ∧ tt σ2 H2 fun b H3 =>
    if b = true then te σ2 H3 fun y H4 => ∃ acc, H4 D = some (.lst acc) ∧ acc.length < sizeLine ∧ Nx (upd H4 D (.lst (acc ++ [y]))) else Nx H3)) : tLc wi g tt te vs σ H Q := h
theorem fm_succ (f : Nat → Option V) (i : Nat) : (List.range (i + 1)).filterMap f = (List.range i).filterMap f ++ (match f i with | some y => [y] | none => []) := by
  rw [List.range_succ, List.filterMap_append]
  cases h : f i <;> simp [h]
theorem fm_len (f : Nat → Option V) (i : Nat) : ((List.range i).filterMap f).length ≤ i := by
  have := List.length_filterMap_le f (List.range i)
  simpa using this
/-- a comprehension whose things are told one by one: f i is what turn i gives, none where its test is false -/
theorem lc_fm {J : It} {n : Nat} {G : Hp → Prop} {Y : Nat → Hp → V → Hp → Prop} (w : L2.Walk J n G Y) {vs : List Nat} {Qd : Addr → Hp → Prop} (f : Nat → Option V) (hn : n ≤ 1000000) (hG : ∀ H', Same H H' → G H')
    (hs : ∀ i x H2 H' (R : V → Hp → Prop) (R' : Hp → Prop), i < n → Same H H2 → Y i H2 x H' → (∀ y H4, f i = some y → Same H2 H4 → R y H4) → (∀ H3, f i = none → Same H2 H3 → R' H3) →
      g x (wipe σ vs) H' fun σ2 H2 => wipe σ2 vs = wipe σ vs ∧ tt σ2 H2 fun b H3 => if b = true then te σ2 H3 R else R' H3)
    (q : ∀ p H', H p = none → Same H H' → H' p = some (.lst ((List.range n).filterMap f)) → Qd p H') :
    ∀ D, H D = none → ∃ W : Nat → Nat → Hp → Prop, (∃ m, W 0 m (upd H D (.lst []))) ∧ ∀ i m H, W i m H →
      (J.stop i H ∧ Qd D H) ∨ (J.go i H ∧ ∃ Nx : Hp → Prop, (∀ H', Nx H' → ∃ m', m' < m ∧ W (i + 1) m' H') ∧ ∀ x H', J.yld i H x H' → g x (wipe σ vs) H' fun σ2 H2 => wipe σ2 vs = wipe σ vs ∧ tt σ2 H2 fun b H3 =>
        if b = true then te σ2 H3 fun y H4 => ∃ acc, H4 D = some (.lst acc) ∧ acc.length < sizeLine ∧ Nx (upd H4 D (.lst (acc ++ [y]))) else Nx H3) := by
  intro D hD
  refine lc_it w (fun i H2 => Same H H2 ∧ H2 D = some (.lst ((List.range i).filterMap f))) ⟨same_new hD, upd_same⟩ (fun i H2 _ p => hG H2 p.1) ?_ (fun H2 p => q D H2 hD p.1 p.2)
  intro i x H2 H' hi ⟨p1, p2⟩ y
  refine hs i x H2 H' _ _ hi p1 y (fun y H4 e s => ?_) (fun H3 e s => ?_)
  · refine ⟨_, s _ _ p2, sz_lt (by have := fm_len f i; omega), ?_, ?_⟩
    · intro b o hb
      rw [upd_ne (ne_of_none hb hD)]
      exact s _ _ (p1 _ _ hb)
    · rw [fm_succ, e]; exact upd_same
  · refine ⟨p1.trans s, ?_⟩
    rw [fm_succ, e, List.append_nil]
    exact s _ _ p2
theorem fm_map {α : Type} (f : Nat → α) (h : α → V) (n : Nat) : (List.range n).filterMap (fun i => some (h (f i))) = ((List.range n).map f).map h := by
  rw [List.map_map]
  induction n with
  | zero => rfl
  | succ n ih => rw [fm_succ (fun i => some (h (f i))), ih, List.range_succ, List.map_append]; rfl
theorem rgC_up {i j c : Int} (hc : 0 < c) (hc2 : c < 1000000) (hi : -1000000000 ≤ i ∧ i ≤ 1000000000) (hj : -1000000000 ≤ j ∧ j ≤ 1000000000) : RgC i j c (if i < j then ((j - i - 1) / c + 1).toNat else 0) := by
  have e : Builtin.Range.rangeSize i j c = ((if i < j then ((j - i - 1) / c + 1).toNat else 0 : Nat) : Int) := by
    unfold Builtin.Range.rangeSize
    rw [if_pos (by omega)]
    split
    · have : 0 ≤ (j - i - 1) / c := Int.ediv_nonneg (by omega) (by omega)
      omega
    · rfl
  refine ⟨by omega, by omega, ?_, e⟩
  unfold Builtin.Range.small
  rw [e]
  have hz : ((if i < j then ((j - i - 1) / c + 1).toNat else 0 : Nat) : Int) * c ≤ 4000000000 ∧ ((if i < j then ((j - i - 1) / c + 1).toNat else 0 : Nat) : Int) ≤ 4000000000 ∧ 0 ≤ ((if i < j then ((j - i - 1) / c + 1).toNat else 0 : Nat) : Int) := by
    split
    · have h0 : 0 ≤ (j - i - 1) / c := Int.ediv_nonneg (by omega) (by omega)
      have h1 : (j - i - 1) / c * c ≤ j - i - 1 := Int.ediv_mul_le _ (by omega)
      have h2 : (j - i - 1) / c ≤ j - i - 1 := Int.ediv_le_self _ (by omega)
      have h3 : (((j - i - 1) / c + 1).toNat : Int) = (j - i - 1) / c + 1 := by omega
      rw [h3, Int.add_mul]
      omega
    · simp
  generalize ((if i < j then ((j - i - 1) / c + 1).toNat else 0 : Nat) : Int) = n at *
  simp only [Builtin.Range.rangeFitsLong, Bool.and_eq_true, Bool.or_eq_true, decide_eq_true_eq, beq_iff_eq]
  refine ⟨by omega, .inr ?_⟩
  rw [if_pos (by omega), Bool.and_eq_true, decide_eq_true_eq, decide_eq_true_eq]
  omega
/-- what making an instance asks -/
def MakeP (C : Addr) (sp : Sp) (E : XK) (vs : List V) (H : Hp) (Q : VK) : Prop := ∀ x dx, H x = none → H dx = none → dx ≠ x → sp (.ref x :: vs) (upd (upd H dx (.own x)) x (.ins C dx [])) (fun v H2 => v = .non ∧ Q (.ref x) H2) E
theorem L_make {C : Addr} {sp : Sp} {E : XK} (h : tr σ H fun vs H1 => MakeP C sp E vs H1 Q) : tMake C sp [] E tr σ H Q := by
  unfold tMake
  simp only [List.append_nil]
  exact h
/-- a new instance: all that stood stands -/
def NewI (H : Hp) (C : Addr) (fs : List (Str × V)) (Q : VK) : Prop := ∀ p H' dx, H p = none → Same H H' → H' p = some (.ins C dx fs) → Q (.ref p) H'
theorem L_gTup {n : Nat} {t : TGs} {a : Addr} {xs : List V} {Q : L2.St → Hp → Prop} (h : SqT K H a xs) (hn : xs.length = n) (q : t xs σ H Q) : gTup K n t (.ref a) σ H Q := ⟨a, xs, rfl, h, hn, q⟩
theorem L_gLst {n : Nat} {t : TGs} {a : Addr} {xs : List V} {Q : L2.St → Hp → Prop} (h : SqL K H a xs) (hn : xs.length = n) (q : t xs σ H Q) : gLst K n t (.ref a) σ H Q := ⟨a, xs, rfl, h, hn, q⟩
theorem L_gCons {v : V} {r : List V} {t : TG} {u : TGs} {Q : L2.St → Hp → Prop} (q : t v σ H fun σ' H' => u r σ' H' Q) : gCons t u (v :: r) σ H Q := ⟨v, r, rfl, q⟩
theorem L_gNil {Q : L2.St → Hp → Prop} (q : Q σ H) : gNil [] σ H Q := ⟨rfl, q⟩
theorem L_sub {to ti : TE} {t : TSet} {v : V} {Q : L2.St → Hp → Prop} (h : to σ H fun o H1 => ti σ H1 fun i H2 => t o i v H2 fun H3 => Q σ H3) : gSub to ti t v σ H Q := h
theorem L_setL {p : Addr} {xs : List V} {k : Int} {j : Nat} {v : V} {Q : Hp → Prop} (h : H p = some (.lst xs)) (hj : ixN xs.length k = some j) (q : Q (upd H p (.lst (xs.set j v)))) : rSetL (.ref p) (.int k) v H Q := ⟨p, xs, k, j, rfl, rfl, h, hj, q⟩
theorem ixN_of {n : Nat} {k : Int} (h0 : 0 ≤ k) (h : k < n) : ixN n k = some k.toNat := by
  unfold ixN
  rw [if_pos h0, if_pos h]
theorem L_sFld {f : Str} {ta tv : TE} {N B C' : L2.St → Hp → Prop} {R : VK} (h : tv σ H fun y H1 => ta σ H1 fun x H2 => ∃ a C dx fs, x = .ref a ∧ H2 a = some (.ins C dx fs) ∧ Cls K C ∧ NoAttr K C f ∧ fs.length < 1000 ∧ N σ (upd H2 a (.ins C dx (putF f y fs)))) : sFld K ta tv f ⟨N, R, B, C'⟩ σ H := h
theorem L_sFldv {a C dx : Addr} {fs : List (Str × V)} {f : Str} {Q : Addr → Addr → Addr → List (Str × V) → Prop} (h : H a = some (.ins C dx fs)) (cl : Cls K C) (n : NoAttr K C f) (l : fs.length < 1000) (q : Q a C dx fs) :
    ∃ a' C dx fs, V.ref a = V.ref a' ∧ H a' = some (.ins C dx fs) ∧ Cls K C ∧ NoAttr K C f ∧ fs.length < 1000 ∧ Q a' C dx fs := ⟨a, C, dx, fs, rfl, h, cl, n, l, q⟩
theorem L_repL {a : Addr} {xs : List V} {k : Int} (h : H a = some (.lst xs)) (h1 : -(2 ^ 63) ≤ k) (h2 : k < 2 ^ 63) (h3 : xs.length * k.toNat ≤ sizeLine) (q : ∀ p, H p = none → Q (.ref p) (upd H p (.lst (List.replicate k.toNat xs).flatten))) : aMul (.ref a) (.int k) H Q := .inr ⟨a, k, xs, rfl, rfl, h, h1, h2, h3, q⟩
theorem atI_int {xs : List V} {k : Int} {v : V} (h0 : 0 ≤ k) (h : xs[k.toNat]? = some v) : atI xs k = some v := by
  obtain ⟨j, rfl⟩ : ∃ j : Nat, k = (j : Int) := ⟨k.toNat, by omega⟩
  exact atI_nat h
theorem atI_ints {xs : List Int} {k : Int} (h0 : 0 ≤ k) (h : k < xs.length) : atI (xs.map V.int) k = some (.int (xs.getD k.toNat 0)) := by
  refine atI_int h0 ?_
  have hl : k.toNat < xs.length := by omega
  rw [List.getElem?_map, List.getElem?_eq_getElem hl]
  simp [List.getD, List.getElem?_eq_getElem hl]
theorem L_nw {xs : List V} {R : Prop} (q : R) (hl : xs.length ≤ 1000000 := by simp) : xs.length ≤ sizeLine ∧ R := ⟨sz_dec hl, q⟩
end
theorem fm_succ' {α : Type} (f : Nat → Option α) (i : Nat) : (List.range (i + 1)).filterMap f = (List.range i).filterMap f ++ (match f i with | some y => [y] | none => []) := by
  rw [List.range_succ, List.filterMap_append]
  cases h : f i <;> simp [h]
theorem fm_len' {α : Type} (f : Nat → Option α) (i : Nat) : ((List.range i).filterMap f).length ≤ i := by
  have := List.length_filterMap_le f (List.range i)
  simpa using this
/-! ### data as trees -/
mutual
theorem Dp_same {K : PySem.W.Frag} {H H' : Hp} (e : Same H H') : ∀ (d : PyData) {v : V}, Dp K H v d → Dp K H' v d
  | .none, _, h => by cases h; exact .non
  | .bool b, _, h => by cases h; exact .bl b
  | .int i, _, h => by cases h; exact .int i
  | .str x, _, h => by cases h; exact .str x
  | .list ds, _, h => by cases h with | lst hs ha => exact .lst (e.seq hs) (DpAll_same e ds ha)
  | .tuple ds, _, h => by cases h with | tup hs ha => exact .tup (e.seqT hs) (DpAll_same e ds ha)
  | .dict _, _, h => by cases h
theorem DpAll_same {K : PySem.W.Frag} {H H' : Hp} (e : Same H H') : ∀ (ds : List PyData) {vs : List V}, DpAll K H vs ds → DpAll K H' vs ds
  | [], _, h => by cases h; exact .nil
  | d :: ds, _, h => by cases h with | cons h1 h2 => exact .cons (Dp_same e d h1) (DpAll_same e ds h2)
end
section
variable {K : PySem.W.Frag} {H H' : Hp} {v : V} {vs : List V} {d : PyData} {ds : List PyData}
theorem _root_.L2.Dp.same (h : Dp K H v d) (e : Same H H') : Dp K H' v d := Dp_same e d h
theorem _root_.L2.DpAll.same (h : DpAll K H vs ds) (e : Same H H') : DpAll K H' vs ds := DpAll_same e ds h
theorem _root_.L2.DpAll.len : ∀ {ds : List PyData} {vs : List V}, DpAll K H vs ds → vs.length = ds.length
  | [], _, h => by cases h; rfl
  | d :: ds, _, h => by cases h with | cons h1 h2 => rw [List.length_cons, List.length_cons, h2.len]
theorem _root_.L2.DpAll.at : ∀ {ds : List PyData} {vs : List V} {i : Nat}, DpAll K H vs ds → ds[i]? = some d → ∃ v, vs[i]? = some v ∧ Dp K H v d
  | [], _, i, h, e => by simp at e
  | c :: ds, _, 0, h, e => by
    cases h with
    | cons h1 h2 =>
      rename_i v vs
      have : c = d := by simpa using e
      subst this
      exact ⟨v, by simp, h1⟩
  | c :: ds, _, i + 1, h, e => by
    cases h with
    | cons h1 h2 =>
      obtain ⟨v, q1, q2⟩ := h2.at (i := i) (by simpa using e)
      exact ⟨v, by simpa using q1, q2⟩
theorem _root_.L2.DpAll.of : ∀ {ds : List PyData} {vs : List V} {i : Nat}, DpAll K H vs ds → vs[i]? = some v → ∃ d, ds[i]? = some d ∧ Dp K H v d
  | [], _, i, h, e => by cases h; simp at e
  | c :: ds, _, 0, h, e => by
    cases h with
    | cons h1 h2 =>
      rename_i w vs
      have : w = v := by simpa using e
      subst this
      exact ⟨c, by simp, h1⟩
  | c :: ds, _, i + 1, h, e => by
    cases h with
    | cons h1 h2 =>
      obtain ⟨d, q1, q2⟩ := h2.of (i := i) (by simpa using e)
      exact ⟨d, by simpa using q1, q2⟩
theorem _root_.L2.DpAll.app : ∀ {ds es : List PyData} {vs us : List V}, DpAll K H vs ds → DpAll K H us es → DpAll K H (vs ++ us) (ds ++ es)
  | [], _, _, _, h, g => by cases h; exact g
  | d :: ds, _, _, _, h, g => by cases h with | cons h1 h2 => exact .cons h1 (h2.app g)
theorem _root_.L2.DpAll.snoc (h : DpAll K H vs ds) (g : Dp K H v d) : DpAll K H (vs ++ [v]) (ds ++ [d]) := h.app (.cons g .nil)
theorem dp_ints : ∀ (ns : List Int), DpAll K H (ns.map V.int) (ns.map PyData.int)
  | [] => .nil
  | n :: ns => .cons (.int n) (dp_ints ns)
theorem dp_strs : ∀ (ns : List Str), DpAll K H (ns.map V.str) (ns.map PyData.str)
  | [] => .nil
  | n :: ns => .cons (.str n) (dp_strs ns)
theorem of_ints : ∀ {ns : List Int} {vs : List V}, DpAll K H vs (ns.map PyData.int) → vs = ns.map V.int
  | [], _, h => by cases h; rfl
  | n :: ns, _, h => by
    cases h with
    | cons h1 h2 => cases h1; rw [of_ints h2]; rfl
theorem of_strs : ∀ {ns : List Str} {vs : List V}, DpAll K H vs (ns.map PyData.str) → vs = ns.map V.str
  | [], _, h => by cases h; rfl
  | n :: ns, _, h => by
    cases h with
    | cons h1 h2 => cases h1; rw [of_strs h2]; rfl
theorem of_tup (h : Dp K H v (.tuple ds)) : ∃ a xs, v = .ref a ∧ SqT K H a xs ∧ DpAll K H xs ds := by
  cases h with | tup h1 h2 => exact ⟨_, _, rfl, h1, h2⟩
theorem of_lst (h : Dp K H v (.list ds)) : ∃ a xs, v = .ref a ∧ SqL K H a xs ∧ DpAll K H xs ds := by
  cases h with | lst h1 h2 => exact ⟨_, _, rfl, h1, h2⟩
theorem of_int {i : Int} (h : Dp K H v (.int i)) : v = .int i := by cases h; rfl
theorem of_str {i : Str} (h : Dp K H v (.str i)) : v = .str i := by cases h; rfl
theorem of_bl {i : Bool} (h : Dp K H v (.bool i)) : v = .bl i := by cases h; rfl
theorem of_non (h : Dp K H v .none) : v = .non := by cases h; rfl
theorem of_t2 {d e : PyData} (h : Dp K H v (.tuple [d, e])) : ∃ a x y, v = .ref a ∧ SqT K H a [x, y] ∧ Dp K H x d ∧ Dp K H y e := by
  obtain ⟨a, xs, rfl, h1, h2⟩ := of_tup h
  cases h2 with
  | cons p1 p2 => cases p2 with | cons p3 p4 => cases p4; exact ⟨a, _, _, rfl, h1, p1, p3⟩
theorem of_t3 {d e f : PyData} (h : Dp K H v (.tuple [d, e, f])) : ∃ a x y z, v = .ref a ∧ SqT K H a [x, y, z] ∧ Dp K H x d ∧ Dp K H y e ∧ Dp K H z f := by
  obtain ⟨a, xs, rfl, h1, h2⟩ := of_tup h
  cases h2 with
  | cons p1 p2 => cases p2 with | cons p3 p4 => cases p4 with | cons p5 p6 => cases p6; exact ⟨a, _, _, _, rfl, h1, p1, p3, p5⟩
theorem of_t4 {d e f g : PyData} (h : Dp K H v (.tuple [d, e, f, g])) : ∃ a x y z w, v = .ref a ∧ SqT K H a [x, y, z, w] ∧ Dp K H x d ∧ Dp K H y e ∧ Dp K H z f ∧ Dp K H w g := by
  obtain ⟨a, xs, rfl, h1, h2⟩ := of_tup h
  cases h2 with
  | cons p1 p2 => cases p2 with | cons p3 p4 => cases p4 with | cons p5 p6 => cases p6 with | cons p7 p8 => cases p8; exact ⟨a, _, _, _, _, rfl, h1, p1, p3, p5, p7⟩
end
/-- the part of a heap at which P holds -/
noncomputable def rs (P : Addr → Prop) (H : Hp) : Hp := fun a => @ite _ (P a) (Classical.propDecidable _) (H a) none
theorem rs_at {P : Addr → Prop} {H : Hp} {a : Addr} {o : HO} (p : P a) (h : H a = some o) : rs P H a = some o := by unfold rs; rw [if_pos p]; exact h
theorem rs_of {P : Addr → Prop} {H : Hp} {a : Addr} {o : HO} (h : rs P H a = some o) : P a ∧ H a = some o := by
  unfold rs at h
  split at h
  · rename_i p; exact ⟨p, h⟩
  · cases h
theorem rs_same {P P' : Addr → Prop} {H H' : Hp} (h : ∀ a o, P a → H a = some o → P' a ∧ H' a = some o) : Same (rs P H) (rs P' H') := fun a o e => by
  obtain ⟨p, q⟩ := rs_of e
  obtain ⟨p', q'⟩ := h a o p q
  exact rs_at p' q'
theorem rs_sub {P : Addr → Prop} {H : Hp} : Same (rs P H) H := fun a o e => (rs_of e).2
theorem rs_in {P : Addr → Prop} {H H' : Hp} (h : ∀ a o, P a → H a = some o → H' a = some o) : Same (rs P H) H' := fun a o e => h a o (rs_of e).1 (rs_of e).2
theorem rs_all {P : Addr → Prop} {H H' : Hp} (h : ∀ a o, H a = some o → P a ∧ H' a = some o) : Same H (rs P H') := fun a o e => rs_at (h a o e).1 (h a o e).2
/-- a list that changes: what stood ahead of it stands -/
theorem same_mut {H H' : Hp} {a : Addr} {o : HO} (e : Same H H') (h : H a = none) : Same H (upd H' a o) := fun b o' q => by
  rw [upd_ne (fun z => by rw [z, h] at q; cases q)]; exact e b o' q
section
variable {K : PySem.W.Frag} {σ : L2.St} {H : Hp} {g : TG} {tt : TT} {te : TE} {tb : TS} {D : Ends} {x y : V} {Q : VK}
theorem L_rlD {v : V} {ds : List PyData} {R : Addr → Prop} (h : Dp K H v (.list ds)) (q : ∀ a, v = .ref a → R a) : ∃ b, v = V.ref b ∧ (∃ xs, SqL K H b xs) ∧ R b := by
  obtain ⟨a, xs, rfl, h1, h2⟩ := of_lst h
  exact ⟨a, rfl, ⟨xs, h1⟩, q a rfl⟩
/-- for x in a list of data -/
theorem for_dp {a : Addr} {ds : List PyData} (h : Dp K H (.ref a) (.list ds)) (Pv : Nat → L2.St → Hp → Prop) (h0 : Pv 0 σ H) (hG : ∀ i σ' H', i ≤ ds.length → Pv i σ' H' → Same H H')
    (hs : ∀ i d x σ' H', i < ds.length → ds[i]? = some d → Pv i σ' H' → Dp K H' x d → g x σ' H' fun σ2 H2 => tb { D with nx := Pv (i + 1), ct := Pv (i + 1), bk := D.nx } σ2 H2) (hd : ∀ σ' H', Pv ds.length σ' H' → D.nx σ' H') :
    ∃ W : Nat → Nat → L2.St → Hp → Prop, (∃ m, W 0 m σ H) ∧ ∀ i m σ H, W i m σ H →
      ((Itl K a).stop i H ∧ D.nx σ H) ∨ ((Itl K a).go i H ∧ ∃ N : L2.St → Hp → Prop, (∀ σ' H', N σ' H' → ∃ m', m' < m ∧ W (i + 1) m' σ' H') ∧ ∀ x H', (Itl K a).yld i H x H' → g x σ H' fun σ2 H2 => tb { D with nx := N, ct := N, bk := D.nx } σ2 H2) := by
  obtain ⟨a', xs, ea, h1, h2⟩ := of_lst h
  cases ea
  have hl := h2.len
  refine for_it walk_list Pv h0 (fun i σ' H' hi p => (hG i σ' H' (by omega) p).seq h1) (fun i x σ' H' H'' hi p ⟨e1, e2⟩ => ?_) (fun σ' H' p => hd σ' H' (by rw [← hl]; exact p))
  subst e1
  obtain ⟨d, e3, e4⟩ := h2.of e2
  exact hs i d x σ' _ (by omega) e3 p (e4.same (hG i σ' _ (by omega) p))
/-- a comprehension: what turn i gives is told as data, or none; the new list's things stand apart from it -/
theorem lc_dp {J : It} {n : Nat} {G : Hp → Prop} {Y : Nat → Hp → V → Hp → Prop} (w : L2.Walk J n G Y) {vs : List Nat} {Qd : Addr → Hp → Prop} (f : Nat → Option PyData) (hn : n ≤ 1000000) (hG : ∀ H', Same H H' → G H')
    (hs : ∀ i x p H2 H' (R : V → Hp → Prop) (R' : Hp → Prop), i < n → H p = none → Same H H2 → (∃ o, H2 p = some o) → Y i H2 x H' → (∀ y d H4, f i = some d → Same H2 H4 → Dp K (rs (· ≠ p) H4) y d → R y H4) → (∀ H3, f i = none → Same H2 H3 → R' H3) →
      g x (wipe σ vs) H' fun σ2 H2 => wipe σ2 vs = wipe σ vs ∧ tt σ2 H2 fun b H3 => if b = true then te σ2 H3 R else R' H3)
    (q : ∀ p H' vs, H p = none → Same H H' → H' p = some (.lst vs) → DpAll K (rs (· ≠ p) H') vs ((List.range n).filterMap f) → Qd p H') :
    ∀ D, H D = none → ∃ W : Nat → Nat → Hp → Prop, (∃ m, W 0 m (upd H D (.lst []))) ∧ ∀ i m H, W i m H →
      (J.stop i H ∧ Qd D H) ∨ (J.go i H ∧ ∃ Nx : Hp → Prop, (∀ H', Nx H' → ∃ m', m' < m ∧ W (i + 1) m' H') ∧ ∀ x H', J.yld i H x H' → g x (wipe σ vs) H' fun σ2 H2 => wipe σ2 vs = wipe σ vs ∧ tt σ2 H2 fun b H3 =>
        if b = true then te σ2 H3 fun y H4 => ∃ acc, H4 D = some (.lst acc) ∧ acc.length < sizeLine ∧ Nx (upd H4 D (.lst (acc ++ [y]))) else Nx H3) := by
  intro D hD
  refine lc_it w (fun i H2 => Same H H2 ∧ ∃ us, H2 D = some (.lst us) ∧ DpAll K (rs (· ≠ D) H2) us ((List.range i).filterMap f)) ⟨same_new hD, [], upd_same, .nil⟩ (fun i H2 _ p => hG H2 p.1) ?_ (fun H2 ⟨p1, us, p2, p3⟩ => q D H2 us hD p1 p2 p3)
  rintro i x H2 H' hi ⟨p1, us, p2, p3⟩ y
  refine hs i x D H2 H' _ _ hi hD p1 ⟨_, p2⟩ y (fun y d H4 e s dy => ?_) (fun H3 e s => ?_)
  · have e4 : Same (rs (· ≠ D) H2) (rs (· ≠ D) H4) := rs_same fun a o h1 h2 => ⟨h1, s _ _ h2⟩
    have e5 : Same (rs (· ≠ D) H4) (rs (· ≠ D) (upd H4 D (.lst (us ++ [y])))) := rs_same fun a o h1 h2 => ⟨h1, by rw [upd_ne h1]; exact h2⟩
    refine ⟨us, s _ _ p2, sz_lt (by have := p3.len; have := fm_len' f i; omega), same_mut (p1.trans s) hD, _, upd_same, ?_⟩
    rw [fm_succ', e]
    exact ((p3.same e4).same e5).snoc (dy.same e5)
  · refine ⟨p1.trans s, us, s _ _ p2, ?_⟩
    rw [fm_succ', e, List.append_nil]
    exact p3.same (rs_same fun a o h1 h2 => ⟨h1, s _ _ h2⟩)
end
/-! ### defs that may raise -/
structure MetX (P : Program) (w : World) (K : PySem.W.Frag) (mg : Str → Option Value) (base : Heap) (k : Nat) (C : Addr) (m : Str) (sp : Sp) : Prop where
  ex : ∃ (f : Addr) (fd : FuncData) (ps : List Str), Cls K C ∧ Meth K C m f ∧ FnOk P w K mg base (L2.CX P w) k f fd ps sp ∧ Binds K fd ps []
structure MakX (P : Program) (w : World) (K : PySem.W.Frag) (mg : Str → Option Value) (base : Heap) (k : Nat) (x : Str) (C : Addr) (sp : Sp) : Prop where
  ex : ∃ (f : Addr) (fd : FuncData) (ps : List Str), Mk K C f ∧ FnOk P w K mg base (L2.CX P w) k f fd ps sp ∧ mg x = some (.ref C) ∧ Binds K fd ps []
section
variable {P : Program} {w : World} {K : PySem.W.Frag} {mg : Str → Option Value} {base : Heap}
theorem MethAt.metX {C : Addr} {m qual : Str} {st : Stmt} {N ps : List Str} {k : Nat} {sp : Sp} (c : Cls K C) (d : MethAt K C m qual st ps) (S : FnScope N ps (defScope st)) (len : ∀ vs H Q E, sp vs H Q E → vs.length = ps.length)
    (hbody : ∀ (f : Addr) (cdv : Value) (A : Around) (outer : List Env) (s : Shared) (H : Hp) (vs : List V) (Q : VK) (E : XK), Room k (A.deeper (envOfC qual (defScope st) s.heap.objs.size f cdv)) → sp vs H Q E →
      ∃ t, PSs (cxOf (L2.CX P w) P w K mg base N qual (defScope st) f cdv A outer s H E) (defBody st) t ∧ t { nx := fun _ H' => Q .non H', rt := Q } (start N vs) H) : MetX P w K mg base (k + 1) C m sp := by
  obtain ⟨f, fd, F, hm, b⟩ := d.ex
  exact ⟨f, fd, ps, c, hm, F.okX S len (hbody f), b⟩
theorem InitAt.makX {x : Str} {C : Addr} {qual : Str} {st : Stmt} {N ps : List Str} {k : Nat} {sp : Sp} (hx : mg x = some (.ref C)) (d : InitAt K C qual st ps) (S : FnScope N ps (defScope st)) (len : ∀ vs H Q E, sp vs H Q E → vs.length = ps.length)
    (hbody : ∀ (f : Addr) (cdv : Value) (A : Around) (outer : List Env) (s : Shared) (H : Hp) (vs : List V) (Q : VK) (E : XK), Room k (A.deeper (envOfC qual (defScope st) s.heap.objs.size f cdv)) → sp vs H Q E →
      ∃ t, PSs (cxOf (L2.CX P w) P w K mg base N qual (defScope st) f cdv A outer s H E) (defBody st) t ∧ t { nx := fun _ H' => Q .non H', rt := Q } (start N vs) H) : MakX P w K mg base (k + 1) x C sp := by
  obtain ⟨f, fd, F, hm, b⟩ := d.ex
  exact ⟨f, fd, ps, hm, F.okX S len (hbody f), hx, b⟩
end
/-- where no exception is wanted -/
theorem passN {X : Cx} (σ : L2.St) : PassesAt (L2.CX X.prog X.w) X σ ((fun _ => E0) σ) := fun pins H s e s' I c => passL pins σ H s e s' I c
/-- x.m(..), C(..), where what is raised is wished for at the caller's slots -/
def tMethE (C : Addr) (m : Str) (sp : Sp) (E : L2.St → XK) (ta : TE) (t : TA) : TE := fun σ H Q => ta σ H fun x H1 => ∃ a dx fs, x = .ref a ∧ H1 a = some (.ins C dx fs) ∧ fs.lookup m = none ∧ t σ H1 fun vs H2 => sp (x :: vs) H2 Q (E σ)
def tMakeE (C : Addr) (sp : Sp) (E : L2.St → XK) (t : TA) : TE := fun σ H Q => t σ H fun vs H1 => ∀ x dx, H1 x = none → H1 dx = none → dx ≠ x →
  sp (.ref x :: vs) (upd (upd H1 dx (.own x)) x (.ins C dx [])) (fun v H2 => v = .non ∧ Q (.ref x) H2) (E σ)
section
variable {X : Cx} {CX : CXT} {k j : Nat} {f C : Addr} {fd : FuncData} {ps : List Str} {x m : Str} {sp : Sp} {p pos apos : Pos} {e o : Expr} {es : List Expr} {ta : TE} {t : TA} {E : L2.St → XK}
theorem run_makeS {pins : List (Addr × Obj)} {σ : L2.St} {H : Hp} {s : Shared} {Q : VK} {us : List Value} {vs : List V} (M : Mk X.K C f) (F : FnOk X.prog X.w X.K X.mg X.base CX k f fd ps sp) (hr : Room (k + 1) X.A) (hb : Binds X.K fd ps [])
    (hx : PassesAt CX X σ (E σ)) (I : Inv X pins σ H s) (r : Vals vs us)
    (h : ∀ x dx, H x = none → H dx = none → dx ≠ x → sp (.ref x :: vs) (upd (upd H dx (.own x)) x (.ins C dx [])) (fun v H2 => v = .non ∧ Q (.ref x) H2) (E σ)) :
    wpAny (model X.prog X.w) X.A (call (.ref C) us) (EP X pins σ Q) X.xe s := by
  -- the new object's place, its dict's place
  obtain ⟨dn, hdn⟩ : ∃ dn, dn = s.heap.objs.size := ⟨_, rfl⟩
  have fresh1 : H dn = none := I.hok.fresh (Nat.le_of_eq hdn.symm)
  have fresh2 : H (dn + 1) = none := I.hok.fresh (Nat.le_succ_of_le (Nat.le_of_eq hdn.symm))
  have asked := h (dn + 1) dn fresh2 fresh1 (Nat.ne_of_lt (Nat.lt_succ_self _))
  have J := Inv.made (C := C) I
  rw [← hdn] at J
  have args : Vals (V.ref (dn + 1) :: vs) (Value.ref (dn + 1) :: us) := .cons rfl r
  have many : (Value.ref (dn + 1) :: us).length = ps.length := args.length.symm.trans (F.len _ _ _ _ asked)
  have bound := hb _ (Value.ref (dn + 1) :: us) J.kIn (by rw [List.append_nil]; exact many)
  rw [List.append_nil] at bound
  subst hdn
  refine wpAny_call (make_map (f := f) I.kIn M.makes M.init (beq_iff_eq.mp M.fn) ?_)
  refine codeAny_mono (F.run _ X.stack _ _ ⟨_, []⟩ _ _ _ (E σ) (hr.make C us []) (J.env0.make C us []) bound args asked) fun out s' ho => ?_
  match out, ho with
  | .error e, ho => exact hx pins _ _ e s' J ho
  | .ok (.ret u), ho =>
    obtain ⟨v, H', J', rel, hv, rest⟩ := J.after ho
    cases hv
    exact ⟨rel, .ref (s.heap.objs.size + 1), H', J', rfl, rest⟩
  | .ok .next, ho => exact ho.elim
  | .ok .brk, ho => exact ho.elim
  | .ok .cont, ho => exact ho.elim
theorem pe_xS (c : CalX X.prog X.w X.K X.mg X.base k x sp) (hr : Room j X.A) (hk : k ≤ j) (hg : Gl X x) (hx : ∀ σ, PassesAt (L2.CX X.prog X.w) X σ (E σ)) (ha : PA X (e :: es) t)
    (hdb : (x == ("__debug__" : Str)) = false := by decide) (he : starEach (e :: es) X.env = (false, eval e X.env) :: starEach es X.env := by rfl) (hpl : (backTo pos (starEach es X.env)).any (·.1) = false := by rfl) :
    PE X (.Call (.Name x p) (e :: es) [] pos) (tCallS sp E t) := by
  obtain ⟨f, fd, ps, F, hm, kp, b⟩ := c.ex
  exact pe_callS F (hr.mono hk) hg hm kp b hx ha hdb he hpl
theorem pe_xMk (c : MakX X.prog X.w X.K X.mg X.base k x C sp) (hr : Room j X.A) (hk : k + 1 ≤ j) (hg : Gl X x) (hx : ∀ σ, PassesAt (L2.CX X.prog X.w) X σ (E σ)) (ha : PA X (e :: es) t)
    (hdb : (x == ("__debug__" : Str)) = false := by decide) (he : starEach (e :: es) X.env = (false, eval e X.env) :: starEach es X.env := by rfl) (hpl : (backTo pos (starEach es X.env)).any (·.1) = false := by rfl) :
    PE X (.Call (.Name x p) (e :: es) [] pos) (tMakeE C sp E t) := by
  obtain ⟨f, fd, ps, M, F, hm, hb⟩ := c.ex
  refine ⟨fun pins s σ H Q I h => ?_⟩
  refine wpAny_Call_Name_kw (ld_glob I hg hm ?_ hdb)
  refine PySem.W.callWith_K (h₀ := X.base) I.ok.mod.kin M.kp (thn (ha.run pos pins s σ H _ I h) fun us s1 ⟨vs, H1, I1, r, q⟩ => ⟨I1.kIn, ?_⟩) he hpl
  exact run_makeS M F (hr.mono hk) hb (hx σ) I1 r q
theorem pe_xMt {pl : Sem Bool} (c : MetX X.prog X.w X.K X.mg X.base k C m sp) (hr : Room j X.A) (hk : k ≤ j) (hx : ∀ σ, PassesAt (L2.CX X.prog X.w) X σ (E σ)) (he : PE X o ta) (ha : PA X (e :: es) t)
    (hst : starEach (e :: es) X.env = (false, eval e X.env) :: starEach es X.env := by rfl) (hpl : (backTo pos (starEach es X.env)).any (·.1) = false := by rfl)
    (ht : eval (.Call (.Attribute o m apos) (e :: es) [] pos) X.env = (do
      let ov ← eval o X.env
      standAt apos.atName
      let (f, first) ← holding [ov] (getMethod ov m pl)
      callWith pos f first (backTo pos (starEach (e :: es) X.env)) (backToKw pos (keywordEach [] X.env))) := by rfl) :
    PE X (.Call (.Attribute o m apos) (e :: es) [] pos) (tMethE C m sp E ta t) := by
  obtain ⟨f, fd, ps, hc, hm, F, hb⟩ := c.ex
  refine ⟨fun pins s σ H Q I h => ?_⟩
  refine PySem.W.methodCall_KW (pl := pl) (thn (he.run pins s σ H _ I h) fun u s1 ⟨x, H1, I1, rx, a, dx, fs, ex, ea, l, q⟩ => ?_) ht
  subst ex
  obtain rfl : u = Value.ref a := rx
  refine getmeth_ok I1 ea hc hm l ?_
  refine PySem.W.callWith_K (first := [.ref a]) (h₀ := X.base) I.ok.mod.kin hm.kp (thn (ha.run pos pins s1 σ H1 _ I1 q) fun us s2 ⟨vs, H2, I2, r, q2⟩ => ⟨I2.kIn, ?_⟩) hst hpl
  exact run_fnS (us := .ref a :: us) (vs := .ref a :: vs) F (hr.mono hk) hb (hx σ) I2 (.cons rfl r) q2
theorem pe_xMt0 {pl : Sem Bool} (c : MetX X.prog X.w X.K X.mg X.base k C m sp) (hr : Room j X.A) (hk : k ≤ j) (hx : ∀ σ, PassesAt (L2.CX X.prog X.w) X σ (E σ)) (he : PE X o ta)
    (ht : eval (.Call (.Attribute o m apos) [] [] pos) X.env = (do
      let ov ← eval o X.env
      standAt apos.atName
      let (f, first) ← holding [ov] (getMethod ov m pl)
      callWith pos f first (backTo pos (starEach [] X.env)) (backToKw pos (keywordEach [] X.env))) := by rfl) :
    PE X (.Call (.Attribute o m apos) [] [] pos) (tMethE C m sp E ta tNil) := by
  obtain ⟨f, fd, ps, hc, hm, F, hb⟩ := c.ex
  refine ⟨fun pins s σ H Q I h => ?_⟩
  refine PySem.W.methodCall_KW (pl := pl) (thn (he.run pins s σ H _ I h) fun u s1 ⟨x, H1, I1, rx, a, dx, fs, ex, ea, l, q⟩ => ?_) ht
  subst ex
  obtain rfl : u = Value.ref a := rx
  refine getmeth_ok I1 ea hc hm l ?_
  exact PySem.W.callWith_K0 (first := [.ref a]) I1.kIn hm.kp (run_fnS (us := [.ref a]) (vs := [.ref a]) F (hr.mono hk) hb (hx σ) I1 (.cons rfl .nil) q)
end
/-- an own exception class that is raised; one that is caught -/
structure ExcAt (K : PySem.W.Frag) (C : Addr) : Prop where
  x : PySem.W.excIn K C [.type "ValueError", .type "Exception", .type "BaseException", .type "object"] "ValueError.__new__" = true
  k : PySem.W.keepIn K (.ref C) = true
  b : PySem.W.subIn K (.ref C) (.type "BaseException") = some true
  t : PySem.W.typeIn K (.ref C) = some (.type "type")
structure ExcK (K : PySem.W.Frag) (C : Addr) : Prop where
  b : PySem.W.subIn K (.ref C) (.type "BaseException") = some true
  i : PySem.W.isClsIn K C = true
  t : PySem.W.typeIn K (.ref C) = some (.type "type")
theorem ExcK.exm {K : PySem.W.Frag} {C D : Addr} {r : Bool} (c : ExcK K C) (h : PySem.W.subIn K (.ref D) (.ref C) = some r) : PySem.W.exmOne K (.ref D) (.ref C) = some r := by
  have e1 : (PySem.W.subIn K (.ref C) (.type "BaseException") == some true) = true := by rw [c.b] <;> rfl
  have e2 : ((PySem.W.clsIn K C).isSome && PySem.W.typeIn K (.ref C) == some (.type "type")) = true := by
    have h2' : (PySem.W.clsIn K C).isSome = true := c.i
    rw [h2', c.t] <;> rfl
  show (if (PySem.W.subIn K (.ref C) (.type "BaseException") == some true) = true then (if ((PySem.W.clsIn K C).isSome && PySem.W.typeIn K (.ref C) == some (.type "type")) = true then PySem.W.subIn K (.ref D) (.ref C) else none) else none) = some r
  rw [if_pos e1, if_pos e2]
  exact h
/-- C() -/
theorem pmk_own0 {X : Cx} {C : Addr} {x : Str} {p pos : Pos} (c : ExcAt X.K C) (gC : X.mg x = some (.ref C)) (hg : Gl X x) (hdb : (x == ("__debug__" : Str)) = false := by decide) :
    PMk X (.Call (.Name x p) [] [] pos) (fun _ H Q => Q (.ref C) none H) := by
  intro pins s σ H Q I h
  refine wpAny_Call_Name_kw (ld_glob I hg gC ?_ hdb)
  refine PySem.W.callWith_K0 I.kIn c.k ?_
  obtain ⟨bm, N, nm, qn, bs, hdct, sn, sub, ab, col, dd, k0, k1, k2, k3, k5, mN, hC, hN, hni, T⟩ := exc_obj I.kIn c.x
  refine wpAny_call_exc_subT PySem.F.excBase_ValueError T hC hN hni (fun h' e hm => ?_) (Nat.zero_le _)
  exact mk_of I hm (raises_own c.b c.t) h (I.hok.gone hm.new)
section
variable {K : PySem.W.Frag} {σ : L2.St} {H : Hp} {ta : TE} {tr : TA} {Q : VK} {E : L2.St → XK} {C : Addr} {m : Str} {sp : Sp}
theorem L_callS (h : tr σ H fun vs H1 => sp vs H1 Q (E σ)) : tCallS sp E tr σ H Q := h
theorem L_methE (h : ta σ H fun x H1 => ∃ a dx fs, x = .ref a ∧ H1 a = some (.ins C dx fs) ∧ fs.lookup m = none ∧ tr σ H1 fun vs H2 => sp (x :: vs) H2 Q (E σ)) : tMethE C m sp E ta tr σ H Q := h
theorem L_makeE (h : tr σ H fun vs H1 => MakeP C sp (E σ) vs H1 Q) : tMakeE C sp E tr σ H Q := h
theorem L_meth {E : XK} (h : ta σ H fun x H1 => ∃ a dx fs, x = .ref a ∧ H1 a = some (.ins C dx fs) ∧ fs.lookup m = none ∧ tr σ H1 fun vs H2 => sp (x :: vs) H2 Q E) : tMeth C m sp [] E ta tr σ H Q := by
  unfold tMeth
  simp only [List.append_nil]
  exact h
theorem L_methv {a dx : Addr} {fs : List (Str × V)} {R : Prop} (h : H a = some (.ins C dx fs)) (l : fs.lookup m = none) (q : R) : ∃ a' dx fs, V.ref a = V.ref a' ∧ H a' = some (.ins C dx fs) ∧ fs.lookup m = none ∧ R := ⟨a, dx, fs, rfl, h, l, q⟩
theorem L_only {c : Value} {ts : Addr → Value → Option Addr → TS} {Wout : WX} {D : Ends} {cls : Value} {d : Option Addr} (h : PySem.W.exmOne K cls c = some true) (q : ∀ a, H a = none → ts a cls d D σ H) : wOnly K c ts Wout D cls d σ H := ⟨true, h, fun _ => q, fun z => nomatch z⟩
end
/-- no whole number: another kind of thing, or a truth -/
def NotW (K : PySem.W.Frag) (H : Hp) (v : V) : Prop := (∃ b, v = .bl b) ∨ ∃ a, TyX K H v (.type a) ∧ kitB a "int" = some false
/-- what is_whole denies -/
def BadW (K : PySem.W.Frag) (H : Hp) (v : V) (lo hi : Int) : Prop := NotW K H v ∨ ∃ t, v = .int t ∧ ¬ (lo ≤ t ∧ t ≤ hi)
section
variable {K : PySem.W.Frag} {H : Hp}
theorem notw_non : NotW K H .non := .inr ⟨_, .base .non, by decide +kernel⟩
theorem notw_bl {b : Bool} : NotW K H (.bl b) := .inl ⟨b, rfl⟩
theorem notw_str {z : Str} : NotW K H (.str z) := .inr ⟨_, .base (.str z), by decide +kernel⟩
theorem notw_lst {a : Addr} {xs : List V} (h : H a = some (.lst xs)) : NotW K H (.ref a) := .inr ⟨_, .base (.lst h), by decide +kernel⟩
theorem notw_tup {a : Addr} {xs : List V} (h : H a = some (.tup xs)) : NotW K H (.ref a) := .inr ⟨_, .base (.tup h), by decide +kernel⟩
theorem notw_dK {a : Addr} {xs : List (Key × V)} (h : H a = some (.dK xs)) : NotW K H (.ref a) := .inr ⟨_, .base (.dK h), by decide +kernel⟩
theorem badw_int {t lo hi : Int} (h : ¬ (lo ≤ t ∧ t ≤ hi)) : BadW K H (.int t) lo hi := .inr ⟨t, rfl, h⟩
theorem NotW.bad {v : V} {lo hi : Int} (h : NotW K H v) : BadW K H v lo hi := .inl h
end
section
variable {K : PySem.W.Frag} {H H' : Hp}
theorem tyx_T {a : Addr} {xs : List V} (h : SqT K H a xs) : TyX K H (.ref a) (.type "tuple") := by
  rcases h with (h | ⟨o, h⟩) | ⟨o, _, _, h, c, _⟩
  · exact .base (.tup h)
  · exact .fTuple h
  · exact .kTuple h c
theorem tyx_L {a : Addr} {xs : List V} (h : SqL K H a xs) : TyX K H (.ref a) (.type "list") := by
  rcases h with (h | ⟨o, h⟩) | ⟨o, _, _, h, c, _⟩
  · exact .base (.lst h)
  · exact .base (.frz h)
  · exact .kList h c
variable {σ : L2.St} {Q : VK}
theorem L_sort2 {a : Addr} {x y : Int} (h : SqL K H a [V.int x, V.int y]) (q : ∀ p, H p = none → Q (.ref p) (upd H p (.lst [V.int (min x y), V.int (max x y)]))) : rSorted K [.ref a] H Q := by
  refine ⟨a, [x, y], rfl, h, by simp, fun ns p hp hs hn => ?_⟩
  have hl := hp.length_eq
  match ns, hl with
  | [u, v], _ =>
    have hle : u ≤ v := by simpa using hs
    have hm : (u = x ∧ v = y) ∨ (u = y ∧ v = x) := by
      have h1 : u ∈ [x, y] := hp.mem_iff.mp (by simp)
      have h2 : v ∈ [x, y] := hp.mem_iff.mp (by simp)
      have h3 : x ∈ [u, v] := hp.mem_iff.mpr (by simp)
      have h4 : y ∈ [u, v] := hp.mem_iff.mpr (by simp)
      simp only [List.mem_cons, List.not_mem_nil, or_false] at h1 h2 h3 h4
      rcases h1 with h1 | h1 <;> rcases h2 with h2 | h2 <;> rcases h3 with h3 | h3 <;> rcases h4 with h4 | h4 <;> omega
    have e : [u, v] = [min x y, max x y] := by
      rcases hm with ⟨rfl, rfl⟩ | ⟨rfl, rfl⟩
      · rw [Int.min_eq_left hle, Int.max_eq_right hle]
      · rw [Int.min_eq_right hle, Int.max_eq_left hle]
    rw [e]
    exact q p hn
theorem L_list1 {a : Addr} {xs : List V} (h : SqL K H a xs) (q : ∀ l, H l = none → Q (.ref l) (upd H l (.lst xs))) : aList1 K [.ref a] H Q := ⟨a, xs, rfl, .inl h, q⟩
theorem L_tuple1 {a : Addr} {xs : List V} (h : SqL K H a xs) (q : ∀ l, H l = none → Q (.ref l) (upd H l (.tup xs))) : aTuple1 K [.ref a] H Q := ⟨a, xs, rfl, .inl ⟨h, q⟩⟩
theorem eqv_same {d : PyData} (h : SeqAt.shaped d = true) : PyData.eqv d d = true := SeqAt.eqv_refl d (SeqAt.canLay_of_shaped h)
theorem L_eqR {x y : V} {d : PyData} (hx : Dp K H x d) (hy : Dp K H y d) (s : SeqAt.shaped d = true) (q : Q (.bl true) H) : aEq K x y H Q := L_eqD hx hy s s (by rw [eqv_same s]; exact q)
theorem L_neR {x y : V} {d : PyData} (hx : Dp K H x d) (hy : Dp K H y d) (s : SeqAt.shaped d = true) (q : Q (.bl false) H) : aNe K x y H Q := L_neD hx hy s s (by rw [eqv_same s]; exact q)
theorem L_zipA {a b : Addr} {xs ys : List V} {R : Addr → Addr → Prop} (h1 : SqL K H a xs) (h2 : SqL K H b ys) (q : R a b) : ∃ a' b' xs ys, [V.ref a, V.ref b] = [.ref a', .ref b'] ∧ SqL K H a' xs ∧ SqL K H b' ys ∧ R a' b' := ⟨a, b, xs, ys, rfl, h1, h2, q⟩
end
/-- data that == may be asked of, at most n deep -/
structure Shp (n : Nat) (d : PyData) : Prop where
  c : d.canLay0 = true
  d : d.depth ≤ n
theorem Shp.ok {n : Nat} {d : PyData} (h : Shp n d) (hn : n ≤ 64 := by decide) : SeqAt.shaped d = true := by
  unfold SeqAt.shaped
  rw [h.c, decide_eq_true (Nat.le_trans h.d hn)]; rfl
theorem shp_int {n : Nat} {i : Int} : Shp n (.int i) := ⟨by simp [PyData.canLay0], by simp [PyData.depth]⟩
theorem shp_bl {n : Nat} {i : Bool} : Shp n (.bool i) := ⟨by simp [PyData.canLay0], by simp [PyData.depth]⟩
theorem shp_non {n : Nat} : Shp n .none := ⟨by simp [PyData.canLay0], by simp [PyData.depth]⟩
theorem shp_str {n : Nat} {z : Str} (h : PyData.strOk z = true) : Shp n (.str z) := ⟨by simpa [PyData.canLay0] using h, by simp [PyData.depth]⟩
theorem shp_all {n : Nat} : ∀ {ds : List PyData}, (∀ d ∈ ds, Shp n d) → PyData.canLayAll0 ds = true ∧ PyData.depthAll ds ≤ n
  | [], _ => ⟨by simp [PyData.canLayAll0], by simp [PyData.depthAll]⟩
  | d :: ds, h => by
    have h1 := h d (List.mem_cons_self ..)
    have h2 := shp_all fun x hx => h x (List.mem_cons_of_mem _ hx)
    exact ⟨by simp [PyData.canLayAll0, h1.c, h2.1], by simp only [PyData.depthAll]; exact Nat.max_le.mpr ⟨h1.d, h2.2⟩⟩
theorem shp_lst {n : Nat} {ds : List PyData} (h : ∀ d ∈ ds, Shp n d) : Shp (n + 1) (.list ds) := ⟨by simp only [PyData.canLay0]; exact (shp_all h).1, by simp only [PyData.depth]; have := (shp_all h).2; omega⟩
theorem shp_tup {n : Nat} {ds : List PyData} (h : ∀ d ∈ ds, Shp n d) : Shp (n + 1) (.tuple ds) := ⟨by simp only [PyData.canLay0]; exact (shp_all h).1, by simp only [PyData.depth]; have := (shp_all h).2; omega⟩
theorem shp_nil {n : Nat} : ∀ d ∈ ([] : List PyData), Shp n d := fun _ h => nomatch h
theorem shp_cons {n : Nat} {d : PyData} {ds : List PyData} (h : Shp n d) (t : ∀ d ∈ ds, Shp n d) : ∀ x ∈ d :: ds, Shp n x := fun x hx => by
  rcases List.mem_cons.mp hx with rfl | hx
  · exact h
  · exact t x hx
theorem shp_map {n : Nat} {α : Type} {f : α → PyData} {l : List α} (h : ∀ a ∈ l, Shp n (f a)) : ∀ d ∈ l.map f, Shp n d := fun d hd => by
  obtain ⟨a, ha, rfl⟩ := List.mem_map.mp hd
  exact h a ha
theorem shp_ints {n : Nat} {l : List Int} : Shp (n + 1) (.list (l.map .int)) := shp_lst (shp_map fun _ _ => shp_int)
theorem _root_.L2.Dp.ints {K : PySem.W.Frag} {H : Hp} {a : Addr} {ns : List Int} (h : SqL K H a (ns.map V.int)) : Dp K H (.ref a) (.list (ns.map .int)) := .lst h (dp_ints ns)
section
variable {K : PySem.W.Frag} {H : Hp} {Q : VK}
theorem L_powE {i j n : Int} (h : CPow i j) (e : i ^ j.toNat = n) (q : Q (.int n) H) : rI CPow (fun i j => .int (i ^ j.toNat)) (.int i) (.int j) H Q := ⟨i, j, rfl, rfl, h, by subst e; exact q⟩
/-- one of some ints -/
theorem L_menu {ns : List Int} {p : Addr} {i : Int} (h : SqL K H p (ns.map V.int)) (h0 : 0 ≤ i) (h1 : i < ns.length) (q : ∀ v ∈ ns, Q (.int v) H) : rIx K (.ref p) (.int i) H Q := by
  have hl : i.toNat < ns.length := by omega
  refine L_ixL h (atI_ints h0 h1) (q _ ?_)
  rw [List.getD_eq_getElem?_getD, List.getElem?_eq_getElem hl]
  exact List.getElem_mem hl
/-- an item of a list of ints, some property of all its items kept -/
theorem L_ixP {ns : List Int} {p : Addr} {i : Int} {P : Int → Prop} (h : SqL K H p (ns.map V.int)) (hP : ∀ v ∈ ns, P v) (h0 : 0 ≤ i) (h1 : i < ns.length) (q : ∀ v, P v → Q (.int v) H) : rIx K (.ref p) (.int i) H Q :=
  L_menu h h0 h1 fun v hv => q v (hP v hv)
end
theorem cdiv_lit {i j : Int} (h : 0 < j ∧ j < 1000000000000) : CDivW i j := (bd_64 (by omega)).cdiv h.1
theorem cpow_lit {i j : Int} (h : 0 ≤ j ∧ j ≤ 1000 ∧ -1000000 < i ∧ i < 1000000) : CPow i j := by
  have e : (2 : Nat) ^ 64 = 18446744073709551616 := by decide
  exact ⟨h.1, by omega, by omega⟩
theorem same_newE {H Hn : Hp} {p : Addr} {o : HO} (e : upd H p o = Hn) (h : H p = none) : Same H Hn := e ▸ same_new h
theorem upd_at {H Hn : Hp} {p : Addr} {o : HO} (e : upd H p o = Hn) : Hn p = some o := e ▸ upd_same
section
variable {K : PySem.W.Frag} {H H' : Hp} {p q : Addr} {us xs : List V} {ds : List PyData} {d : PyData} {y : V} {o : HO}
/-- a list grows: its things stand apart from it -/
theorem dp_grow (hdp : DpAll K (rs (· ≠ p) H) us ds) (s : Same H H') (hy : Dp K (rs (· ≠ p) H') y d) : DpAll K (rs (· ≠ p) (upd H' p o)) (us ++ [y]) (ds ++ [d]) :=
  (hdp.same (rs_same fun a u na ha => ⟨na, by rw [upd_ne na]; exact s _ _ ha⟩)).snoc (hy.same (rs_same fun a u na ha => ⟨na, by rw [upd_ne na]; exact ha⟩))
theorem dp_tupN (h : H q = some (.tup xs)) (n : q ≠ p) (ha : DpAll K (rs (· ≠ p) H) xs ds) : Dp K (rs (· ≠ p) H) (.ref q) (.tuple ds) := .tup (.of (rs_at n h)) ha
theorem dp_lstN (h : H q = some (.lst xs)) (n : q ≠ p) (ha : DpAll K (rs (· ≠ p) H) xs ds) : Dp K (rs (· ≠ p) H) (.ref q) (.list ds) := .lst (.of (rs_at n h)) ha
/-- data that stood ahead of p -/
theorem dp_old {H0 : Hp} (h : Dp K H0 y d) (n : H0 p = none) (s : Same H0 H) : Dp K (rs (· ≠ p) H) y d := h.same (rs_all fun a u ha => ⟨fun z => (by rw [z, n] at ha; cases ha), s _ _ ha⟩)
theorem dpA_old {H0 : Hp} (h : DpAll K H0 us ds) (n : H0 p = none) (s : Same H0 H) : DpAll K (rs (· ≠ p) H) us ds := h.same (rs_all fun a u ha => ⟨fun z => (by rw [z, n] at ha; cases ha), s _ _ ha⟩)
theorem dp_whole (h : DpAll K (rs (· ≠ p) H) us ds) (e : H p = some (.lst us)) : Dp K H (.ref p) (.list ds) := .lst (.of e) (h.same rs_sub)
theorem ne_new (h : H p = none) (h' : ∃ o, H q = some o) : p ≠ q := fun z => by
  obtain ⟨o, e⟩ := h'
  rw [z, e] at h; cases h
end
theorem fm_get {α β : Type} (g : α → β) : ∀ (l : List α), (List.range l.length).filterMap (fun i => l[i]?.map g) = l.map g
  | [] => rfl
  | a :: l => by
    have ih := fm_get g l
    rw [List.length_cons, List.range_succ_eq_map]
    simp only [List.filterMap_cons, List.getElem?_cons_zero, Option.map_some, List.filterMap_map, Function.comp_def, List.getElem?_cons_succ, List.map_cons]
    rw [ih]
theorem sum_take {α : Type} {l : List α} {f : α → Int} {i : Nat} {x : α} (h : l[i]? = some x) : ((l.take (i + 1)).map f).sum = ((l.take i).map f).sum + f x := by
  rw [List.take_succ, h]
  simp
theorem sum_takeAll {α : Type} {l : List α} {f : α → Int} {n : Nat} (h : l.length ≤ n) : ((l.take n).map f).sum = (l.map f).sum := by rw [List.take_of_length_le h]
/-! ### loops, the ends told one by one -/
section
variable {K : PySem.W.Frag} {σ : L2.St} {H : Hp} {g : TG} {tb : TS} {N : L2.St → Hp → Prop} {R : VK}
/-- what a for asks behind its iterable -/
abbrev ForT (J : It) (σ : L2.St) (H : Hp) (g : TG) (tb : TS) (N : L2.St → Hp → Prop) (R : VK) : Prop :=
  ∃ W : Nat → Nat → L2.St → Hp → Prop, (∃ m, W 0 m σ H) ∧ ∀ i m σ H, W i m σ H →
      (J.stop i H ∧ N σ H) ∨ (J.go i H ∧ ∃ M : L2.St → Hp → Prop, (∀ σ' H', M σ' H' → ∃ m', m' < m ∧ W (i + 1) m' σ' H') ∧ ∀ x H', J.yld i H x H' → g x σ H' fun σ2 H2 => tb ⟨M, R, N, M⟩ σ2 H2)
theorem f_it {J : It} {n : Nat} {G : Hp → Prop} {Y : Nat → Hp → V → Hp → Prop} (w : L2.Walk J n G Y) (Pv : Nat → L2.St → Hp → Prop) (h0 : Pv 0 σ H) (hG : ∀ i σ H, i ≤ n → Pv i σ H → G H)
    (hs : ∀ i x σ H H', i < n → Pv i σ H → Y i H x H' → g x σ H' fun σ2 H2 => tb ⟨Pv (i + 1), R, N, Pv (i + 1)⟩ σ2 H2) (hd : ∀ σ H, Pv n σ H → N σ H) : ForT J σ H g tb N R :=
  for_it (D := ⟨N, R, N, N⟩) w Pv h0 hG hs hd
theorem f_range {lo : Int} {n : Nat} (Pv : Nat → L2.St → Hp → Prop) (h0 : Pv 0 σ H)
    (hs : ∀ i σ H, i < n → Pv i σ H → g (.int (lo + i)) σ H fun σ2 H2 => tb ⟨Pv (i + 1), R, N, Pv (i + 1)⟩ σ2 H2) (hd : ∀ σ H, Pv n σ H → N σ H) : ForT (Itr lo n) σ H g tb N R :=
  for_range (D := ⟨N, R, N, N⟩) Pv h0 hs hd
theorem f_rangeC {lo c : Int} {n : Nat} (Pv : Nat → L2.St → Hp → Prop) (h0 : Pv 0 σ H)
    (hs : ∀ i σ H, i < n → Pv i σ H → g (.int (lo + (i : Nat) * c)) σ H fun σ2 H2 => tb ⟨Pv (i + 1), R, N, Pv (i + 1)⟩ σ2 H2) (hd : ∀ σ H, Pv n σ H → N σ H) : ForT (Itc lo c n) σ H g tb N R :=
  for_rangeC (D := ⟨N, R, N, N⟩) Pv h0 hs hd
theorem f_dp {a : Addr} {ds : List PyData} (h : Dp K H (.ref a) (.list ds)) (Pv : Nat → L2.St → Hp → Prop) (h0 : Pv 0 σ H) (hG : ∀ i σ' H', i ≤ ds.length → Pv i σ' H' → Same H H')
    (hs : ∀ i d x σ' H', i < ds.length → ds[i]? = some d → Pv i σ' H' → Dp K H' x d → g x σ' H' fun σ2 H2 => tb ⟨Pv (i + 1), R, N, Pv (i + 1)⟩ σ2 H2) (hd : ∀ σ' H', Pv ds.length σ' H' → N σ' H') : ForT (Itl K a) σ H g tb N R :=
  for_dp (D := ⟨N, R, N, N⟩) h Pv h0 hG hs hd
end
section
variable {σ σ' : L2.St} {H : Hp} {i : Nat} {v x : V} {B C : L2.St → Hp → Prop} {N : L2.St → Hp → Prop} {R : VK} {te : TE}
theorem L_gnameE {Q : L2.St → Hp → Prop} (e : σ.set i (some v) = σ') (h : Q σ' H) : gName i v σ H Q := by subst e; exact h
end
section
variable {K : PySem.W.Frag} {H H' : Hp} {σ : L2.St} {Q : VK} {te : TE} {tl th : TO}
theorem TyX_same {v : V} {t : Value} (e : Same H H') (h : TyX K H v t) : TyX K H' v t := by
  cases h with
  | base h =>
    refine .base ?_
    cases h with
    | non => exact .non
    | bl x => exact .bl x
    | int x => exact .int x
    | str x => exact .str x
    | flt x => exact .flt x
    | lst h => exact .lst (e _ _ h)
    | frz h => exact .frz (e _ _ h)
    | tup h => exact .tup (e _ _ h)
    | dK h => exact .dK (e _ _ h)
    | dT h => exact .dT (e _ _ h)
    | ins h cl ha hn htk hm => exact .ins (e _ _ h) cl ha hn htk hm
  | byt b => exact .byt b
  | set h => exact .set (e _ _ h)
  | kList h c => exact .kList h c
  | kTuple h c => exact .kTuple h c
  | kDict h c => exact .kDict h c
  | fTuple h => exact .fTuple (e _ _ h)
  | fDict h => exact .fDict (e _ _ h)
theorem NotW.same {v : V} (h : NotW K H v) (e : Same H H') : NotW K H' v := by
  rcases h with h | ⟨a, h1, h2⟩
  · exact .inl h
  · exact .inr ⟨a, TyX_same e h1, h2⟩
theorem BadW.same {v : V} {lo hi : Int} (h : BadW K H v lo hi) (e : Same H H') : BadW K H' v lo hi := by
  rcases h with h | h
  · exact .inl (h.same e)
  · exact .inr h
theorem L_sl {r : V → Option Int → Option Int → Hp → VK → Prop} (h : te σ H fun x H1 => tl σ H1 fun l H2 => th σ H2 fun u H3 => r x l u H3 Q) : L2.tSl r te tl th σ H Q := h
theorem L_noPart {R : Option Int → Hp → Prop} (h : R none H) : tNoPart σ H R := h
theorem L_part {t : TE} {R : Option Int → Hp → Prop} (h : t σ H fun x H1 => ∃ i, x = .int i ∧ R (some i) H1) : tPart t σ H R := h
theorem L_ki {i : Int} {R : Int → Prop} (h : R i) : ∃ j, V.int i = V.int j ∧ R j := ⟨i, rfl, h⟩
theorem L_slL {a : Addr} {xs : List V} {lo hi : Option Int} (h : SqL K H a xs) (q : ∀ p, H p = none → Q (.ref p) (upd H p (.lst (cutV xs lo hi)))) : rSlL K (.ref a) lo hi H Q := ⟨a, xs, rfl, h, q⟩
end
def cutG {α : Type} (xs : List α) (lo hi : Option Int) : List α := (xs.drop (HT.sIx xs.length 0 lo)).take (HT.sIx xs.length xs.length hi - HT.sIx xs.length 0 lo)
theorem cutV_map {α : Type} (f : α → V) (xs : List α) (lo hi : Option Int) : cutV (xs.map f) lo hi = (cutG xs lo hi).map f := by
  unfold cutV cutG
  rw [List.length_map, List.map_take, List.map_drop]
theorem cutG_mem {α : Type} {xs : List α} {lo hi : Option Int} {x : α} (h : x ∈ cutG xs lo hi) : x ∈ xs := List.mem_of_mem_drop (List.mem_of_mem_take h)
theorem cutG_len {α : Type} (xs : List α) (lo hi : Option Int) : (cutG xs lo hi).length ≤ xs.length := by
  unfold cutG
  rw [List.length_take, List.length_drop]
  omega
section
variable {K : PySem.W.Frag} {H : Hp} {Q : VK}
/-- one of some things -/
theorem L_menuV {xs : List V} {p : Addr} {i : Int} (h : SqL K H p xs) (h0 : 0 ≤ i) (h1 : i < xs.length) (q : ∀ v ∈ xs, Q v H) : rIx K (.ref p) (.int i) H Q := by
  have hl : i.toNat < xs.length := by omega
  exact L_ixL h (atI_int h0 (List.getElem?_eq_getElem hl)) (q _ (List.getElem_mem hl))
end
theorem hpL {K : PySem.W.Frag} {H : Hp} {a : Addr} {xs : List V} (h : H a = some (.lst xs)) : SqL K H a xs := .of h
theorem hpT {K : PySem.W.Frag} {H : Hp} {a : Addr} {xs : List V} (h : H a = some (.tup xs)) : SqT K H a xs := .of h
theorem bd_mod {x n : Int} (h : 0 < n ∧ n < 18446744073709551616) : Bd 64 (x % n) := bd_64 (by
  have h1 := Int.emod_nonneg x (show n ≠ 0 by omega)
  have h2 := Int.emod_lt_of_pos x h.1
  omega)
theorem hp_from {H0 H : Hp} {p : Addr} {o : HO} (h : H0 p = some o) (e : Same H0 H) : H p = some o := e _ _ h
theorem same_via {H H1 H2 : Hp} (b : Same H1 H2) (a : Same H H1) : Same H H2 := a.trans b
theorem same_upd' {H H' : Hp} {a : Addr} {o : HO} (h : H' a = none) (e : Same H H') : Same H (upd H' a o) := same_upd e h
theorem same_mut' {H H' : Hp} {a : Addr} {o : HO} (h : H a = none) (e : Same H H') : Same H (upd H' a o) := same_mut e h
section
variable {K : PySem.W.Frag} {H : Hp} {σ : L2.St} {Q : VK}
theorem L_clear {a : Addr} {xs : List V} (h : H a = some (.lst xs)) (q : Q .non (upd H a (.lst []))) : rClear (.ref a) [] H Q := ⟨a, xs, rfl, rfl, h, q⟩
theorem L_dnew (h : ∀ p, H p = none → Q (.ref p) (upd H p (.dK []))) : tDNewK σ H Q := h
/-- no list -/
def NotL (K : PySem.W.Frag) (H : Hp) (v : V) : Prop := ∃ a, TyX K H v (.type a) ∧ kitB a "list" = some false
theorem notl_tup {a : Addr} {xs : List V} (h : SqT K H a xs) : NotL K H (.ref a) := ⟨_, tyx_T h, by decide +kernel⟩
theorem notl_non : NotL K H .non := ⟨_, .base .non, by decide +kernel⟩
theorem notl_int {i : Int} : NotL K H (.int i) := ⟨_, .base (.int i), by decide +kernel⟩
theorem notl_bl {i : Bool} : NotL K H (.bl i) := ⟨_, .base (.bl i), by decide +kernel⟩
theorem notl_str {i : Str} : NotL K H (.str i) := ⟨_, .base (.str i), by decide +kernel⟩
theorem notl_dK {a : Addr} {xs : List (Key × V)} (h : H a = some (.dK xs)) : NotL K H (.ref a) := ⟨_, .base (.dK h), by decide +kernel⟩
theorem NotL.same {H' : Hp} {v : V} (h : NotL K H v) (e : Same H H') : NotL K H' v := by
  obtain ⟨a, h1, h2⟩ := h
  exact ⟨a, TyX_same e h1, h2⟩
end
theorem rep1 (x : Int) : ∀ n : Nat, (List.replicate n [V.int x]).flatten = (List.replicate n x).map V.int
  | 0 => rfl
  | n + 1 => by rw [List.replicate_succ, List.flatten_cons, rep1 x n]; rfl
section
variable {K : PySem.W.Frag} {H : Hp} {Q : VK}
theorem L_neB {i j : Bool} (q : Q (.bl (!decide (i = j))) H) : aNe K (.bl i) (.bl j) H Q := .inl ⟨rfl, by rw [show decide (V.bl i = V.bl j) = decide (i = j) by simp]; exact q⟩
end
/-! ### for x in xs: check(x) -/
section
variable {K : PySem.W.Frag} {σ : L2.St} {H : Hp} {N : L2.St → Hp → Prop} {R : VK} {a : Addr} {xs : List V} {sp : Sp} {ES : L2.St → XK} {i : Nat} {c : Value}
theorem set_self (σ : L2.St) (i : Nat) (hi : i < σ.length) : ∃ v, σ = σ.set i v := ⟨σ[i], by simp⟩
theorem L_forChk (hL : SqL K H a xs) (hi : i < σ.length) (hok : ∀ x ∈ xs, ∀ Q E, Q .non H → sp [x] H Q E) (q : ∀ v, N (σ.set i v) H) : ForT (Itl K a) σ H (gName i) (tDrop (tCallS sp ES (tCons (tVar i) tNil))) N R := by
  refine f_it walk_list (fun _ σ' H' => H' = H ∧ ∃ v, σ' = σ.set i v) ⟨rfl, set_self σ i hi⟩ (fun _ _ _ _ p => p.1 ▸ hL) ?_ ?_
  · rintro j x σ' H' H'' hj ⟨rfl, v, rfl⟩ ⟨rfl, e⟩
    refine L_gname (L_drop (L_callS (L_cons (L_var (v := x) ?_ (L_nil (hok x (List.mem_of_getElem? e) _ _ ?_))))))
    · simp [hi]
    · exact ⟨rfl, some x, by rw [List.set_set]⟩
  · rintro σ' H' ⟨rfl, v, rfl⟩
    exact q v
theorem L_forChkX (hL : SqL K H a xs) (hi : i < σ.length) (hx : ∀ x ∈ xs, (∀ Q E, Q .non H → sp [x] H Q E) ∨ ∀ Q E, E c none H → sp [x] H Q E) (hb : ∃ x ∈ xs, ∀ Q E, E c none H → sp [x] H Q E) (q : ∀ v, ES (σ.set i v) c none H) :
    ForT (Itl K a) σ H (gName i) (tDrop (tCallS sp ES (tCons (tVar i) tNil))) N R := by
  obtain ⟨x0, hx0, hb0⟩ := hb
  obtain ⟨j0, hj0⟩ := List.mem_iff_getElem?.mp hx0
  refine f_it walk_list (fun j σ' H' => H' = H ∧ (∃ v, σ' = σ.set i v) ∧ ∃ k x, j ≤ k ∧ xs[k]? = some x ∧ ∀ Q E, E c none H → sp [x] H Q E) ⟨rfl, set_self σ i hi, j0, x0, Nat.zero_le _, hj0, hb0⟩ (fun _ _ _ _ p => p.1 ▸ hL) ?_ ?_
  · rintro j x σ' H' H'' hj ⟨rfl, ⟨v, rfl⟩, k, y, hk, hy, hby⟩ ⟨rfl, e⟩
    refine L_gname (L_drop (L_callS (L_cons (L_var (v := x) ?_ (L_nil ?_)))))
    · simp [hi]
    · by_cases hc : ∀ Q E, E c none H'' → sp [x] H'' Q E
      · exact hc _ _ (by rw [List.set_set]; exact q _)
      · refine (hx x (List.mem_of_getElem? e)).resolve_right hc _ _ ⟨rfl, ⟨some x, by rw [List.set_set]⟩, k, y, ?_, hy, hby⟩
        rcases Nat.lt_or_eq_of_le hk with hlt | rfl
        · exact hlt
        · rw [e] at hy
          cases hy
          exact absurd hby hc
  · rintro σ' H' ⟨rfl, ⟨v, rfl⟩, k, y, hk, hy, hby⟩
    have := (List.getElem?_eq_some_iff.mp hy).1
    omega
end
theorem L_bm0 {K : PySem.W.Frag} {σ : L2.St} {H : Hp} {Q : VK} {te : TE} {T : String} {r : V → List V → Hp → VK → Prop} (h : te σ H fun x H1 => tyV K T x H1 ∧ r x [] H1 Q) : tBM0 K T r te σ H Q := h
/-- what an expression's ways have in common -/
theorem L_via {P : VK → Prop} {Q : VK} (R : V → Hp → Prop) (key : ∀ Q : VK, (∀ v H', R v H' → Q v H') → P Q) (q : ∀ v H', R v H' → Q v H') : P Q := key Q q
section
variable {K : PySem.W.Frag} {H : Hp} {σ : L2.St} {Q : VK} {ta tb : TE}
theorem L_disp1 (h : ∀ p, H p = none → ta σ (upd H p (.dK [])) fun k H1 => tb σ H1 fun v H2 => H2 p = some (.dK []) ∧ ∃ kvs : List (Key × V), [(k, v)] = kvs.map (fun kv => (kV kv.1, kv.2)) ∧ kvs.length ≤ 15 ∧ Q (.ref p) (upd H2 p (.dK (mergeK [] kvs)))) : tDisp [(ta, tb)] σ H Q := h
theorem L_dispE1 {p : Addr} {k v : V} (kk : Key) (e : k = kV kk) (h : H p = some (.dK [])) (q : Q (.ref p) (upd H p (.dK [(kk, v)]))) : H p = some (.dK []) ∧ ∃ kvs : List (Key × V), [(k, v)] = kvs.map (fun kv => (kV kv.1, kv.2)) ∧ kvs.length ≤ 15 ∧ Q (.ref p) (upd H p (.dK (mergeK [] kvs))) :=
  ⟨h, [(kk, v)], by rw [e]; rfl, by simp, q⟩
/-- a sign of a text -/
theorem L_ixSany {z : Str} {i : Int} (hz : z.length ≤ 1000000) (h0 : 0 ≤ i) (h1 : i < z.length) (q : ∀ a ∈ z.cps.toList, Q (.str ⟨#[a]⟩) H) : rIx K (.str z) (.int i) H Q := by
  have hl : i.toNat < z.cps.toList.length := by
    have e : z.cps.toList.length = z.length := by rw [Array.length_toList]; rfl
    omega
  have h3 : z.cps.toList[i.toNat]? = some z.cps.toList[i.toNat] := List.getElem?_eq_getElem hl
  refine L_ixS (sz_dec hz) (a := z.cps.toList[i.toNat]) ?_ (q _ (List.getElem_mem hl))
  obtain ⟨j, rfl⟩ : ∃ j : Nat, i = (j : Int) := ⟨i.toNat, by omega⟩
  exact atI_nat h3
theorem L_inR {i lo hi : Int} {a : Addr} (h : H a = some (.rng lo hi)) (q : Q (.bl (decide (lo ≤ i ∧ i < hi))) H) : (∃ i' a' lo hi, V.int i = V.int i' ∧ V.ref a = V.ref a' ∧ H a' = some (.rng lo hi) ∧ Q (.bl (decide (lo ≤ i' ∧ i' < hi))) H) := ⟨i, a, lo, hi, rfl, rfl, h, q⟩
theorem L_rng2 {i j : Int} (q : ∀ p, H p = none → Q (.ref p) (upd H p (.rng i j))) : (∃ i' j', [V.int i, V.int j] = [V.int i', V.int j'] ∧ ∀ p, H p = none → Q (.ref p) (upd H p (.rng i' j'))) := ⟨i, j, rfl, q⟩
/-- no text -/
def NotS (K : PySem.W.Frag) (H : Hp) (v : V) : Prop := ∃ a, TyX K H v (.type a) ∧ kitB a "str" = some false
theorem nots_tup {a : Addr} {xs : List V} (h : SqT K H a xs) : NotS K H (.ref a) := ⟨_, tyx_T h, by decide +kernel⟩
theorem nots_lst {a : Addr} {xs : List V} (h : SqL K H a xs) : NotS K H (.ref a) := ⟨_, tyx_L h, by decide +kernel⟩
theorem nots_non : NotS K H .non := ⟨_, .base .non, by decide +kernel⟩
theorem nots_int {i : Int} : NotS K H (.int i) := ⟨_, .base (.int i), by decide +kernel⟩
theorem nots_bl {i : Bool} : NotS K H (.bl i) := ⟨_, .base (.bl i), by decide +kernel⟩
theorem nots_dK {a : Addr} {xs : List (Key × V)} (h : H a = some (.dK xs)) : NotS K H (.ref a) := ⟨_, .base (.dK h), by decide +kernel⟩
theorem NotS.same {H' : Hp} {v : V} (h : NotS K H v) (e : Same H H') : NotS K H' v := by
  obtain ⟨a, h1, h2⟩ := h
  exact ⟨a, TyX_same e h1, h2⟩
end
theorem len1 (a : Nat) : (⟨#[a]⟩ : Str).length = 1 := rfl
theorem str_len_append (a b : Str) : (a ++ b).length = a.length + b.length := Array.size_append
theorem str_len {z : Str} : z.cps.toList.length = z.length := by rw [Array.length_toList]; rfl
theorem one_lt {c d : Nat} : ([c] : List Nat) < [d] ↔ c < d := by
  rw [List.cons_lt_cons_iff]
  constructor
  · rintro (h | ⟨_, h⟩)
    · exact h
    · exact absurd h (List.not_lt_nil _)
  · exact .inl
theorem str_app_list (a b : Str) : (a ++ b).cps.toList = a.cps.toList ++ b.cps.toList := Array.toList_append
theorem eqv_nil {ds : List PyData} : PyData.eqv (.list ds) (.list []) = ds.isEmpty := by
  cases ds <;> simp [PyData.eqv, PyData.eqvAll]
theorem strOk_of {z : Str} (h : ∀ c ∈ z.cps.toList, c < 1114112) : PyData.strOk z = true := by
  show (z.cps.all (· < 0x110000)) = true
  rw [← Array.all_toList, List.all_eq_true]
  intro c hc
  exact decide_eq_true (h c hc)
theorem L_nnT {A B : Prop} (a : A) : if (!!true) = true then A else B := L_T a
theorem L_nnF {A B : Prop} (b : B) : if (!!false) = true then A else B := L_F b
theorem bd_128 {i : Int} (h : -340282366920938463463374607431768211456 < i ∧ i < 340282366920938463463374607431768211456) : Bd 128 i := by
  unfold Bd
  have : (2 : Nat) ^ 128 = 340282366920938463463374607431768211456 := by decide
  omega
/-! ### an exception that was caught, held by a name beyond the clause -/
/-- an exception of the class cls at a, its own dict d -/
def ExI (cls : Value) (d : Option Addr) (a : Addr) : HO := .ext fun h => ∃ (oe : Obj) (vs : Array Value), h.get? a = some oe ∧ Zc cls d oe ∧ oe.data = .fields vs
section
variable {X : Cx} {pins : List (Addr × Obj)} {σ : L2.St} {H : Hp} {s : Shared}
theorem track {a : Addr} {d : Option Addr} {cls : Value} {oe : Obj} {vs : Array Value} (I : Inv X pins σ H s) (na : H a = none) (he : s.heap.get? a = some oe) (z : Zc cls d oe) (hd : oe.data = .fields vs) (n0 : X.s_0.heap.get? a = none)
    (nL : a ≠ X.env.locals) (np : ∀ p ∈ X.pn ++ pins, p.1 ≠ a) : Inv X pins σ (upd H a (ExI cls d a)) s where
  ok := I.ok
  os := I.os
  bare := I.bare
  base := {
    keep := I.base.keep
    slot := I.base.slot
    free := fun b o e n hx => by
      rw [upd_ne (fun z => by rw [z, n0] at e; cases e)]
      exact I.base.free b o e n hx
    there := I.base.there
    tups := fun b xs q => by
      have t := I.base.tups b xs q
      rw [upd_ne (ne_of_none t na)]; exact t
    frzs := fun b o u q => by
      have t := I.base.frzs b o u q
      rw [upd_ne (ne_of_none t na)]; exact t
    tbls := fun b ps q => by
      obtain ⟨more, t⟩ := I.base.tbls b ps q
      exact ⟨more, by rw [upd_ne (ne_of_none t na)]; exact t⟩ }
  loc := I.loc
  cell := I.cell
  free := by rw [upd_ne nL.symm]; exact I.free
  freeC := fun x c e => by
    obtain ⟨v, o, ho, hc⟩ := I.cell x c e
    rw [upd_ne (fun z => by rw [z, he] at ho; cases ho; rw [hd] at hc; cases hc)]
    exact I.freeC x c e
  pin := fun p hp => by
    obtain ⟨h1, h2, h3⟩ := I.pin p hp
    exact ⟨h1, by rw [upd_ne (np p hp)]; exact h2, h3⟩
  hok := fun b o e => by
    by_cases hb : b = a
    · cases hb
      rw [upd_same] at e
      cases e
      exact ⟨⟨oe, vs, he, z, hd⟩, ⟨oe, he⟩, fun _ _ ⟨o1, v1, q, r⟩ k => ⟨o1, v1, k o1 q, r⟩⟩
    · rw [upd_ne hb] at e
      exact (I.hok b o e).stay (fun _ _ _ q => q) (fun c q => by rw [upd_ne (ne_of_none q na)]; exact q) fun c xs q => by rw [upd_ne (ne_of_none q na)]; exact q
  len := I.len
end
/-- what 'except x as n' wishes of an exception, which is tracked behind the suite -/
def wAsT (K : PySem.W.Frag) (c : Value) (i : Nat) (ts : Addr → Value → Option Addr → TS) (Wout : WX) (D : Ends) : WX := fun cls d σ H =>
  ∃ b, PySem.W.exmOne K cls c = some b ∧
    (b = true → ∀ a, H a = none → ts a cls d ⟨fun σ' H' => H' a = none → D.nx (σ'.set i none) (upd H' a (ExI cls d a)), D.rt, fun σ' H' => D.bk (σ'.set i none) H', fun σ' H' => D.ct (σ'.set i none) H'⟩ (σ.set i (some (.ref a))) H) ∧
    (b = false → Wout cls d σ H)
section
variable {X : Cx} {x n : Str} {c : Value} {i : Nat} {body suite : List Stmt} {b₀ : Stmt} {np pos pos' : Pos} {tb : WX → TS} {ts : Addr → Value → Option Addr → TS} {Wout : WX}
theorem ps_try_asT (hs : X.stack = X.env :: X.outer) (hf : X.env.frame = some X.env.locals) (hN : X.N.Nodup) (hi : X.N[i]? = some n) (hln : X.env.kindOf n = some .local) (hex : X.ex = []) (hc : Names X x c) (tk : Takes X Wout)
    (hb : ∀ (W : WX) (pn : List (Addr × Obj)) (xe : Value → Shared → Prop), Takes (X.tr pn xe) W → PassesOwn (model X.prog X.w) X.A X.env xe → PSs (X.tr pn xe) body (tb W))
    (hsu : ∀ (a : Addr) (oe : Obj) (cls : Value) (d : Option Addr) (pn : List (Addr × Obj)), Zc cls d oe → (∃ vs, oe.data = .fields vs) → PSs (X.suite a ((a, oe) :: pn)) (b₀ :: suite) (ts a cls d)) :
    PS X (.Try body [.ExceptHandler (some (.Name x np)) (some n) (b₀ :: suite) pos'] [] [] pos) (fun D σ H => tb (wAsT X.K c i ts Wout D) D σ H) := by
  constructor
  intro pins s0 σ0 H0 D I0 start
  have okX := I0.ok
  have frames : X.A.frames = some (X.env :: X.outer) := by
    rw [okX.frames, hs]
  apply wpAny_Try_except
  -- what is raised in the body is looked at by the clause
  let look : Value → Shared → Prop := fun e t1 => wpAny (model X.prog X.w) X.A (noteFrame e X.env) (fun _ t2 => wpAny (model X.prog X.w) X.A (setFlight e none)
    (fun _ t3 => wpAny (model X.prog X.w) X.A (handleBy e X.env [.ExceptHandler (some (.Name x np)) (some n) (b₀ :: suite) pos']) (SP X pins D) X.xe t3) X.xe t2) X.xe t1
  have caught : Takes (X.tr (X.pn ++ pins) look) (wAsT X.K c i ts Wout D) := by
    intro u s' air
    obtain ⟨a, B, sI, pins', σ', H', cls, d, rfl, K', nb, up, sky, na, os, ag, b, exm, yes, no⟩ := air
    have K0 : Inv X pins σ' H' sI := K'.ofTry okX
    have sky1 : Sky B (X.env :: X.outer) a (Zc cls d) X.env.locals s'.heap := hs ▸ sky
    show wpAny (model X.prog X.w) X.A (noteFrame (.ref a) X.env) _ _ _
    apply Sky.land Zc.steady frames hf sky1
    intro h3 fl3 up3
    have J3 : Inv X pins σ' H' { s' with heap := h3 } := K0.landed nb fl3.1 (up.trans up3) os ag
    obtain ⟨oe3, vs3, at3, z3, data3⟩ := fl3.there
    have offFrames : a ∉ frs (X.env :: X.outer) := fun hm => by
      obtain ⟨_, o', there', hnf⟩ := fl3.2.2.1.mem hm
      rw [at3] at there'
      cases there'
      exact hnf _ data3
    have nL : a ≠ X.env.locals := fun e => offFrames (List.mem_filterMap.mpr ⟨X.env, List.mem_cons_self, by rw [hf, e]⟩)
    have nF : a ∉ X.fs := fun hm => by
      obtain ⟨e, he, q⟩ := List.mem_filterMap.mp hm
      exact offFrames (List.mem_filterMap.mpr ⟨e, List.mem_cons_of_mem _ he, q⟩)
    -- a is new: it stood neither at the try's entry nor at the def's
    have newB : B.get? a = none := fl3.2.1
    have newI : sI.heap.get? a = none := by
      cases q : sI.heap.get? a with
      | none => rfl
      | some o =>
        have := nb a o q (by rw [hs]; exact offFrames)
        rw [newB] at this
        cases this
    have new0 : X.s_0.heap.get? a = none := by
      cases q : X.s_0.heap.get? a with
      | none => rfl
      | some o =>
        obtain ⟨o', q'⟩ := K0.base.there a o q (by rw [hex]; exact List.not_mem_nil)
        rw [newI] at q'
        cases q'
    have apart : ∀ p ∈ X.pn ++ pins, p.1 ≠ a := fun p hp e => by
      have := (K0.pin p hp).1
      rw [e, newI] at this
      cases this
    have S3 := J3.suite at3 data3 na nL nF
    apply wpAny_handleBy_cons _ (by intro q; cases q)
    apply codeAny_handlers_test
    have tyA : PySem.W.Looks (model X.prog X.w) h3 (typeOf (.ref a)) cls := fun A Q E t k q => wpAny_typeOf_ref (k _ _ at3) (by rw [z3.1]; exact q)
    have matched := PySem.W.exm_one (M := model X.prog X.w) (J3.kIn) tyA exm
    have named : ∀ {Q : Value → Shared → Prop} {E : Value → Shared → Prop}, Q c { s' with heap := h3 } → wpAny (model X.prog X.w) (X.A.mark (some (.ref a))) (eval (.Name x np) X.env) Q E { s' with heap := h3 } := by
      intro Q E q
      obtain ⟨hg, hdbg, hm⟩ := hc
      rcases hm with hm | ⟨hm, hv, hnn⟩
      · exact ld_glob (X := X.suite a ((a, oe3) :: (X.pn ++ pins))) S3 hg hm q hdbg
      · exact ld_blt (X := X.suite a ((a, oe3) :: (X.pn ++ pins))) S3 hg hm hv q hnn hdbg
    apply named
    apply matched.here
    cases b with
    | true =>
      apply codeAny_handlers_suite_as
      apply HandSPX.lands_againZ fl3
      intro h4 fl4 up4
      have J4 : Inv X pins σ' H' { s' with heap := h4 } := K0.landed nb fl4.1 ((up.trans up3).trans up4) os ag
      obtain ⟨oe4, vs4, at4, z4, data4⟩ := fl4.there
      have S4 := J4.suite at4 data4 na nL nF
      refine store_ok (X := X.suite a ((a, oe4) :: (X.pn ++ pins))) (v := .ref a) S4 hN hi (.inl hln) rfl (fun s5 S5 => ?_) (.inr hln)
      refine wpAny_mono ((hsu a oe4 cls d (X.pn ++ pins) z4 ⟨_, data4⟩).run [] s5 _ H' _ S5 (yes rfl a na)) (fun f s6 hsp => ?_) (fun _ _ z => z.elim)
      -- out of the suite, the exception still pinned
      have out : ∀ {σ6 : L2.St} {H6 : Hp} {Q : Shared → Prop}, Inv (X.suite a ((a, oe4) :: (X.pn ++ pins))) [] σ6 H6 s6 → (∀ s7, Inv X pins (σ6.set i none) H6 s7 → H6 a = none → s7.heap.get? a = some oe4 → Q s7) →
          wpAny (model X.prog X.w) X.A (do bindName X.env n .none; unbindBehindTheSuite X.env n pos') (fun _ s7 => Q s7) X.xe s6 := fun {σ6 H6 Q} S6 hq => by
        have P6 : Inv X ((a, oe4) :: pins) σ6 H6 s6 := { S6.unsuite okX with
          pin := fun p hp => S6.pin p (by
            rcases List.mem_append.mp hp with hp | hp
            · exact List.mem_append_left _ (List.mem_cons_of_mem _ (List.mem_append_left _ hp))
            · rcases List.mem_cons.mp hp with e | hp
              · rw [e]; exact List.mem_append_left _ List.mem_cons_self
              · exact List.mem_append_left _ (List.mem_cons_of_mem _ (List.mem_append_right _ hp))) }
        refine gone_ok P6 hN hi hln fun s7 P7 => ?_
        have pinned := P7.pin (a, oe4) (List.mem_append_right _ List.mem_cons_self)
        refine hq s7 { P7 with pin := fun p hp => P7.pin p ?_ } pinned.2.1 pinned.1
        rcases List.mem_append.mp hp with hp | hp
        · exact List.mem_append_left _ hp
        · exact List.mem_append_right _ (List.mem_cons_of_mem _ hp)
      match f, hsp with
      | .next, ⟨σ6, H6, S6, q6⟩ => exact out S6 fun s7 J7 n6 a6 => ⟨_, _, track J7 n6 a6 z4 data4 new0 nL apart, q6 n6⟩
      | .brk, ⟨σ6, H6, S6, q6⟩ => exact out S6 fun s7 J7 _ _ => ⟨_, _, J7, q6⟩
      | .cont, ⟨σ6, H6, S6, q6⟩ => exact out S6 fun s7 J7 _ _ => ⟨_, _, J7, q6⟩
      | .ret u, ⟨v6, σ6, H6, S6, r6, q6⟩ => exact out S6 fun s7 J7 _ _ => ⟨_, _, _, J7, r6, q6⟩
    | false =>
      show wpAny _ X.A (handleBy (.ref a) X.env []) _ _ _
      apply wpAny_handleBy_nil
      obtain ⟨_, _, _, oe, vs, T, oT, ts', he, hz, hd, h1, hr⟩ := id fl3
      unfold PySem.passOn
      refine wpAny_bind (wpAny_field he hd h1 ?_)
      rw [if_neg (show ¬ ((Value.ref T == Value.none) = true) from by simp)]
      have on : wpAny (model X.prog X.w) X.A (setFlight (.ref a) X.env.frame) (fun _ s4 => wpAny (model X.prog X.w) X.A (throw (.ref a) : Sem Flow) (SP X pins D) X.xe s4) X.xe { s' with heap := h3 } := by
        rw [hf]
        apply HandSPX.setFlight_upZ fl3
        intro h4 held4 up4
        apply wpAny_throw
        apply tk
        exact ⟨a, B, sI, pins, σ', H', cls, d, rfl, K0, nb, (up.trans up3).trans up4, .inr (.inr (by rw [hs]; exact held4)), na, os, ag, no rfl⟩
      first
        | exact wpAny_bind (wpAny_pure (wpAny_bind on))
        | exact wpAny_bind on
  refine wpAny_mono ((hb (wAsT X.K c i ts Wout D) (X.pn ++ pins) look caught PassesOwn.looking).run [] s0 σ0 H0 D (I0.toTry _) start) (fun f s1 hsp => ?_) (fun e s1 he => he)
  match f, hsp with
  | .next, ⟨σ1, H1, J1, q⟩ => exact wpAny_execs_nil ⟨σ1, H1, J1.ofTry okX, q⟩
  | .brk, ⟨σ1, H1, J1, q⟩ => exact ⟨σ1, H1, J1.ofTry okX, q⟩
  | .cont, ⟨σ1, H1, J1, q⟩ => exact ⟨σ1, H1, J1.ofTry okX, q⟩
  | .ret u, ⟨v, σ1, H1, J1, r, q⟩ => exact ⟨v, σ1, H1, J1.ofTry okX, r, q⟩
end
/-- isinstance of a caught exception that a name holds -/
def rIsX (K : PySem.W.Frag) : List V → Hp → VK → Prop := fun xs H Q => ∃ (a D : Addr) (c : V) (u : Value) (b : Bool), xs = [.ref a, c] ∧ H a = some (ExI (.ref D) none a) ∧ L2.ExcC K D ∧ ClsV c u ∧ PySem.W.kitOne K (.ref D) u = some b ∧ Q (.bl b) H
def rIsXT (K : PySem.W.Frag) : List V → Hp → VK → Prop := fun xs H Q => ∃ (a D tp : Addr) (cs : List V) (us : List Value) (b : Bool), xs = [.ref a, .ref tp] ∧ H a = some (ExI (.ref D) none a) ∧ L2.ExcC K D ∧ H tp = some (.tup cs) ∧ Paired ClsV cs us ∧ PySem.W.kitAny K (.ref D) us = some b ∧ Q (.bl b) H
section
variable {X : Cx} {pins : List (Addr × Obj)} {σ : L2.St} {H : Hp} {s : Shared}
theorem exI_at {a D : Addr} (I : Inv X pins σ H s) (h : H a = some (ExI (.ref D) none a)) : ∃ oe, PySem.W.InstAt s.heap a oe D none := by
  obtain ⟨⟨oe, vs, q1, ⟨q2, q3⟩, q4⟩, _⟩ := I.hok a _ h
  obtain ⟨oc, od, oda, osl⟩ := oe
  dsimp only at q2 q3 q4
  subst q2 q3 q4
  exact ⟨_, q1, rfl, rfl, trivial⟩
theorem call_isX : CallR X (.builtin "isinstance") (rIsX X.K) := by
  intro pins s σ H xs us Q I r h
  obtain ⟨a, D, c, u, b, rfl, hx, C, k, e, q⟩ := h
  obtain ⟨u1, u2, rfl, r1, r2⟩ := vals2 r
  cases r1
  cases k.eq r2
  obtain ⟨oe, J⟩ := exI_at I hx
  exact PySem.W.kia_one (PySem.W.handS_kitx_exc C.hg C.hk C.hs C.hd C.ha C.hn C.ht C.hm) I.kIn J e (fun z => nomatch z) fun tk => ⟨.bl b, H, I.tok tk, rfl, q⟩
theorem call_isXT : CallR X (.builtin "isinstance") (rIsXT X.K) := by
  intro pins s σ H xs us Q I r h
  obtain ⟨a, D, tp, cs, ws, b, rfl, hx, C, hT, k, e, q⟩ := h
  obtain ⟨u1, u2, rfl, r1, r2⟩ := vals2 r
  cases r1
  cases (show u2 = Value.ref tp from r2)
  obtain ⟨oe, J⟩ := exI_at I hx
  obtain ⟨_, its, rv, o, h1, h2, n, h3⟩ := (show ObjOk X.prog X.w H s.heap tp (.tup cs) from I.hok tp _ hT)
  have e3 := ClsV.all k rv
  subst e3
  obtain ⟨oc, od, dt, sl⟩ := o
  simp only at h2 h3
  subst h2 h3
  exact PySem.W.kia_tup (PySem.W.handS_kitx_exc C.hg C.hk C.hs C.hd C.ha C.hn C.ht C.hm) I.kIn J h1 e (fun z => nomatch z) fun tk => ⟨.bl b, H, I.tok tk, rfl, q⟩
end
section
variable {K : PySem.W.Frag} {H : Hp} {Q : VK} {C D : Addr} {b : Bool}
theorem kit_ref (hD : PySem.W.subIn K (.ref D) (.ref D) = some true) (k : ExcK K C) (h : PySem.W.subIn K (.ref D) (.ref C) = some b) : PySem.W.kitOne K (.ref D) (.ref C) = some b := by
  unfold PySem.W.kitOne
  by_cases e : D = C
  · subst e
    rw [hD] at h
    cases h
    rw [if_pos (by simp)]
  · rw [if_neg (by simpa using e)]
    have h2 : (PySem.W.clsIn K C).isSome = true := k.i
    show (if ((PySem.W.clsIn K C).isSome && PySem.W.typeIn K (.ref C) == some (.type "type")) = true then PySem.W.subIn K (.ref D) (.ref C) else none) = some b
    rw [if_pos (by rw [h2, k.t]; rfl)]
    exact h
theorem kit_typ {T : String} (hm : PySem.W.kitMeta T = true) (h : PySem.W.subIn K (.ref D) (.type T) = some b) : PySem.W.kitOne K (.ref D) (.type T) = some b := by
  unfold PySem.W.kitOne
  rw [if_neg (by simp)]
  show (if PySem.W.kitMeta T = true then PySem.W.subIn K (.ref D) (.type T) else none) = some b
  rw [if_pos hm]
  exact h
theorem L_isX {a : Addr} {c : V} {u : Value} (h : H a = some (ExI (.ref D) none a)) (C : L2.ExcC K D) (k : ClsV c u) (e : PySem.W.kitOne K (.ref D) u = some b) (q : Q (.bl b) H) : rIsX K [.ref a, c] H Q := ⟨a, D, c, u, b, rfl, h, C, k, e, q⟩
theorem L_isXT {a tp : Addr} {cs : List V} {us : List Value} (h : H a = some (ExI (.ref D) none a)) (C : L2.ExcC K D) (hT : H tp = some (.tup cs)) (k : Paired ClsV cs us) (e : PySem.W.kitAny K (.ref D) us = some b) (q : Q (.bl b) H) : rIsXT K [.ref a, .ref tp] H Q := ⟨a, D, tp, cs, us, b, rfl, h, C, hT, k, e, q⟩
theorem kit_none : ∀ {us : List Value}, (∀ u ∈ us, PySem.W.kitOne K (.ref D) u = some false) → PySem.W.kitAny K (.ref D) us = some false
  | [], _ => rfl
  | u :: us, h => by
    unfold PySem.W.kitAny
    rw [h u (List.mem_cons_self ..)]
    exact kit_none fun x hx => h x (List.mem_cons_of_mem _ hx)
theorem L_asT {c : Value} {i : Nat} {ts : Addr → Value → Option Addr → TS} {Wout : WX} {D : Ends} {σ : L2.St} {cls : Value} {d : Option Addr} (h : PySem.W.exmOne K cls c = some true)
    (q : ∀ a, H a = none → ts a cls d ⟨fun σ' H' => H' a = none → D.nx (σ'.set i none) (upd H' a (ExI cls d a)), D.rt, fun σ' H' => D.bk (σ'.set i none) H', fun σ' H' => D.ct (σ'.set i none) H'⟩ (σ.set i (some (.ref a))) H) : wAsT K c i ts Wout D cls d σ H :=
  ⟨true, h, fun _ => q, fun z => nomatch z⟩
end
/-! ### lists of numbers, and what is none -/
def BadNs (K : PySem.W.Frag) (H : Hp) (v : V) (lo hi : Int) : Prop := NotL K H v ∨ ∃ a xs, v = .ref a ∧ SqL K H a xs ∧ (24 < xs.length ∨ ((∀ x ∈ xs, (∃ t, x = .int t ∧ lo ≤ t ∧ t ≤ hi) ∨ BadW K H x lo hi) ∧ ∃ x ∈ xs, BadW K H x lo hi))
def GoodNs (K : PySem.W.Frag) (H : Hp) (v : V) (ts : List Int) (lo hi : Int) : Prop := ∃ a, v = .ref a ∧ SqL K H a (ts.map V.int) ∧ ts.length ≤ 24 ∧ ∀ t ∈ ts, lo ≤ t ∧ t ≤ hi
section
variable {K : PySem.W.Frag} {H H' : Hp} {v : V} {lo hi : Int} {ts : List Int}
theorem BadNs.same (h : BadNs K H v lo hi) (e : Same H H') : BadNs K H' v lo hi := by
  rcases h with h | ⟨a, xs, h1, h2, h3⟩
  · exact .inl (h.same e)
  · refine .inr ⟨a, xs, h1, e.seq h2, ?_⟩
    rcases h3 with h3 | ⟨h3, x, h4, h5⟩
    · exact .inl h3
    · exact .inr ⟨fun x hx => (h3 x hx).imp id fun b => b.same e, x, h4, h5.same e⟩
theorem GoodNs.same (h : GoodNs K H v ts lo hi) (e : Same H H') : GoodNs K H' v ts lo hi := by
  obtain ⟨a, h1, h2, h3, h4⟩ := h
  exact ⟨a, h1, e.seq h2, h3, h4⟩
theorem bad_one {a : Addr} {x : V} (h : H a = some (.lst [x])) (b : BadW K H x lo hi) : BadNs K H (.ref a) lo hi := .inr ⟨a, _, rfl, .of h, .inr ⟨fun y hy => by rw [List.mem_singleton.mp hy]; exact .inr b, x, List.mem_singleton.mpr rfl, b⟩⟩
theorem good_ns {a : Addr} (h : H a = some (.lst (ts.map V.int))) (hl : ts.length ≤ 24) (hb : ∀ t ∈ ts, lo ≤ t ∧ t ≤ hi) : GoodNs K H (.ref a) ts lo hi := ⟨a, rfl, .of h, hl, hb⟩
theorem int_of_mem {x : V} (h : x ∈ ts.map V.int) : ∃ t ∈ ts, x = .int t := by
  obtain ⟨t, h1, h2⟩ := List.mem_map.mp h
  exact ⟨t, h1, h2.symm⟩
theorem getD_of {i : Nat} {t : Int} (h : ts[i]? = some t) : ts.getD i 0 = t := by rw [List.getD_eq_getElem?_getD, h]; rfl
theorem fm_int {f : Nat → Option Int} {n : Nat} : (List.range n).filterMap (fun i => (f i).map V.int) = ((List.range n).filterMap f).map V.int := by
  rw [List.map_filterMap]
end
/-- pairs of ints as data -/
def d2 (r : Int × Int) : PyData := .tuple [.int r.1, .int r.2]
section
variable {K : PySem.W.Frag} {H : Hp} {v : V} {us : List V} {rows : List (Int × Int)}
theorem of_d2 {r : Int × Int} (h : Dp K H v (d2 r)) : ∃ a, v = .ref a ∧ SqT K H a [.int r.1, .int r.2] := by
  obtain ⟨a, x, y, rfl, h1, h2, h3⟩ := of_t2 h
  rw [of_int h2, of_int h3] at h1
  exact ⟨a, rfl, h1⟩
theorem hit2 (hA : DpAll K H us (rows.map d2)) {i : Nat} {x : V} (hx : us[i]? = some x) : ∃ r t, rows[i]? = some r ∧ x = V.ref t ∧ SqT K H t [.int r.1, .int r.2] := by
  obtain ⟨d, h1, h2⟩ := hA.of hx
  rw [List.getElem?_map] at h1
  obtain ⟨r, h3, rfl⟩ := Option.map_eq_some_iff.mp h1
  obtain ⟨t, rfl, h4⟩ := of_d2 h2
  exact ⟨r, t, h3, rfl, h4⟩
theorem shp_d2s : SeqAt.shaped (.list (rows.map d2)) = true := (shp_lst (n := 1) (shp_map fun r _ => shp_tup (n := 0) (shp_cons shp_int (shp_cons shp_int shp_nil)))).ok
end
theorem cutG_take {α : Type} (xs : List α) (n : Nat) : cutG xs none (some (n : Int)) = xs.take n := by
  unfold cutG
  rw [HT.sIx_none, HT.sIx_nat, List.drop_zero, Nat.sub_zero]
  rcases Nat.le_total n xs.length with h | h
  · rw [Nat.min_eq_left h]
  · rw [Nat.min_eq_right h, List.take_of_length_le (Nat.le_refl _), List.take_of_length_le h]
theorem cutG_drop {α : Type} (xs : List α) (n : Nat) : cutG xs (some (n : Int)) none = xs.drop n := by
  unfold cutG
  rw [HT.sIx_none, HT.sIx_nat]
  rcases Nat.le_total n xs.length with h | h
  · rw [Nat.min_eq_left h, List.take_of_length_le (by rw [List.length_drop]; exact Nat.le_refl _)]
  · rw [Nat.min_eq_right h, List.drop_of_length_le (Nat.le_refl _), List.drop_of_length_le h, List.take_nil]
theorem strOk_lit {z : Str} (h : PyData.strOk z = true) : PyData.strOk z = true := h
theorem dpa_app {K : PySem.W.Frag} {H : Hp} : ∀ {ds es : List PyData} {vs us : List V}, DpAll K H (vs ++ us) (ds ++ es) → vs.length = ds.length → DpAll K H vs ds ∧ DpAll K H us es
  | [], _, [], _, h, _ => ⟨.nil, h⟩
  | [], _, _ :: _, _, _, e => by simp at e
  | _ :: _, _, [], _, _, e => by simp at e
  | d :: ds, _, v :: vs, _, h, e => by
    cases h with
    | cons h1 h2 =>
      obtain ⟨a, b⟩ := dpa_app h2 (by simpa using e)
      exact ⟨.cons h1 a, b⟩
theorem nn_ints_or {K : PySem.W.Frag} {H : Hp} {x : V} {ts : List Int} {lo hi : Int} (hb : ∀ t ∈ ts, lo ≤ t ∧ t ≤ hi) (h : x ∈ ts.map V.int) : (∃ t, x = .int t ∧ lo ≤ t ∧ t ≤ hi) ∨ BadW K H x lo hi := by
  obtain ⟨t, ht, e⟩ := int_of_mem h
  exact .inl ⟨t, e, hb t ht⟩
theorem rep_len {α : Type} (xs : List α) : ∀ n : Nat, (List.replicate n xs).flatten.length = n * xs.length
  | 0 => by simp
  | n + 1 => by rw [List.replicate_succ, List.flatten_cons, List.length_append, rep_len xs n, Nat.succ_mul, Nat.add_comm]
/-! ### exceptions whose own __init__ asks their base's by its name -/
/-- S.__init__, S an own class, is ValueError's -/
structure BaseI (K : PySem.W.Frag) (S : Addr) : Prop where
  rd : PySem.W.readsIn K S (.type "type") = true
  ga : PySem.W.specialIn K (.ref S) "__getattribute__" = some (some (.builtin "type.__getattribute__"))
  vi : PySem.W.findCls K (.ref S) (.type "type") "__init__" = some (.val (.builtin "ValueError.__init__"))
structure XIniAt (K : PySem.W.Frag) (C : Addr) (qual : Str) (st : Stmt) (ps : List Str) : Prop where
  ex : ∃ (f : Addr) (fd : FuncData), Fun K "__init__" qual st f fd ∧ PySem.W.findIn K (.ref C) "__init__" = some (some (.ref f)) ∧ PySem.W.isFn K (.ref f) = true ∧ Binds K fd ps []
/-- an exception that may be made by its class's name -/
structure XMak (P : Program) (w : World) (K : PySem.W.Frag) (mg : Str → Option Value) (base : Heap) (k : Nat) (x : Str) (C : Addr) (sp : Sp) : Prop where
  ex : ∃ (f : Addr) (fd : FuncData) (ps : List Str), FnOk P w K mg base CX0 k f fd ps sp ∧ PySem.W.findIn K (.ref C) "__init__" = some (some (.ref f)) ∧ PySem.W.typeIn K (.ref f) = some (.type "function") ∧ mg x = some (.ref C) ∧ Binds K fd ps []
section
variable {P : Program} {w : World} {K : PySem.W.Frag} {mg : Str → Option Value} {base : Heap}
theorem XIniAt.xmak {x : Str} {C : Addr} {qual : Str} {st : Stmt} {N ps : List Str} {k : Nat} {sp : Sp} (hx : mg x = some (.ref C)) (d : XIniAt K C qual st ps) (S : FnScope N ps (defScope st)) (len : ∀ vs H Q E, sp vs H Q E → vs.length = ps.length)
    (hbody : ∀ (f : Addr) (cdv : Value) (A : Around) (outer : List Env) (s : Shared) (H : Hp) (vs : List V) (Q : VK) (E : XK), Room k (A.deeper (envOfC qual (defScope st) s.heap.objs.size f cdv)) → sp vs H Q E →
      ∃ t, PSs (cxOf CX0 P w K mg base N qual (defScope st) f cdv A outer s H E).nox (defBody st) t ∧ t { nx := fun _ H' => Q .non H', rt := Q } (start N vs) H) : XMak P w K mg base (k + 1) x C sp := by
  obtain ⟨f, fd, F, h1, h2, b⟩ := d.ex
  exact ⟨f, fd, ps, F.ok S len (hbody f), h1, beq_iff_eq.mp h2, hx, b⟩
end
section
variable {X : Cx} {k j : Nat} {C S : Addr} {x : Str} {sp : Sp} {p p1 p2 pos : Pos} {e : Expr} {es : List Expr} {ta : TA}
theorem pmk_x (c : XMak X.prog X.w X.K X.mg X.base k x C sp) (T : OexC X.K C) (hr : Room j X.A) (hk : k + 1 ≤ j) (hg : Gl X x) (ha : PA X (e :: es) ta)
    (hdb : (x == ("__debug__" : Str)) = false := by decide) (he : starEach (e :: es) X.env = (false, eval e X.env) :: starEach es X.env := by rfl) (hpl : (backTo pos (starEach es X.env)).any (·.1) = false := by rfl) :
    PMk X (.Call (.Name x p) (e :: es) [] pos) (tMkO C sp [] ta) := by
  obtain ⟨f, fd, ps, F, h1, h2, hm, b⟩ := c.ex
  exact pmk_oex T h1 h2 F (hr.mono hk) b .nil pass0 hg hm ha hdb he hpl
theorem pe_baseI {pl : Sem Bool} (hg : Gl X x) (hm : X.mg x = some (.ref S)) (B : BaseI X.K S) (ha : PA X (e :: es) ta)
    (hc : eval (.Call (.Attribute (.Name x p1) "__init__" p2) (e :: es) [] pos) X.env = (do
      let ov ← eval (.Name x p1) X.env
      standAt p2.atName
      let (f, first) ← holding [ov] (getMethod ov "__init__" pl)
      callWith pos f first (backTo pos (starEach (e :: es) X.env)) (backToKw pos (keywordEach [] X.env))) := by rfl)
    (hdb : (x == ("__debug__" : Str)) = false := by decide) (he : starEach (e :: es) X.env = (false, eval e X.env) :: starEach es X.env := by rfl) (hpl : (backTo pos (starEach es X.env)).any (·.1) = false := by rfl) :
    PE X (.Call (.Attribute (.Name x p1) "__init__" p2) (e :: es) [] pos) (tVeI X.K ta) := by
  constructor
  intro pins s σ H Q I h
  have asked : ∀ s1, Inv X pins σ H s1 → wpAny (model X.prog X.w) X.A (callWith pos (Value.builtin "ValueError.__init__") [] (backTo pos (starEach (e :: es) X.env)) []) (EP X pins σ Q) X.xe s1 := fun s1 I1 =>
    PyProof.Rows.callWith_method1 (thn (ha.run pos pins s1 σ H _ I1 h) fun us s2 ⟨vs, H2, I2, r, a, D, ws, evs, few, T, atA, q⟩ => by
      subst evs
      cases r with
      | @cons _ u0 _ ur r0 rr =>
        obtain rfl : u0 = Value.ref a := r0
        have few' : ur.length ≤ sizeLine := by
          have := Paired.length rr
          have := sizeLine_eq
          omega
        exact oinit_ok T I2 atA few' fun s3 I3 => ⟨.non, H2, I3, rfl, q⟩) he hpl
  refine PySem.W.methodCall_KW (ld_glob I hg hm ?_ hdb) hc
  refine PySem.W.method_cls I.kIn B.ga (PySem.W.cls_value I.kIn B.rd B.vi (by decide +kernel) ?_)
  exact asked _ (I.tok _)
end
section
variable {K : PySem.W.Frag} {σ : L2.St} {H : Hp} {D : Ends} {C a : Addr} {f : Str} {y : V} {ta : TA} {te to : TE}
theorem L_veI {R : Hp → Prop} {ws : List V} (T : OexC K C) (h : H a = some (exo a C none)) (l : ws.length ≤ 1000) (q : R H) : ∃ (a' C : Addr) (ws' : List V), V.ref a :: ws = .ref a' :: ws' ∧ ws'.length ≤ 1000 ∧ OexC K C ∧ H a' = some (exo a' C none) ∧ R H := ⟨a, C, ws, rfl, l, T, h, q⟩
theorem L_tveI {Q : VK} (h : ta σ H fun vs H1 => ∃ (a C : Addr) (ws : List V), vs = .ref a :: ws ∧ ws.length ≤ 1000 ∧ OexC K C ∧ H1 a = some (exo a C none) ∧ Q .non H1) : tVeI K ta σ H Q := h
theorem L_ost (h : te σ H fun y H1 => to σ H1 fun x H2 => ∃ a C : Addr, x = .ref a ∧ OexC K C ∧ PySem.W.findIn K (.ref C) f = some none ∧
  ((H2 a = some (exo a C none) ∧ ∀ dx, H2 dx = none → dx ≠ a → D.nx σ (upd (upd H2 dx (exd dx [(f, y)])) a (exo a C (some dx)))) ∨
    ∃ (dx : Addr) (fs : List (Str × V)), H2 a = some (exo a C (some dx)) ∧ H2 dx = some (exd dx fs) ∧ fs.length ≤ 900 ∧ D.nx σ (upd H2 dx (exd dx ((f, y) :: fs))))) : tOst K f to te D σ H := h
theorem L_ost1 {R : Hp → Prop} (T : OexC K C) (nf : PySem.W.findIn K (.ref C) f = some none) (h : H a = some (exo a C none)) (q : ∀ dx, H dx = none → dx ≠ a → R (upd (upd H dx (exd dx [(f, y)])) a (exo a C (some dx)))) :
    ∃ a' C : Addr, V.ref a = .ref a' ∧ OexC K C ∧ PySem.W.findIn K (.ref C) f = some none ∧
  ((H a' = some (exo a' C none) ∧ ∀ dx, H dx = none → dx ≠ a' → R (upd (upd H dx (exd dx [(f, y)])) a' (exo a' C (some dx)))) ∨
    ∃ (dx : Addr) (fs : List (Str × V)), H a' = some (exo a' C (some dx)) ∧ H dx = some (exd dx fs) ∧ fs.length ≤ 900 ∧ R (upd H dx (exd dx ((f, y) :: fs)))) := ⟨a, C, rfl, T, nf, .inl ⟨h, q⟩⟩
/-- what an __init__ with one field keeps -/
def XIni1 (C : Addr) (f : Str) (a : Addr) (v : V) (H : Hp) (Q : VK) : Prop := H a = some (exo a C none) ∧ ∀ d, H d = none → d ≠ a → Q .non (upd (upd H d (exd d [(f, v)])) a (exo a C (some d)))
/-- C(v) is raised -/
theorem L_mkO1 {sp : Sp} {E : XK} {v : V} (hs : ∀ a H Q E, XIni1 C f a v H Q → sp [.ref a, v] H Q E) (q : ∀ d, H d = none → E (.ref C) (some d) (upd H d (.xd [(f, v)]))) : [v].length ≤ 1000 ∧ ∀ a, H a = none → sp (.ref a :: ([v] ++ [])) (upd H a (exo a C none))
  (fun v H2 => v = .non ∧ ∃ (d : Addr) (fs : List (Str × V)), H2 a = some (exo a C (some d)) ∧ H2 d = some (exd d fs) ∧ H d = none ∧ E (.ref C) (some d) (upd (del H2 a) d (.xd fs))) (fun _ _ _ => False) := by
  refine ⟨by rw [List.length_singleton]; decide, fun a na => hs a _ _ _ ⟨upd_same, fun d nd ne => ⟨rfl, d, [(f, v)], upd_same, ?_, ?_, ?_⟩⟩⟩
  · rw [upd_ne ne, upd_same]
  · rw [upd_ne ne] at nd
    exact nd
  · rw [upd_ne ne] at nd
    have z : upd (del (upd (upd (upd H a (exo a C none)) d (exd d [(f, v)])) a (exo a C (some d))) a) d (.xd [(f, v)]) = upd H d (.xd [(f, v)]) := by
      funext b
      by_cases hb : b = d
      · rw [hb, upd_same, upd_same]
      · rw [upd_ne hb, upd_ne hb]
        by_cases ha : b = a
        · rw [ha, del_same, na]
        · rw [del_ne ha, upd_ne ha, upd_ne hb, upd_ne ha]
    rw [z]
    exact q d nd
theorem L_mkO {sp : Sp} {dvs : List V} {Q : XK} (h : ta σ H fun vs H1 => vs.length ≤ 1000 ∧ ∀ a, H1 a = none → sp (.ref a :: (vs ++ dvs)) (upd H1 a (exo a C none))
  (fun v H2 => v = .non ∧ ∃ (d : Addr) (fs : List (Str × V)), H2 a = some (exo a C (some d)) ∧ H2 d = some (exd d fs) ∧ H1 d = none ∧ Q (.ref C) (some d) (upd (del H2 a) d (.xd fs))) (fun _ _ _ => False)) : tMkO C sp dvs ta σ H Q := h
end
/-- isinstance(e, c) in e's own suite, whatever its dict -/
def rIsS (K : PySem.W.Frag) (a : Addr) (cls : Value) (d : Option Addr) : List V → Hp → VK → Prop := fun xs H Q => ∃ (D : Addr) (c : V) (u : Value) (b : Bool), xs = [.ref a, c] ∧ cls = .ref D ∧ (∀ dd, d = some dd → ∃ fs, H dd = some (.xd fs)) ∧ L2.ExcC K D ∧ ClsV c u ∧ PySem.W.kitOne K (.ref D) u = some b ∧ Q (.bl b) H
theorem call_isS {X : Cx} {a : Addr} {cls : Value} {d : Option Addr} {oe : Obj} {pn : List (Addr × Obj)} (hz : Zc cls d oe) (hf : ∃ vs, oe.data = .fields vs) : CallR (X.suite a ((a, oe) :: pn)) (.builtin "isinstance") (rIsS X.K a cls d) := by
  intro pins s σ H xs us Q I r h
  obtain ⟨D, c, u, b, rfl, rfl, hd, C, k, e, q⟩ := h
  obtain ⟨u1, u2, rfl, r1, r2⟩ := vals2 r
  cases r1
  cases k.eq r2
  obtain ⟨there, _⟩ := I.pin (a, oe) (List.mem_append_left _ List.mem_cons_self)
  obtain ⟨vs, data⟩ := hf
  have J : ∃ od, PySem.W.InstAt s.heap a oe D od := by
    have nc : PySem.W.notCls oe = true := by unfold PySem.W.notCls; rw [data] <;> rfl
    cases d with
    | none => exact ⟨none, there, hz.1, nc, by rw [hz.2]; exact True.intro⟩
    | some dd =>
      obtain ⟨fs, hdd⟩ := hd dd rfl
      obtain ⟨mA, ⟨o, es, ep, ho, _⟩, _⟩ := (show ObjOk X.prog X.w H s.heap dd (.xd fs) from I.hok dd _ hdd)
      exact ⟨some o, there, hz.1, nc, by rw [hz.2]; exact ho⟩
  obtain ⟨od, J⟩ := J
  obtain ⟨cd, hcd, _⟩ := PySem.W.any_some C.hd
  exact PySem.W.kia_one (PySem.W.kitx_exc (show (PySem.W.clsIn _ D).isSome = true by rw [hcd]; rfl) C.hg C.hk C.hs C.ha C.hn C.ht C.hm) I.kIn J e (fun z => nomatch z) fun tk => ⟨.bl b, H, I.tok tk, rfl, q⟩
theorem L_isS {K : PySem.W.Frag} {H : Hp} {Q : VK} {a D : Addr} {d : Option Addr} {c : V} {u : Value} {b : Bool} (hd : ∀ dd, d = some dd → ∃ fs, H dd = some (.xd fs)) (C : L2.ExcC K D) (k : ClsV c u) (e : PySem.W.kitOne K (.ref D) u = some b) (q : Q (.bl b) H) : rIsS K a (.ref D) d [.ref a, c] H Q := ⟨D, c, u, b, rfl, rfl, hd, C, k, e, q⟩
/-- one of two derivations -/
def tOrE (t1 t2 : TE) : TE := fun σ H Q => t1 σ H Q ∨ t2 σ H Q
theorem PE.or {X : Cx} {e : Expr} {t1 t2 : TE} (h1 : PE X e t1) (h2 : PE X e t2) : PE X e (tOrE t1 t2) :=
  ⟨fun pins s σ H Q I h => h.elim (fun h => h1.run pins s σ H Q I h) (fun h => h2.run pins s σ H Q I h)⟩
/-- what isinstance asks of an instance's own class; of the class it is asked of -/
structure InsC (K : PySem.W.Frag) (C : Addr) : Prop where
  ha : PySem.W.findIn K (.ref C) "__class__" = some (some (.builtin "object.__class__"))
  hn : PySem.W.specialIn K (.builtin "object.__class__") "__get__" = some (some (.builtin "getset_descriptor.__get__"))
  ht : PySem.W.takesIn K (.builtin "object.__class__") = some true
  hm : PySem.W.mroIn K C (.type "object") = some true
structure ClsT (K : PySem.W.Frag) (C : Addr) : Prop where
  i : PySem.W.isClsIn K C = true
  t : PySem.W.typeIn K (.ref C) = some (.type "type")
theorem tyx_I {K : PySem.W.Frag} {H : Hp} {a C dx : Addr} {fs : List (Str × V)} (h : H a = some (.ins C dx fs)) (cl : Cls K C) (c : InsC K C) : TyX K H (.ref a) (.ref C) := .base (.ins h cl c.ha c.hn c.ht c.hm)
theorem kit_own {K : PySem.W.Frag} {C D : Addr} {b : Bool} (hD : PySem.W.subIn K (.ref D) (.ref D) = some true) (k : ClsT K C) (h : PySem.W.subIn K (.ref D) (.ref C) = some b) : PySem.W.kitOne K (.ref D) (.ref C) = some b := by
  unfold PySem.W.kitOne
  by_cases e : D = C
  · subst e
    rw [hD] at h
    cases h
    rw [if_pos (by simp)]
  · rw [if_neg (by simpa using e)]
    have h2 : (PySem.W.clsIn K C).isSome = true := k.i
    show (if ((PySem.W.clsIn K C).isSome && PySem.W.typeIn K (.ref C) == some (.type "type")) = true then PySem.W.subIn K (.ref D) (.ref C) else none) = some b
    rw [if_pos (by rw [h2, k.t]; rfl)]
    exact h
theorem kit_not {K : PySem.W.Frag} {T : String} {C : Addr} {b : Bool} (k : ClsT K C) (h : PySem.W.subIn K (.type T) (.ref C) = some b) : PySem.W.kitOne K (.type T) (.ref C) = some b := by
  unfold PySem.W.kitOne
  rw [if_neg (by simp)]
  have h2 : (PySem.W.clsIn K C).isSome = true := k.i
  show (if ((PySem.W.clsIn K C).isSome && PySem.W.typeIn K (.ref C) == some (.type "type")) = true then PySem.W.subIn K (.type T) (.ref C) else none) = some b
  rw [if_pos (by rw [h2, k.t]; rfl)]
  exact h
theorem L_orl {t1 t2 : TE} {σ : L2.St} {H : Hp} {Q : VK} (h : t1 σ H Q) : tOrE t1 t2 σ H Q := .inl h
theorem L_orr {t1 t2 : TE} {σ : L2.St} {H : Hp} {Q : VK} (h : t2 σ H Q) : tOrE t1 t2 σ H Q := .inr h
theorem L_xf {a C : Addr} {cls : Value} {d : Option Addr} {f : Str} {te : TE} {σ : L2.St} {H : Hp} {Q : VK} (h : te σ H fun x H1 => x = .ref a ∧ cls = .ref C ∧ ∃ (dd : Addr) (fs : List (Str × V)) (v : V), d = some dd ∧ H1 dd = some (.xd fs) ∧ fs.lookup f = some v ∧ Q v H1) : tXf a cls d C f te σ H Q := h
theorem ExcC.xf {K : PySem.W.Frag} {C : Addr} (c : L2.ExcC K C) : XfC K C := ⟨c.hg, c.hk, c.hs, c.hd⟩
theorem L_isC {K : PySem.W.Frag} {H : Hp} {Q : VK} {x : V} {T : Value} {C : Addr} {b : Bool} (ty : TyX K H x T) (e : PySem.W.kitOne K T (.ref C) = some b) (q : Q (.bl b) H) : rIsi K [x, .ref C] H Q := ⟨x, .ref C, T, .ref C, b, rfl, .own C, ty, e, q⟩
theorem L_str1 {H : Hp} {Q : VK} {t : Int} (h : 0 ≤ t ∧ t ≤ 1000) (q : Q (.str (toString t)) H) : aStr1 [.int t] H Q := ⟨t, rfl, by have := Nat.log2_le_self t.natAbs; omega, q⟩
theorem str_short : ∀ t : Int, 0 ≤ t → t ≤ 100 → (↑(toString t) : Str).length ≤ 3 := by
  have h : ∀ n ∈ List.range 101, (↑(toString ((n : Nat) : Int)) : Str).length ≤ 3 := by decide +kernel
  intro t h0 h1
  have := h t.toNat (List.mem_range.mpr (by omega))
  rwa [Int.toNat_of_nonneg h0] at this

/-! ### exceptions held as values -/
/-- at a: an exception of the own class D, not raised; fs: its own fields -/
def XVal (H : Hp) (a D : Addr) (fs : List (Str × V)) : Prop := (fs = [] ∧ H a = some (ExI (.ref D) none a)) ∨ ∃ d, H a = some (exo a D (some d)) ∧ H d = some (exd d fs)
theorem XVal.same {H H' : Hp} {a D : Addr} {fs : List (Str × V)} (h : XVal H a D fs) (s : Same H H') : XVal H' a D fs := by
  rcases h with ⟨h1, h2⟩ | ⟨d, h1, h2⟩
  · exact .inl ⟨h1, s _ _ h2⟩
  · exact .inr ⟨d, s _ _ h1, s _ _ h2⟩
theorem xval_inst {X : Cx} {pins : List (Addr × Obj)} {σ : L2.St} {H : Hp} {s : Shared} {a D : Addr} {fs : List (Str × V)} (I : Inv X pins σ H s) (h : XVal H a D fs) : ∃ oe od, PySem.W.InstAt s.heap a oe D od := by
  rcases h with ⟨_, h⟩ | ⟨d, h1, h2⟩
  · obtain ⟨oe, J⟩ := exI_at I h
    exact ⟨oe, none, J⟩
  · obtain ⟨t1, ho⟩ := exo_at I.hok h1
    obtain ⟨mA, ⟨o, _, _, hd, _⟩, _⟩ := exd_at I.hok h2
    exact ⟨_, some o, ho, rfl, rfl, hd⟩
def rIsV (K : PySem.W.Frag) : List V → Hp → VK → Prop := fun xs H Q => ∃ (a D : Addr) (fs : List (Str × V)) (c : V) (u : Value) (b : Bool), xs = [.ref a, c] ∧ XVal H a D fs ∧ L2.ExcC K D ∧ ClsV c u ∧ PySem.W.kitOne K (.ref D) u = some b ∧ Q (.bl b) H
theorem call_isV {X : Cx} : CallR X (.builtin "isinstance") (rIsV X.K) := by
  intro pins s σ H xs us Q I r h
  obtain ⟨a, D, fs, c, u, b, rfl, hx, C, k, e, q⟩ := h
  obtain ⟨u1, u2, rfl, r1, r2⟩ := vals2 r
  cases r1
  cases k.eq r2
  obtain ⟨oe, od, J⟩ := xval_inst I hx
  obtain ⟨cd, hcd, _⟩ := PySem.W.any_some C.hd
  exact PySem.W.kia_one (PySem.W.kitx_exc (show (PySem.W.clsIn _ D).isSome = true by rw [hcd]; rfl) C.hg C.hk C.hs C.ha C.hn C.ht C.hm) I.kIn J e (fun z => nomatch z) fun tk => ⟨.bl b, H, I.tok tk, rfl, q⟩
theorem L_isV {K : PySem.W.Frag} {H : Hp} {Q : VK} {a D : Addr} {fs : List (Str × V)} {c : V} {u : Value} {b : Bool} (h : XVal H a D fs) (C : L2.ExcC K D) (k : ClsV c u) (e : PySem.W.kitOne K (.ref D) u = some b) (q : Q (.bl b) H) : rIsV K [.ref a, c] H Q := ⟨a, D, fs, c, u, b, rfl, h, C, k, e, q⟩
/-- e.f, e such a value -/
def tXv (K : PySem.W.Frag) (f : Str) (te : TE) : TE := fun σ H Q => te σ H fun x H1 => ∃ (a D d : Addr) (fs : List (Str × V)) (v : V), x = .ref a ∧ L2.ExcC K D ∧ PySem.W.findIn K (.ref D) f = some none ∧ H1 a = some (exo a D (some d)) ∧ H1 d = some (exd d fs) ∧ fs.lookup f = some v ∧ Q v H1
theorem L_xv {K : PySem.W.Frag} {f : Str} {te : TE} {σ : L2.St} {H : Hp} {Q : VK} (h : te σ H fun x H1 => ∃ (a D d : Addr) (fs : List (Str × V)) (v : V), x = .ref a ∧ L2.ExcC K D ∧ PySem.W.findIn K (.ref D) f = some none ∧ H1 a = some (exo a D (some d)) ∧ H1 d = some (exd d fs) ∧ fs.lookup f = some v ∧ Q v H1) : tXv K f te σ H Q := h
theorem pe_xv {X : Cx} {e : Expr} {te : TE} {f : Str} {pos : Pos} (he : PE X e te) (hb : attributeBase e f X.env (eval e X.env) = eval e X.env := by rfl) : PE X (.Attribute e f pos) (tXv X.K f te) := by
  constructor
  intro pins s σ H Q I h
  refine attr_of hb (thn (he.run pins s σ H _ I h) fun u s1 ⟨x, H1, I1, rx, a, D, d, fs, v, ex, C, nf, h1, h2, l, q⟩ => ?_)
  subst ex
  cases rx
  obtain ⟨t1, ho⟩ := exo_at I1.hok h1
  obtain ⟨mA, hns, rel⟩ := exd_at I1.hok h2
  obtain ⟨od, hod, hlk⟩ := lookIn_ns hns
  obtain ⟨w, hw, rw'⟩ := RelO.some_of (v := v) (o := mA f) (by rw [← l]; exact rel f)
  have J : PySem.W.InstAt s1.heap a _ D (some od) := ⟨ho, rfl, rfl, hod⟩
  exact HandSPX.exc_get I1.kIn J C.hg C.hk C.hs (PySem.W.findObj_own C.hd nf rfl (by rw [hlk, hw])) (handed_of rw') ⟨v, H1, I1.tok _, rw', q⟩
/-- C(), C without an own __init__ -/
def tMk0V (C : Addr) : TE := fun _ H Q => ∀ a, H a = none → Q (.ref a) (upd H a (ExI (.ref C) none a))
theorem pe_mk0V {X : Cx} {C : Addr} {x : Str} {p pos : Pos} (c : ExcAt X.K C) (gC : X.mg x = some (.ref C)) (hg : Gl X x) (hdb : (x == ("__debug__" : Str)) = false := by decide) : PE X (.Call (.Name x p) [] [] pos) (tMk0V C) := by
  constructor
  intro pins s σ H Q I h
  refine wpAny_Call_Name_kw (ld_glob I hg gC ?_ hdb)
  refine PySem.W.callWith_K0 I.kIn c.k ?_
  obtain ⟨bm, N, nm, qn, bs, hdct, sn, sub, ab, col, dd, k0, k1, k2, k3, k5, mN, hC, hN, hni, T⟩ := exc_obj I.kIn c.x
  refine wpAny_call_exc_subT PySem.F.excBase_ValueError T hC hN hni (fun h' a hm => ?_) (Nat.zero_le _)
  have na : H a = none := I.hok.gone hm.new
  obtain ⟨t, at_, _, _⟩ := hm.there
  refine ⟨.ref a, _, I.laidN (o := ExI (.ref C) none a) hm.keeps hm.new na ⟨⟨_, _, at_, ⟨rfl, rfl⟩, rfl⟩, ⟨_, at_⟩, fun _ _ ⟨o1, v1, z, r⟩ k => ⟨o1, v1, k o1 z, r⟩⟩, rfl, h a na⟩
/-- C(..), C with an own __init__ -/
def tMkV (C : Addr) (sp : Sp) (ta : TA) : TE := fun σ H Q => ta σ H fun vs H1 => vs.length ≤ 1000 ∧ ∀ a, H1 a = none → sp (.ref a :: vs) (upd H1 a (exo a C none)) (fun v H2 => v = .non ∧ Q (.ref a) H2) E0
theorem L_mkV {C : Addr} {sp : Sp} {ta : TA} {σ : L2.St} {H : Hp} {Q : VK} (h : ta σ H fun vs H1 => vs.length ≤ 1000 ∧ ∀ a, H1 a = none → sp (.ref a :: vs) (upd H1 a (exo a C none)) (fun v H2 => v = .non ∧ Q (.ref a) H2) E0) : tMkV C sp ta σ H Q := h
theorem L_mk0V {C : Addr} {σ : L2.St} {H : Hp} {Q : VK} (h : ∀ a, H a = none → Q (.ref a) (upd H a (ExI (.ref C) none a))) : tMk0V C σ H Q := h
theorem pe_mkV {X : Cx} {k j : Nat} {C : Addr} {x : Str} {sp : Sp} {p pos : Pos} {e : Expr} {es : List Expr} {ta : TA} (c : XMak X.prog X.w X.K X.mg X.base k x C sp) (T : OexC X.K C) (hr : Room j X.A) (hk : k + 1 ≤ j) (hg : Gl X x) (ha : PA X (e :: es) ta)
    (hdb : (x == ("__debug__" : Str)) = false := by decide) (he : starEach (e :: es) X.env = (false, eval e X.env) :: starEach es X.env := by rfl) (hpl : (backTo pos (starEach es X.env)).any (·.1) = false := by rfl) :
    PE X (.Call (.Name x p) (e :: es) [] pos) (tMkV C sp ta) := by
  obtain ⟨f, fd, ps, F, iC, tI, hm, hb⟩ := c.ex
  have room := hr.mono hk
  obtain ⟨nm, q, N, bs, bm, sn, sub, ab, col, dd, k0, k1, k2, k3, k5, hC, hbm⟩ := T.cls
  constructor
  intro pins s σ H Q I h
  refine wpAny_Call_Name_kw (ld_glob I hg hm ?_ hdb)
  refine PySem.W.callWith_K (h₀ := X.base) I.ok.mod.kin T.kC (thn (ha.run pos pins s σ H _ I h) fun us s1 ⟨vs, H1, I1, r1, hz, q1⟩ => ⟨I1.kIn, ?_⟩) he hpl
  show wpAny _ _ (call (.ref C) us) _ _ _
  have r1 : Vals vs us := r1
  have few : us.length ≤ sizeLine := by
    have z1 := Paired.length r1
    have z2 := sizeLine_eq
    omega
  obtain ⟨hp, g, dr, tk, os⟩ := s1
  -- the arguments' tuple and the exception's own place
  have old : ∀ b o, hp.get? b = some o → ((hp.push (PySem.W.kdv_tup us)).push (PySem.HandSPX.excO C hp.objs.size)).get? b = some o := fun b o z => Heap.get?_push_of_some _ (Heap.get?_push_of_some _ z)
  have here : ((hp.push (PySem.W.kdv_tup us)).push (PySem.HandSPX.excO C hp.objs.size)).get? (hp.objs.size + 1) = some (PySem.HandSPX.excO C hp.objs.size) := by heap_get
  have free : H1 (hp.objs.size + 1) = none := I1.hok.fresh (Nat.le_succ _)
  have J : Inv X pins σ (upd H1 (hp.objs.size + 1) (exo (hp.objs.size + 1) C none)) ⟨(hp.push (PySem.W.kdv_tup us)).push (PySem.HandSPX.excO C hp.objs.size), g, dr, tk, os⟩ :=
    I1.laid (t' := tk) old (Nat.le_succ _) (exo_ok here)
  have asked := q1 _ free
  have args : Vals (V.ref (hp.objs.size + 1) :: vs) (Value.ref (hp.objs.size + 1) :: us) := .cons rfl r1
  have many : (Value.ref (hp.objs.size + 1) :: us).length = ps.length := args.length.symm.trans (F.len _ _ _ _ asked)
  have bound := hb _ (Value.ref (hp.objs.size + 1) :: us) J.kIn (by rw [List.append_nil]; exact many)
  rw [List.append_nil] at bound
  refine wpAny_call (PySem.HandSPX.call_own PySem.F.excBase_ValueError (fun Y => PySem.HandSPX.refsVE_contains Y bm hbm) (I1.kIn _ _ hC) (PySem.W.looks_findIn I1.kIn iC) (fun self => PySem.W.bind_fn I1.kIn self tI) few ?_)
  refine codeAny_mono (F.run _ X.stack _ _ ⟨_, []⟩ _ _ _ E0 (room.make C us []) (J.env0.make C us []) bound args asked) fun out s' ho => ?_
  match out, ho with
  | .error e, ho => exact pass0 pins σ _ _ e s' J ho
  | .ok (.ret u), ho =>
    obtain ⟨v, H', J', rel, hv, rest⟩ := J.after ho
    cases hv
    exact ⟨rel, .ref (hp.objs.size + 1), H', J', rfl, rest⟩
  | .ok .next, ho => exact ho.elim
  | .ok .brk, ho => exact ho.elim
  | .ok .cont, ho => exact ho.elim
theorem L_dsetd {td ty tx : TE} {σ : L2.St} {H : Hp} {Q : VK} (h : td σ H fun x H1 => ∃ a, x = .ref a ∧ IsD H1 a ∧ ty σ H1 fun y H2 => tx σ H2 fun z H3 => ∃ (kvs : List (Key × V)) (k : Key), H3 a = some (.dK kvs) ∧ y = kV k ∧ kvs.length < sizeLine ∧
  (∀ v, valV kvs k = some v → Q v H3) ∧ (valV kvs k = none → Q z (upd H3 a (.dK (putK kvs k z))))) : tDSetd td ty tx σ H Q := h
end Kt
set_option Elab.async false
set_option linter.all false
set_option maxRecDepth 100000
set_option maxHeartbeats 4000000
namespace My
open PySem PySem.Spec PyProof.Rows L2 Kt
/-! one step of a reading; a look at the heap -/
local macro_rules | `(tactic| walk_at "hp") => `(tactic| first
  | assumption
  | exact upd_same
  | (with_reducible apply hp_from; assumption; walk_at "sm"))
local macro_rules | `(tactic| walk_at "hpL") => `(tactic| first | assumption | (with_reducible apply hpL; walk_at "hp"))
local macro_rules | `(tactic| walk_at "hpT") => `(tactic| first | assumption | (with_reducible apply hpT; walk_at "hp"))
local macro_rules | `(tactic| walk_at "st1") => `(tactic| with_reducible first
  | refine L_var rfl ?_
  | refine L_cons ?_
  | refine L_nil ?_
  | refine L_c ?_
  | refine L_op ?_
  | refine L_seq ?_
  | refine L_asg ?_
  | refine L_gnameE (by dsimp only [L2.wipe, List.foldl, List.set] <;> rfl) ?_
  | refine L_k ?_
  | refine L_I0 ?_
  | refine L_addI ?_
  | refine L_tTest ?_
  | refine L_ifS ?_
  | refine L_next ?_
  | refine L_call ?_
  | refine L_callS ?_
  | refine L_T ?_
  | refine L_F ?_
  | refine L_nT ?_
  | refine L_nF ?_
  | refine L_cb ?_
  | refine L_ret ?_
  | refine L_eqI ?_
  | refine L_neI ?_
  | refine L_leI ?_
  | refine L_ltI ?_
  | refine L_or ?_
  | refine L_and ?_
  | refine L_not ?_
  | refine L_tB ?_
  | refine L_drop ?_
  | refine L_bm ?_
  | refine L_tup ?_
  | refine L_lst ?_
  | refine L_fld ?_
  | refine L_chain ?_
  | refine L_gname ?_
  | refine L_eqS ?_
  | refine L_neS ?_
  | refine L_eqB ?_
  | refine L_leS ?_
  | refine L_isN ?_
  | refine L_notN ?_
  | refine L_inC ?_
  | refine L_notInC ?_
  | refine L_un ?_
  | refine L_rU ?_
  | refine L_andV ?_
  | refine L_orV ?_
  | refine L_notV ?_
  | refine L_par ?_
  | refine L_par3 ?_
  | refine L_vs2 ?_
  | refine L_vs3 ?_
  | refine L_aug rfl ?_
  | refine L_ipI ?_
  | refine L_retN ?_
  | refine L_brk ?_
  | refine L_cont ?_
  | refine L_tru ?_
  | refine L_truB ?_
  | refine L_truI ?_
  | refine L_abs ?_
  | refine L_max2 ?_
  | refine L_min2 ?_
  | refine L_int1 ?_
  | refine L_int1B ?_
  | refine L_for ?_
  | refine L_iRng1 ?_
  | refine L_iRng2 ?_
  | refine L_iList ?_
  | refine L_iTup ?_
  | refine L_yes ?_
  | refine L_iZip ?_
  | refine L_iEnum ?_
  | refine L_iStr ?_
  | refine L_iRng3 ?_
  | refine L_lc ?_
  | refine L_make ?_
  | refine L_nnT ?_
  | refine L_nnF ?_
  | refine L_disp1 ?_
  | refine L_rng2 ?_
  | refine L_bm0 ?_
  | refine L_neB ?_
  | refine L_dnew ?_
  | refine L_sl ?_
  | refine L_noPart ?_
  | refine L_part ?_
  | refine L_ki ?_
  | refine L_methE ?_
  | refine L_meth ?_
  | refine L_makeE ?_
  | refine L_gCons ?_
  | refine L_gNil ?_
  | refine L_sub ?_
  | refine L_sFld ?_)
local macro_rules | `(tactic| walk_at "st") => `(tactic| first | walk_at "st1" | walk_at "op" | with_reducible refine L_ifE ?_)
local macro_rules | `(tactic| walk_at "stn") => `(tactic| repeat first | walk_at "st1" | walk_at "op")
local macro_rules | `(tactic| walk_at "sts") => `(tactic| repeat walk_at "st")
/-! the same, and what is shown by itself: sizes, bounds, what stands in the heap -/
local macro_rules | `(tactic| walk_at "bd") => `(tactic| first | exact bd_mod (by decide) | exact bd_64 (by decide) | exact bd_64 (by omega))
local macro_rules | `(tactic| walk_at "sa1") => `(tactic| first
  | walk_at "st"
  | (with_reducible refine L_mulI (Bd.cmul (n := 64) (m := 64) (by walk_at "bd") (by walk_at "bd")) ?_)
  | (with_reducible refine L_I (cdiv_lit (by first | decide | omega)) ?_)
  | (with_reducible refine L_powE (i := 10) (j := 9) (n := 1000000000) (cpow_lit (by decide)) (by decide) ?_)
  | (with_reducible refine L_powE (i := 10) (j := 6) (n := 1000000) (cpow_lit (by decide)) (by decide) ?_)
  | (with_reducible refine L_powE (i := 10) (j := 10) (n := 10000000000) (cpow_lit (by decide)) (by decide) ?_)
  | (with_reducible refine L_powE (i := 10) (j := 12) (n := 1000000000000) (cpow_lit (by decide)) (by decide) ?_)
  | (with_reducible refine L_powE (i := 10) (j := 13) (n := 10000000000000) (cpow_lit (by decide)) (by decide) ?_)
  | (with_reducible refine L_powE (i := 10) (j := 20) (n := 100000000000000000000) (cpow_lit (by decide)) (by decide) ?_)
  | (with_reducible refine L_powE (i := 10) (j := 29) (n := 100000000000000000000000000000) (cpow_lit (by decide)) (by decide) ?_)
  | (with_reducible refine L_powE (i := 10) (j := 30) (n := 1000000000000000000000000000000) (cpow_lit (by decide)) (by decide) ?_)
  | (with_reducible refine L_powE (i := 10) (j := 39) (n := 1000000000000000000000000000000000000000) (cpow_lit (by decide)) (by decide) ?_)
  | (with_reducible refine L_powE (i := 10) (j := 40) (n := 10000000000000000000000000000000000000000) (cpow_lit (by decide)) (by decide) ?_)
  | (with_reducible refine L_powE (i := 10) (j := 60) (n := 1000000000000000000000000000000000000000000000000000000000000) (cpow_lit (by decide)) (by decide) ?_)
  | (with_reducible refine L_powE (i := 2) (j := 40) (n := 1099511627776) (cpow_lit (by decide)) (by decide) ?_)
  | (with_reducible refine L_I (show _ < _ by first | decide | omega) ?_)
  | (with_reducible refine L_ixT (by walk_at "hpT") (by with_unfolding_all rfl) ?_)
  | (with_reducible refine L_ixL (by walk_at "hpL") (by with_unfolding_all rfl) ?_)
  | (with_reducible refine L_lenL (by walk_at "hpL") ?_)
  | (with_reducible refine L_lenT (by walk_at "hpT") ?_)
  | walk_at "fd"
  | (with_reducible refine L_methv (by walk_at "hp") (by with_unfolding_all rfl) ?_)
  | (with_reducible refine L_isi (.base (.int _)) (b := true) (by decide +kernel) ?_)
  | (with_reducible refine L_isi (.base (.int _)) (b := false) (by decide +kernel) ?_)
  | (with_reducible refine L_dT (by first | assumption | omega) ?_)
  | (with_reducible refine L_dF (by first | assumption | omega) ?_)
  | (with_reducible refine L_ndT (by first | assumption | omega) ?_)
  | (with_reducible refine L_ndF (by first | assumption | omega) ?_))
local macro_rules | `(tactic| walk_at "sa") => `(tactic| repeat walk_at "sa1")
/-! what stood stands -/
local macro_rules | `(tactic| walk_at "sm") => `(tactic| first
  | assumption
  | exact Same.refl _
  | (with_reducible apply same_upd'; assumption; walk_at "sm")
  | (with_reducible apply same_mut'; assumption; walk_at "sm")
  | (with_reducible apply same_via; assumption; walk_at "sm"))
/-! a new list or tuple: its place p, hp : H p = none, the heap behind it Hn, that all stands, what stands at p -/
local macro_rules | `(tactic| walk_at "nw") => `(tactic| (
  (refine L_new (by first | decide | exact sz_dec (by simp)) ?_)
  (intro p hp)
  (generalize hg : upd _ p _ = Hn)
  (have sn := same_newE hg hp)
  (have en := upd_at hg)
  (clear hg)))
/-! plain things as data -/
local macro_rules | `(tactic| walk_at "dpa") => `(tactic| first
  | exact .nil
  | (refine .cons (by first | exact .int _ | exact .str _ | exact .bl _ | exact .non | assumption) ?_; walk_at "dpa"))
local macro_rules | `(tactic| walk_at "nwp") => `(tactic| (
  (intro p hp)
  (generalize hg : upd _ p _ = Hn)
  (have sn := same_newE hg hp)
  (have en := upd_at hg)
  (clear hg)))

def top (i : Nat) : Stmt := PySem.Challenge.pw_fewspeak_k06_groups_of_crowds.main.body.getD i (.Pass ⟨0, 0, 0, 0⟩)
abbrev s__law_cell : Stmt := top 8
abbrev s__law_mixed : Stmt := top 9
abbrev s_groups_of : Stmt := top 6
abbrev s__law_refused : Stmt := top 13
abbrev s__law_kinds : Stmt := top 12
abbrev s__law_crowd : Stmt := top 10
abbrev s__law_due : Stmt := top 11
abbrev s__law_right : Stmt := top 14
abbrev s_law : Stmt := top 15
theorem sc__law_cell : FnScope ["_law_script", "_law_k"] ["_law_script", "_law_k"] (defScope s__law_cell) := ⟨rfl, rfl, rfl, by decide +kernel, rfl, by decide +kernel, by decide +kernel⟩
theorem sc__law_mixed : FnScope ["_law_cell_here", "_law_k", "_law_number"] ["_law_cell_here", "_law_k"] (defScope s__law_mixed) := ⟨rfl, rfl, rfl, by decide +kernel, rfl, by decide +kernel, by decide +kernel⟩
theorem sc_groups_of : FnScope ["crowd", "found", "place", "size", "path", "members"] ["crowd"] (defScope s_groups_of) := ⟨rfl, rfl, rfl, by decide +kernel, rfl, by decide +kernel, by decide +kernel⟩
theorem sc__law_refused : FnScope ["_law_crowd_here", "_law_error", "e"] ["_law_crowd_here"] (defScope s__law_refused) := ⟨rfl, rfl, rfl, by decide +kernel, rfl, by decide +kernel, by decide +kernel⟩
theorem sc__law_kinds : FnScope ["_law_found", "_law_group", "_law_member"] ["_law_found"] (defScope s__law_kinds) := ⟨rfl, rfl, rfl, by decide +kernel, rfl, by decide +kernel, by decide +kernel⟩
theorem sc__law_crowd : FnScope ["_law_cell_here", "_law_many", "_law_deep", "_law_places", "_law_crowd_here", "_law_k", "_law_number", "_law_turn", "_law_place", "_law_size", "_law_path", "_law_j"] ["_law_cell_here"] (defScope s__law_crowd) := ⟨rfl, rfl, rfl, by decide +kernel, rfl, by decide +kernel, by decide +kernel⟩
theorem sc__law_due : FnScope ["_law_crowd_here", "_law_names", "_law_member", "_law_found", "_law_name", "_law_row"] ["_law_crowd_here"] (defScope s__law_due) := ⟨rfl, rfl, rfl, by decide +kernel, rfl, by decide +kernel, by decide +kernel⟩
theorem sc__law_right : FnScope ["_law_crowd_here", "_law_handed", "_law_found", "_law_name", "_law_members", "_law_bare", "_law_place", "_law_size", "_law_path"] ["_law_crowd_here"] (defScope s__law_right) := ⟨rfl, rfl, rfl, by decide +kernel, rfl, by decide +kernel, by decide +kernel⟩
theorem sc_law : FnScope ["_law_script", "_law_k", "_law_crowd_here"] ["_law_script"] (defScope s_law) := ⟨rfl, rfl, rfl, by decide +kernel, rfl, by decide +kernel, by decide +kernel⟩
/-- what the top has written -/
structure Txt (K : PySem.W.Frag) (mg : Str → Option Value) : Prop where
  n_len : mg "len" = none
  n_list : mg "list" = none
  m_NoLevel : mg "NoLevel" = some (.ref (cA mg "NoLevel"))
  x_NoLevel : ExcAt K (cA mg "NoLevel")
  n_ValueError : mg "ValueError" = none
  n_isinstance : mg "isinstance" = none
  m_NoPlan : mg "NoPlan" = some (.ref (cA mg "NoPlan"))
  m_NoUnits : mg "NoUnits" = some (.ref (cA mg "NoUnits"))
  m_SpeakError : mg "SpeakError" = some (.ref (cA mg "SpeakError"))
  y_SpeakError : ExcK K (cA mg "SpeakError")
  e_NoLevel_SpeakError : PySem.W.subIn K (.ref (cA mg "NoLevel")) (.ref (cA mg "SpeakError")) = some true
  n_bool : mg "bool" = none
  n_tuple : mg "tuple" = none
  n_range : mg "range" = none
  n_max : mg "max" = none
  n_min : mg "min" = none
  z_NoLevel : L2.ExcC K (cA mg "NoLevel")
  y_NoLevel : ExcK K (cA mg "NoLevel")
  y_NoUnits : ExcK K (cA mg "NoUnits")
  y_NoPlan : ExcK K (cA mg "NoPlan")
  e_NoLevel_NoLevel : PySem.W.subIn K (.ref (cA mg "NoLevel")) (.ref (cA mg "NoLevel")) = some true
  e_NoLevel_NoUnits : PySem.W.subIn K (.ref (cA mg "NoLevel")) (.ref (cA mg "NoUnits")) = some false
  e_NoLevel_NoPlan : PySem.W.subIn K (.ref (cA mg "NoLevel")) (.ref (cA mg "NoPlan")) = some false
  et_NoLevel_ValueError : PySem.W.subIn K (.ref (cA mg "NoLevel")) (.type "ValueError") = some true
  d__law_cell : DefAt K mg "_law_cell" s__law_cell ["_law_script", "_law_k"]
  d__law_mixed : DefAt K mg "_law_mixed" s__law_mixed ["_law_cell_here", "_law_k"]
  d_groups_of : DefAt K mg "groups_of" s_groups_of ["crowd"]
  d__law_refused : DefAt K mg "_law_refused" s__law_refused ["_law_crowd_here"]
  d__law_kinds : DefAt K mg "_law_kinds" s__law_kinds ["_law_found"]
  d__law_crowd : DefAt K mg "_law_crowd" s__law_crowd ["_law_cell_here"]
  d__law_due : DefAt K mg "_law_due" s__law_due ["_law_crowd_here"]
  d__law_right : DefAt K mg "_law_right" s__law_right ["_law_crowd_here"]
  d_law : DefAt K mg "law" s_law ["_law_script"]
section
variable {P : Program} {w : World} {K : PySem.W.Frag} {mg : Str → Option Value} {base : Heap}
def sp__law_cell (K : PySem.W.Frag) (mg : Str → Option Value) : Sp := fun vs H Q _ => match vs with | [.ref a, .int k] => ∃ ns : List Int, SqL K H a (ns.map V.int) ∧ 0 ≤ k ∧ k < 1000000 ∧ ∀ c, Q (.int c) H | _ => False
theorem q__law_cell {H : Hp} {Q : VK} {E : XK} {a : Addr} {k : Int} (q : ∃ ns : List Int, SqL K H a (ns.map V.int) ∧ 0 ≤ k ∧ k < 1000000 ∧ ∀ c, Q (.int c) H) : sp__law_cell K mg [.ref a, .int k] H Q E := q
local macro_rules | `(tactic| walk_at "op") => `(tactic| with_reducible refine q__law_cell ?_)
theorem c__law_cell (T : Txt K mg) : Cal P w K mg base 1 "_law_cell" (sp__law_cell K mg) := by
  refine T.d__law_cell.cal (k := 0) sc__law_cell (by intro vs H Q E h; unfold sp__law_cell at h; split at h <;> first | rfl | exact h.elim) fun f cdv A outer s H vs Q E hr h => ?_
  refine ⟨_, (pss_cons (ps_if (pt_cmpR op_ltA (pv 1) (pe_callB call_lenA (by rfl) T.n_len (by decide +kernel) (pa_cons (pv 0) pa_nil)) (nomark _))
    (pss_one (ps_ret (pe_ix ix_seq (pv 0) (pv 1) (fun _ _ => rfl))))
    pss_nil)
    (pss_one (ps_ret (pe_op op_addA (pe_op op_mulA pe_int (pv 1)) pe_int)))), ?_⟩
  try simp only [cxOf_K, cxOf_K', cxOf_mg, cxOf_mg']
  unfold sp__law_cell at h
  split at h
  case h_2 => exact h.elim
  rename_i a k
  rw [show L2.start ["_law_script", "_law_k"] [V.ref a, V.int k] = [some (V.ref a), some (V.int k)] from rfl]
  obtain ⟨ns, hS, hk, hk2, q⟩ := h
  walk_at "sts"
  refine L_lenL hS ?_
  walk_at "sts"
  refine L_d (fun c => ?_) (fun c => ?_)
  · walk_at "sts"
    exact L_ixL hS (atI_ints hk (by rw [List.length_map] at c; exact c)) (q _)
  · walk_at "sa"
    exact q _
def sp__law_mixed (K : PySem.W.Frag) (mg : Str → Option Value) : Sp := fun vs H Q _ => match vs with | [.int c, .int k] => 0 ≤ k ∧ k < 1000000 ∧ ∀ r, 0 ≤ r → r < 1099511627776 → Q (.int r) H | _ => False
theorem q__law_mixed {H : Hp} {Q : VK} {E : XK} {c : Int} {k : Int} (q : 0 ≤ k ∧ k < 1000000 ∧ ∀ r, 0 ≤ r → r < 1099511627776 → Q (.int r) H) : sp__law_mixed K mg [.int c, .int k] H Q E := q
local macro_rules | `(tactic| walk_at "op") => `(tactic| with_reducible refine q__law_mixed ?_)
theorem c__law_mixed (T : Txt K mg) : Cal P w K mg base 1 "_law_mixed" (sp__law_mixed K mg) := by
  refine T.d__law_mixed.cal (k := 0) sc__law_mixed (by intro vs H Q E h; unfold sp__law_mixed at h; split at h <;> first | rfl | exact h.elim) fun f cdv A outer s H vs Q E hr h => ?_
  refine ⟨_, (pss_cons (ps_if (pt_cmpR (op_eqA hr) (pe_op op_mod (pv 0) pe_int) pe_int (nomark _))
    (pss_one (ps_ret (pe_op op_mod (pe_op op_shr (pv 0) (pe_op op_addA pe_int (pe_op op_mulA pe_int (pv 1)))) (pe_op op_pow pe_int pe_int))))
    pss_nil)
    (pss_cons (ps_set (i := 2) sc__law_mixed.nd rfl (.inl rfl) (pe_op op_mod (pe_op op_addA (pv 0) (pe_op op_mulA pe_int (pv 1))) pe_int))
    (pss_cons (ps_set (i := 2) sc__law_mixed.nd rfl (.inl rfl) (pe_op op_mod (pe_op op_addA (pe_op op_mulA (pv 2) pe_int) (pv 1)) pe_int))
    (pss_cons (ps_set (i := 2) sc__law_mixed.nd rfl (.inl rfl) (pe_op op_mod (pe_op op_mulA (pv 2) (pe_op op_addA (pv 2) pe_int)) pe_int))
    (pss_one (ps_ret (pe_op op_mod (pe_op op_mulA (pv 2) (pe_op op_addA (pv 2) pe_int)) pe_int))))))), ?_⟩
  try simp only [cxOf_K, cxOf_K', cxOf_mg, cxOf_mg']
  unfold sp__law_mixed at h
  split at h
  case h_2 => exact h.elim
  rename_i c k
  rw [show L2.start ["_law_cell_here", "_law_k", "_law_number"] [V.int c, V.int k] = [some (V.int c), some (V.int k), none] from rfl]
  obtain ⟨hk, hk2, q⟩ := h
  walk_at "sts"
  refine L_I (by decide) ?_
  walk_at "sts"
  refine L_d (fun c => ?_) (fun c => ?_)
  · walk_at "sts"
    refine L_mulI ((bd_64 (by decide)).cmul (bd_64 (by omega))) ?_
    walk_at "sts"
    refine L_I (show 0 ≤ _ by omega) ?_
    walk_at "sa"
    exact q _ (Int.emod_nonneg _ (by decide)) (Int.emod_lt_of_pos _ (by decide))
  · walk_at "sa"
    exact q _ (Int.emod_nonneg _ (by decide)) (Int.lt_of_lt_of_le (Int.emod_lt_of_pos _ (by decide)) (by decide))
/-- a member: its place, size and path -/
abbrev Mem := Int × Int × List Str
def d3 (m : Mem) : PyData := .tuple [.int m.1, .int m.2.1, .tuple (m.2.2.map .str)]
/-- a crowd's groups, one member more -/
def put : List (Str × List Mem) → Str → Mem → List (Str × List Mem)
  | [], n, m => [(n, [m])]
  | (k, ms) :: g, n, m => if k = n then (k, ms ++ [m]) :: g else (k, ms) :: put g n m
def grow (g : List (Str × List Mem)) (m : Mem) : List (Str × List Mem) := put g (m.2.2.headD "") (m.1, m.2.1, m.2.2.tail)
def groups (c : List Mem) : List (Str × List Mem) := c.foldl grow []
def dg (g : Str × List Mem) : PyData := .tuple [.str g.1, .list (g.2.map d3)]
/-- the names in the order in which they come first -/
def names (c : List Mem) : List Str := c.foldl (fun ns m => if m.2.2.headD "" ∈ ns then ns else ns ++ [m.2.2.headD ""]) []
def bare (c : List Mem) (n : Str) : List Mem := (c.filter fun m => m.2.2.headD "" == n).map fun m => (m.1, m.2.1, m.2.2.tail)
theorem put_names : ∀ (g : List (Str × List Mem)) (n : Str) (m : Mem), (put g n m).map (·.1) = if n ∈ g.map (·.1) then g.map (·.1) else g.map (·.1) ++ [n]
  | [], n, m => by simp [put]
  | (k, ms) :: g, n, m => by
    unfold put
    by_cases h : k = n
    · subst h
      simp
    · rw [if_neg h, List.map_cons, put_names g n m, List.map_cons]
      have h' : ¬ n = k := fun z => h z.symm
      by_cases hm : n ∈ g.map (·.1)
      · rw [if_pos hm, if_pos (List.mem_cons_of_mem _ hm)]
      · rw [if_neg hm, if_neg (by rw [List.mem_cons]; exact fun z => z.elim h' hm)]
        rfl
theorem groups_snoc (c : List Mem) (m : Mem) : groups (c ++ [m]) = grow (groups c) m := by simp [groups, List.foldl_append]
theorem names_snoc (c : List Mem) (m : Mem) : names (c ++ [m]) = if m.2.2.headD "" ∈ names c then names c else names c ++ [m.2.2.headD ""] := by simp [names, List.foldl_append]
theorem bare_snoc (c : List Mem) (m : Mem) (n : Str) : bare (c ++ [m]) n = if m.2.2.headD "" = n then bare c n ++ [(m.1, m.2.1, m.2.2.tail)] else bare c n := by
  unfold bare
  rw [List.filter_append, List.map_append]
  by_cases h : m.2.2.headD "" = n
  · rw [if_pos h, List.filter_cons_of_pos (by simpa using h)]
    rfl
  · rw [if_neg h, List.filter_cons_of_neg (by simpa using h)]
    simp
theorem put_map (f f' : Str → List Mem) (n : Str) (m : Mem) (hn : f' n = f n ++ [m]) (ho : ∀ k, k ≠ n → f' k = f k) : ∀ ns : List Str, ns.Nodup → (n ∉ ns → f n = []) →
    put (ns.map fun k => (k, f k)) n m = (if n ∈ ns then ns else ns ++ [n]).map fun k => (k, f' k)
  | [], _, he => by
    have := he (by simp)
    simp [put, hn, this]
  | k :: ns, hd, he => by
    rw [List.map_cons, put]
    obtain ⟨h1, h2⟩ := List.nodup_cons.mp hd
    by_cases h : k = n
    · subst h
      rw [if_pos rfl, if_pos (List.mem_cons_self ..), List.map_cons, hn]
      congr 1
      exact List.map_congr_left fun j hj => by rw [ho j fun z => h1 (z ▸ hj)]
    · have h' : ¬ n = k := fun z => h z.symm
      rw [if_neg h, put_map f f' n m hn ho ns h2 fun z => he (by rw [List.mem_cons]; exact fun y => y.elim h' z)]
      by_cases hm : n ∈ ns
      · rw [if_pos hm, if_pos (List.mem_cons_of_mem _ hm), List.map_cons, ho k h]
      · rw [if_neg hm, if_neg (by rw [List.mem_cons]; exact fun z => z.elim h' hm), List.cons_append, List.map_cons, ho k h]
theorem names_go : ∀ (c : List Mem) (ns : List Str), ns.Nodup → (c.foldl (fun ns m => if m.2.2.headD "" ∈ ns then ns else ns ++ [m.2.2.headD ""]) ns).Nodup
  | [], _, h => h
  | m :: c, ns, h0 => by
    rw [List.foldl_cons]
    refine names_go c _ ?_
    split
    · exact h0
    · rename_i h
      rw [List.nodup_append]
      exact ⟨h0, by simp, fun a ha b hb => by rw [List.mem_singleton.mp hb]; exact fun z => h (z ▸ ha)⟩
theorem names_nodup (c : List Mem) : (names c).Nodup := names_go c [] List.nodup_nil
theorem names_mem : ∀ (c : List Mem) (ns : List Str) (n : Str), n ∈ c.foldl (fun ns m => if m.2.2.headD "" ∈ ns then ns else ns ++ [m.2.2.headD ""]) ns ↔ n ∈ ns ∨ ∃ m ∈ c, m.2.2.headD "" = n
  | [], ns, n => by simp
  | m :: c, ns, n => by
    rw [List.foldl_cons, names_mem c _ n]
    by_cases h : m.2.2.headD "" ∈ ns
    · rw [if_pos h]
      constructor
      · rintro (z | ⟨k, hk, e⟩)
        · exact .inl z
        · exact .inr ⟨k, List.mem_cons_of_mem _ hk, e⟩
      · rintro (z | ⟨k, hk, e⟩)
        · exact .inl z
        · rcases List.mem_cons.mp hk with rfl | hk
          · exact .inl (e ▸ h)
          · exact .inr ⟨k, hk, e⟩
    · rw [if_neg h, List.mem_append, List.mem_singleton]
      constructor
      · rintro ((z | z) | ⟨k, hk, e⟩)
        · exact .inl z
        · exact .inr ⟨m, List.mem_cons_self .., z.symm⟩
        · exact .inr ⟨k, List.mem_cons_of_mem _ hk, e⟩
      · rintro (z | ⟨k, hk, e⟩)
        · exact .inl (.inl z)
        · rcases List.mem_cons.mp hk with rfl | hk
          · exact .inl (.inr e.symm)
          · exact .inr ⟨k, hk, e⟩
theorem bare_none {c : List Mem} {n : Str} (h : n ∉ names c) : bare c n = [] := by
  have h' : ∀ m ∈ c, ¬ m.2.2.headD "" = n := fun m hm e => h ((names_mem c [] n).mpr (.inr ⟨m, hm, e⟩))
  unfold bare
  rw [List.filter_eq_nil_iff.mpr fun m hm => by simpa using h' m hm]
  rfl
/-- the groups, name by name -/
theorem groups_due : ∀ c : List Mem, groups c = (names c).map fun n => (n, bare c n) := by
  intro c
  suffices h : ∀ r : List Mem, groups r.reverse = (names r.reverse).map fun n => (n, bare r.reverse n) by
    have := h c.reverse
    rwa [List.reverse_reverse] at this
  intro r
  induction r with
  | nil => rfl
  | cons m r ih =>
    rw [List.reverse_cons, groups_snoc, names_snoc, ih, grow]
    exact put_map (bare r.reverse) (bare (r.reverse ++ [m])) _ _ (by rw [bare_snoc, if_pos rfl]) (fun k hk => by rw [bare_snoc, if_neg fun z => hk z.symm]) _ (names_nodup _) bare_none
/-- the tuples of a heap -/
noncomputable def tp (H : Hp) : Hp := rs (fun b => ∃ xs, H b = some (.tup xs)) H
theorem tp_same {H H' : Hp} (h : ∀ b xs, H b = some (.tup xs) → H' b = some (.tup xs)) : Same (tp H) (tp H') := rs_same fun b o ⟨xs, e⟩ z => ⟨⟨xs, h b xs e⟩, by rw [e] at z; cases z; exact h b xs e⟩
theorem tp_upd {H : Hp} {a : Addr} {o : HO} (h : ∀ xs, H a ≠ some (.tup xs)) : Same (tp H) (tp (upd H a o)) := tp_same fun b xs e => by rw [upd_ne fun z => h xs (by rw [← z]; exact e)]; exact e
/-- what groups_of holds: names, members and the places of the lists -/
structure GI (K : PySem.W.Frag) (H H' : Hp) (pd : Addr) (L : List ((Str × List Mem) × Addr)) : Prop where
  dict : H' pd = some (.dK (L.map fun x => (Sum.inr x.1.1, V.ref x.2)))
  nd : (L.map (·.2)).Nodup
  nn : (L.map (·.1.1)).Nodup
  off : ∀ x ∈ L, x.2 ≠ pd ∧ H x.2 = none
  at_ : ∀ x ∈ L, ∃ vs, H' x.2 = some (.lst vs) ∧ DpAll K (tp H') vs (x.1.2.map d3)
theorem GI.same {K : PySem.W.Frag} {H H' H2 : Hp} {pd : Addr} {L : List ((Str × List Mem) × Addr)} (g : GI K H H' pd L) (s : Same H' H2) : GI K H H2 pd L where
  dict := s _ _ g.dict
  nd := g.nd
  nn := g.nn
  off := g.off
  at_ := fun x hx => by
    obtain ⟨vs, h1, h2⟩ := g.at_ x hx
    exact ⟨vs, s _ _ h1, h2.same (tp_same fun b xs e => s _ _ e)⟩
/-- a new name -/
theorem GI.new {K : PySem.W.Frag} {H H' : Hp} {pd p : Addr} {n : Str} {L : List ((Str × List Mem) × Addr)} (g : GI K H H' pd L) (hn : n ∉ L.map (·.1.1)) (hp : H' p = some (.lst [])) (hH : H p = none) (hl : p ∉ L.map (·.2)) :
    GI K H (upd H' pd (.dK (L.map (fun x => (Sum.inr x.1.1, V.ref x.2)) ++ [(Sum.inr n, V.ref p)]))) pd (L ++ [((n, []), p)]) := by
  have npd : p ≠ pd := fun z => by rw [z, g.dict] at hp; cases hp
  have up : Same (tp H') (tp (upd H' pd (.dK (L.map (fun x => (Sum.inr x.1.1, V.ref x.2)) ++ [(Sum.inr n, V.ref p)])))) := tp_upd fun xs z => by rw [g.dict] at z; cases z
  refine ⟨by rw [upd_same, List.map_append]; rfl, ?_, ?_, ?_, ?_⟩
  · rw [List.map_append, List.nodup_append]
    exact ⟨g.nd, by simp, fun a ha b hb => by rw [List.mem_singleton.mp hb]; exact fun z => hl (by rw [← show a = p from z]; exact ha)⟩
  · rw [List.map_append, List.nodup_append]
    exact ⟨g.nn, by simp, fun a ha b hb => by rw [List.mem_singleton.mp hb]; exact fun z => hn (by rw [← show a = n from z]; exact ha)⟩
  · intro x hx
    rcases List.mem_append.mp hx with hx | hx
    · exact g.off x hx
    · rw [List.mem_singleton.mp hx]
      exact ⟨npd, hH⟩
  · intro x hx
    rcases List.mem_append.mp hx with hx | hx
    · obtain ⟨vs, h1, h2⟩ := g.at_ x hx
      exact ⟨vs, by rw [upd_ne (g.off x hx).1]; exact h1, h2.same up⟩
    · rw [List.mem_singleton.mp hx]
      exact ⟨[], by rw [upd_ne npd]; exact hp, .nil⟩
/-- one member more -/
def addM (n : Str) (m : Mem) (x : (Str × List Mem) × Addr) : (Str × List Mem) × Addr := if x.1.1 = n then ((x.1.1, x.1.2 ++ [m]), x.2) else x
theorem addM_snd (n : Str) (m : Mem) (x : (Str × List Mem) × Addr) : (addM n m x).2 = x.2 := by unfold addM; split <;> rfl
theorem addM_nm (n : Str) (m : Mem) (x : (Str × List Mem) × Addr) : (addM n m x).1.1 = x.1.1 := by unfold addM; split <;> rfl
theorem uniq_by {α β : Type} (f : α → β) : ∀ {L : List α}, (L.map f).Nodup → ∀ {x y : α}, x ∈ L → y ∈ L → f x = f y → x = y
  | [], _, _, _, hx, _, _ => nomatch hx
  | z :: L, h, x, y, hx, hy, e => by
    rw [List.map_cons, List.nodup_cons] at h
    obtain ⟨h1, h2⟩ := h
    cases hx with
    | head =>
      cases hy with
      | head => rfl
      | tail _ hy => exact absurd (List.mem_map_of_mem (f := f) hy) (by rw [← e]; exact h1)
    | tail _ hx =>
      cases hy with
      | head => exact absurd (List.mem_map_of_mem (f := f) hx) (by rw [e]; exact h1)
      | tail _ hy => exact uniq_by f h2 hx hy e
/-- a member is put at the end of its group's list -/
theorem GI.app {K : PySem.W.Frag} {H H' : Hp} {pd l : Addr} {n : Str} {ms : List Mem} {m : Mem} {vs : List V} {v : V} {L : List ((Str × List Mem) × Addr)} (g : GI K H H' pd L) (hx : ((n, ms), l) ∈ L) (hv : H' l = some (.lst vs)) (hm : Dp K (tp H') v (d3 m)) :
    GI K H (upd H' l (.lst (vs ++ [v]))) pd (L.map (addM n m)) := by
  have up : Same (tp H') (tp (upd H' l (.lst (vs ++ [v])))) := tp_upd fun xs z => by rw [hv] at z; cases z
  have hl := (g.off _ hx).1
  refine ⟨?_, ?_, ?_, ?_, ?_⟩
  · rw [upd_ne (Ne.symm hl), g.dict, List.map_map]
    congr 2
    exact List.map_congr_left fun x _ => by show _ = (Sum.inr (addM n m x).1.1, V.ref (addM n m x).2); rw [addM_snd, addM_nm]
  · rw [List.map_map, show ((fun x : (Str × List Mem) × Addr => x.2) ∘ addM n m) = fun x => x.2 from funext fun x => addM_snd n m x]
    exact g.nd
  · rw [List.map_map, show ((fun x : (Str × List Mem) × Addr => x.1.1) ∘ addM n m) = fun x => x.1.1 from funext fun x => addM_nm n m x]
    exact g.nn
  · intro y hy
    obtain ⟨x, h1, rfl⟩ := List.mem_map.mp hy
    rw [addM_snd]
    exact g.off x h1
  · intro y hy
    obtain ⟨x, h1, rfl⟩ := List.mem_map.mp hy
    rw [addM_snd]
    obtain ⟨ws, h2, h3⟩ := g.at_ x h1
    by_cases e : x.2 = l
    · have z : x = ((n, ms), l) := uniq_by _ g.nd h1 hx e
      subst z
      rw [hv] at h2
      cases h2
      refine ⟨vs ++ [v], by rw [upd_same], ?_⟩
      unfold addM
      rw [if_pos rfl, List.map_append]
      exact (h3.same up).snoc (hm.same up)
    · have ne : x.1.1 ≠ n := fun z => e (by rw [uniq_by _ g.nn h1 hx z])
      refine ⟨ws, by rw [upd_ne e]; exact h2, ?_⟩
      unfold addM
      rw [if_neg ne]
      exact h3.same up
theorem putA (n : Str) (m : Mem) : ∀ L : List ((Str × List Mem) × Addr), (L.map (·.1.1)).Nodup → n ∈ L.map (·.1.1) → (L.map (addM n m)).map (·.1) = put (L.map (·.1)) n m
  | [], _, h => by simp at h
  | x :: L, hd, h => by
    rw [List.map_cons, List.nodup_cons] at hd
    obtain ⟨h1, h2⟩ := hd
    rw [List.map_cons, List.map_cons, List.map_cons]
    unfold put
    by_cases e : x.1.1 = n
    · rw [if_pos e]
      have : L.map (addM n m) = L := by
        refine (List.map_congr_left fun y hy => ?_).trans (List.map_id L)
        unfold addM
        rw [if_neg fun z => h1 (by rw [e, ← z]; exact List.mem_map_of_mem (f := fun x : (Str × List Mem) × Addr => x.1.1) hy)]
        rfl
      rw [this]
      unfold addM
      rw [if_pos e]
    · rw [if_neg e, putA n m L h2 ((List.mem_cons.mp h).resolve_left fun z => e z.symm)]
      unfold addM
      rw [if_neg e]
theorem put_new (n : Str) (m : Mem) : ∀ g : List (Str × List Mem), n ∉ g.map (·.1) → put (g ++ [(n, [])]) n m = put g n m
  | [], _ => by simp [put]
  | x :: g, h => by
    rw [List.map_cons, List.mem_cons] at h
    have e : ¬ x.1 = n := fun z => h (.inl z.symm)
    rw [List.cons_append]
    unfold put
    rw [if_neg e, if_neg e, put_new n m g fun z => h (.inr z)]
theorem valV_L (n : Str) : ∀ L : List ((Str × List Mem) × Addr), (n ∉ L.map (·.1.1) ∧ valV (L.map fun x => ((Sum.inr x.1.1 : Key), V.ref x.2)) (Sum.inr n) = none) ∨ ∃ x ∈ L, x.1.1 = n ∧ valV (L.map fun x => ((Sum.inr x.1.1 : Key), V.ref x.2)) (Sum.inr n) = some (.ref x.2)
  | [] => .inl ⟨by simp, rfl⟩
  | x :: L => by
    by_cases e : x.1.1 = n
    · exact .inr ⟨x, List.mem_cons_self .., e, valV_pos (p := ((Sum.inr x.1.1 : Key), V.ref x.2)) (by rw [e])⟩
    · have e' : ¬ (((Sum.inr x.1.1 : Key), V.ref x.2)).1 = (Sum.inr n : Key) := fun z => e (Sum.inr.inj z)
      rcases valV_L n L with ⟨h1, h2⟩ | ⟨y, h1, h2, h3⟩
      · exact .inl ⟨by rw [List.map_cons, List.mem_cons]; exact fun z => z.elim (fun z => e z.symm) h1, (valV_neg e').trans h2⟩
      · exact .inr ⟨y, List.mem_cons_of_mem _ h1, h2, (valV_neg e').trans h3⟩
theorem names_len : ∀ (c : List Mem) (ns : List Str), (c.foldl (fun ns m => if m.2.2.headD "" ∈ ns then ns else ns ++ [m.2.2.headD ""]) ns).length ≤ ns.length + c.length
  | [], _ => Nat.le_refl _
  | m :: c, ns => by
    rw [List.foldl_cons]
    refine Nat.le_trans (names_len c _) ?_
    rw [List.length_cons]
    split
    · omega
    · rw [List.length_append, List.length_singleton]
      omega
theorem groups_len (c : List Mem) : (groups c).length ≤ c.length := by
  rw [groups_due, List.length_map]
  have := names_len c []
  simpa [names] using this
theorem groups_in {c : List Mem} {x : Str × List Mem} (h : x ∈ groups c) : x.2.length ≤ c.length := by
  rw [groups_due] at h
  obtain ⟨n, _, rfl⟩ := List.mem_map.mp h
  unfold bare
  rw [List.length_map]
  exact List.length_filter_le ..
theorem groups_take {c : List Mem} {i : Nat} {m : Mem} {n : Str} {ns : List Str} (h : c[i]? = some m) (hns : m.2.2 = n :: ns) : groups (c.take (i + 1)) = put (groups (c.take i)) n (m.1, m.2.1, ns) := by
  rw [List.take_add_one, h, Option.toList_some, groups_snoc, grow, hns]
  rfl
theorem tp_at {H : Hp} {b : Addr} {xs : List V} (h : H b = some (.tup xs)) : tp H b = some (.tup xs) := rs_at ⟨xs, h⟩ h
theorem L_slT {K : PySem.W.Frag} {H : Hp} {a : Addr} {n : Str} {ns : List Str} {Q : VK} (h : SqT K H a ((n :: ns).map V.str)) (q : ∀ p, H p = none → Q (.ref p) (upd H p (.tup (ns.map V.str)))) : rSlT K (.ref a) (some 1) none H Q := by
  refine ⟨a, _, rfl, h, fun z => ?_, fun p hp => ?_⟩
  · have := z.1
    rw [List.length_map, List.length_cons] at this
    simp [HT.sIx] at this
  · rw [cutV_map, show (1 : Int) = ((1 : Nat) : Int) from rfl, cutG_drop]
    exact q p hp
theorem L_items {te : TE} {σ : L2.St} {H : Hp} {Q : VK} (h : te σ H fun x H1 => LiI.rItemsL x H1 Q) : LiI.tListItems te σ H Q := h
theorem L_lstRg {te : L2.St → Hp → (Int → Int → Hp → Prop) → Prop} {σ : L2.St} {H : Hp} {Q : VK} (h : te σ H fun a b H1 => RgOk a b ∧ ∀ q, H1 q = none → Q (.ref q) (upd H1 q (.lst (rgV a b)))) : tLstRg te σ H Q := h
theorem L_rg1 {ta : TE} {σ : L2.St} {H : Hp} {Q : Int → Int → Hp → Prop} (h : ta σ H fun x H1 => ∃ n, x = .int n ∧ Q 0 n H1) : tRg1 ta σ H Q := h
theorem L_popAt {H : Hp} {Q : VK} {l : Addr} {xs : List V} {i : Int} (h : H l = some (.lst xs)) (h0 : 0 ≤ i) (h1 : i < xs.length) (hb : xs.length ≤ 1000) (q : ∀ y, Q y (upd H l (.lst (xs.eraseIdx i.toNat)))) : rPopAt (.ref l) [.int i] H Q :=
  ⟨l, xs, i, i.toNat, xs[i.toNat]'(by omega), rfl, rfl, h, by omega, by omega, seqIndex_of h0 h1, List.getElem?_eq_getElem _, q _⟩
theorem paired_unmap {α β γ : Type} {F : α → γ → Prop} (f : β → γ) : ∀ {xs : List α} {ys : List β}, Paired F xs (ys.map f) → Paired (fun a b => F a (f b)) xs ys
  | xs, [], h => by cases h; exact .nil
  | xs, y :: ys, h => by cases h with | cons h1 h2 => exact .cons h1 (paired_unmap f h2)
theorem hit3 {K : PySem.W.Frag} {H : Hp} {us : List V} {c : List Mem} (hA : DpAll K H us (c.map d3)) {i : Nat} {x : V} (hx : us[i]? = some x) : ∃ m t q, c[i]? = some m ∧ x = .ref t ∧ SqT K H t [.int m.1, .int m.2.1, .ref q] ∧ SqT K H q (m.2.2.map V.str) := by
  obtain ⟨d, h1, h2⟩ := hA.of hx
  rw [List.getElem?_map] at h1
  obtain ⟨m, h3, rfl⟩ := Option.map_eq_some_iff.mp h1
  obtain ⟨t, x1, x2, x3, rfl, h4, h5, h6, h7⟩ := of_t3 h2
  rw [of_int h5, of_int h6] at h4
  obtain ⟨q, xs, rfl, h8, h9⟩ := of_tup h7
  rw [of_strs h9] at h8
  exact ⟨m, t, q, h3, rfl, h4, h8⟩
def sp_groups_of (K : PySem.W.Frag) (mg : Str → Option Value) : Sp := fun vs H Q E => match vs with | [.ref a] => ∃ (us : List V) (c : List Mem), SqL K H a us ∧ DpAll K H us (c.map d3) ∧ c.length ≤ 24 ∧ (∀ m ∈ c, ∀ s ∈ m.2.2, PyData.strOk s = true) ∧ (((∃ m r, c = m :: r ∧ m.2.2 = []) ∧ ∀ H', Same H H' → E (.ref (cA mg "NoLevel")) none H') ∨ ((∀ m ∈ c, m.2.2 ≠ []) ∧ ∀ p ts pd L H', Same H H' → H p = none → H' p = some (.lst (ts.map V.ref)) → GI K H H' pd L → L.map (·.1) = groups c → p ∉ L.map (·.2) → Paired (fun (t : Addr) (x : (Str × List Mem) × Addr) => H' t = some (.tup [.str x.1.1, .ref x.2])) ts L → Q (.ref p) H')) | _ => False
theorem q_groups_of {H : Hp} {Q : VK} {E : XK} {a : Addr} (q : ∃ (us : List V) (c : List Mem), SqL K H a us ∧ DpAll K H us (c.map d3) ∧ c.length ≤ 24 ∧ (∀ m ∈ c, ∀ s ∈ m.2.2, PyData.strOk s = true) ∧ (((∃ m r, c = m :: r ∧ m.2.2 = []) ∧ ∀ H', Same H H' → E (.ref (cA mg "NoLevel")) none H') ∨ ((∀ m ∈ c, m.2.2 ≠ []) ∧ ∀ p ts pd L H', Same H H' → H p = none → H' p = some (.lst (ts.map V.ref)) → GI K H H' pd L → L.map (·.1) = groups c → p ∉ L.map (·.2) → Paired (fun (t : Addr) (x : (Str × List Mem) × Addr) => H' t = some (.tup [.str x.1.1, .ref x.2])) ts L → Q (.ref p) H'))) : sp_groups_of K mg [.ref a] H Q E := q
local macro_rules | `(tactic| walk_at "op") => `(tactic| with_reducible refine q_groups_of ?_)
theorem c_groups_of (T : Txt K mg) : CalX P w K mg base 1 "groups_of" (sp_groups_of K mg) := by
  refine T.d_groups_of.calX (k := 0) sc_groups_of (by intro vs H Q E h; unfold sp_groups_of at h; split at h <;> first | rfl | exact h.elim) fun f cdv A outer s H vs Q E hr h => ?_
  refine ⟨_, (pss_cons (ps_set (i := 1) sc_groups_of.nd rfl (.inl rfl) pe_dnewK)
    (pss_cons (ps_for (passes_of rfl) rfl (pi_list (pv 0)) (pg_tup rfl (pgs_cons (pg_name (i := 2) sc_groups_of.nd rfl (.inl rfl)) (pgs_cons (pg_name (i := 3) sc_groups_of.nd rfl (.inl rfl)) (pgs_cons (pg_name (i := 4) sc_groups_of.nd rfl (.inl rfl)) pgs_nil))))
    (pss_cons (ps_if (pt_cmpR (op_eqA hr) (pv 4) (pe_tup pa_nil) (nomark _))
    (pss_one (ps_raise rfl (takes_of rfl rfl rfl rfl) (pmk_own0 T.x_NoLevel T.m_NoLevel (by rfl))))
    pss_nil)
    (pss_cons (ps_set (i := 5) sc_groups_of.nd rfl (.inl rfl) (pe_dsetd (pv 1) (pe_ix ix_seq (pv 4) pe_int (fun _ _ => rfl)) (pe_lst pa_nil) ⟨rfl, rfl, rfl, rfl⟩))
    (pss_one (ps_expr (pe_bm PySem.F.plainAttrs_list PySem.F.slot_list_append PySem.F.type_list_append mt_append (pv 5) (pa_cons (pe_tup (pa_cons (pv 2) (pa_cons (pv 3) (pa_cons (pe_slice sl_tup (pv 4) (po_some pe_int) po_none) pa_nil)))) pa_nil)))))))
    (pss_one (ps_ret (LiI.pe_listItems rfl (pv 1) (by rfl) T.n_list (by decide +kernel)))))), ?_⟩
  try simp only [cxOf_K, cxOf_K', cxOf_mg, cxOf_mg']
  unfold sp_groups_of at h
  split at h
  case h_2 => exact h.elim
  rename_i a
  rw [show L2.start ["crowd", "found", "place", "size", "path", "members"] [V.ref a] = [some (V.ref a), none, none, none, none, none] from rfl]
  obtain ⟨us, c, hL, hA, hl, hok, h⟩ := h
  have hul := hA.len
  rw [List.length_map] at hul
  walk_at "sts"
  walk_at "nwp"
  rename_i pd hpd H1 s1 e1
  walk_at "sts"
  refine L_rl (s1.seq hL) ?_
  rcases h with ⟨⟨m, r, rfl, hm⟩, q⟩ | ⟨hne, q⟩
  · refine f_it walk_list (fun i σ' H' => i = 0 ∧ H' = H1 ∧ σ' = [some (.ref a), some (.ref pd), none, none, none, none]) ⟨rfl, rfl, rfl⟩ (fun _ _ _ _ p => p.2.1 ▸ s1.seq hL) ?_ ?_
    · rintro i x σ' H' H'' hi ⟨rfl, rfl, rfl⟩ ⟨e2, hx⟩
      subst e2
      obtain ⟨m', t, p, h1, rfl, h2, h3⟩ := hit3 hA hx
      cases h1
      rw [hm] at h3
      refine L_gTup (s1.seqT h2) rfl ?_
      walk_at "sts"
      walk_at "nw"
      rename_i p2 hp2 H2 s2 e2
      refine L_eqR (d := .tuple []) (.tup ((s1.trans s2).seqT h3) .nil) (.tup (.of e2) .nil) (shp_tup (n := 0) shp_nil).ok ?_
      walk_at "sts"
      exact q _ (s1.trans s2)
    · rintro σ' H' ⟨z, _⟩
      simp only [List.length_cons] at hul
      omega
  refine f_it walk_list (fun i σ' H' => ∃ (L : List ((Str × List Mem) × Addr)) (v2 v3 v4 v5 : Option V), Same H H' ∧ σ' = [some (.ref a), some (.ref pd), v2, v3, v4, v5] ∧ GI K H H' pd L ∧ L.map (·.1) = groups (c.take i)) ⟨[], none, none, none, none, s1, rfl, ⟨by rw [e1]; rfl, by simp, by simp, by simp, by simp⟩, by simp [groups]⟩ (fun _ _ _ _ ⟨_, _, _, _, _, p, _⟩ => p.seq hL) ?_ ?_
  · rintro i x σ' H2 H2' hi ⟨L, v2, v3, v4, v5, s2, rfl, gi, hg⟩ ⟨e2, hx⟩
    subst e2
    obtain ⟨m, t, p, h1, rfl, h2, h3⟩ := hit3 hA hx
    have hmem := List.mem_of_getElem? h1
    obtain ⟨n, ns, hns⟩ : ∃ n ns, m.2.2 = n :: ns := by
      cases e : m.2.2 with
      | nil => exact absurd e (hne m hmem)
      | cons n ns => exact ⟨n, ns, rfl⟩
    rw [hns] at h3
    refine L_gTup (s2.seqT h2) rfl ?_
    walk_at "sts"
    walk_at "nw"
    rename_i p3 hp3 H3 s3 e3
    refine L_eqD (d := .tuple ((n :: ns).map .str)) (e := .tuple []) (.tup ((s2.trans s3).seqT h3) (dp_strs _)) (.tup (.of e3) .nil) (shp_tup (n := 0) (shp_map fun s hs => shp_str (hok m hmem s (by rw [hns]; exact hs)))).ok (shp_tup (n := 0) shp_nil).ok ?_
    rw [show ((PyData.tuple (List.map PyData.str (n :: ns))).eqv (PyData.tuple [])) = false from rfl]
    walk_at "sts"
    refine L_dsetd ?_
    walk_at "sts"
    have g3 := gi.same s3
    refine ⟨pd, rfl, .inl ⟨_, .inl g3.dict⟩, ?_⟩
    walk_at "sts"
    refine L_ixT (v := .str n) ((s2.trans s3).seqT h3) (atI_int (by decide) rfl) ?_
    walk_at "sts"
    walk_at "nw"
    rename_i p4 hp4 H4 s4 e4
    have g4 := g3.same s4
    have s14 := (s2.trans s3).trans s4
    refine ⟨_, .inr n, g4.dict, rfl, ?_, fun v hv => ?_, fun hv => ?_⟩
    · rw [List.length_map]
      have := groups_len (c.take i)
      rw [← hg, List.length_map] at this
      rw [List.length_take] at this
      exact sz_lt (by omega)
    · rcases valV_L n L with ⟨_, z⟩ | ⟨⟨⟨n', ms⟩, l⟩, hx5, rfl, z⟩
      · rw [z] at hv
        cases hv
      rw [z] at hv
      cases hv
      walk_at "sts"
      obtain ⟨vs, h5, h6⟩ := g4.at_ _ hx5
      have g5 := g4
      have s15 := s14
      have hlen : vs.length ≤ 24 := by
        have := h6.len
        rw [List.length_map] at this
        have z2 := groups_in (c := c.take i) (by rw [← hg]; exact List.mem_map_of_mem (f := fun x : (Str × List Mem) × Addr => x.1) hx5)
        rw [List.length_take] at z2
        have z3 : vs.length = ms.length := this
        have z4 : ms.length ≤ min i c.length := z2
        omega
      refine L_tyL (.of h5) ?_
      walk_at "sts"
      refine L_slT (s15.seqT h3) ?_
      walk_at "nwp"
      rename_i p6 hp6 H6 s6 e6
      walk_at "sts"
      walk_at "nw"
      rename_i p7 hp7 H7 s7 e7
      have g7 := (g5.same s6).same s7
      have h7 := s7 _ _ (s6 _ _ h5)
      walk_at "sts"
      refine L_app h7 (sz_lt (by omega)) ?_
      refine ⟨_, _, _, _, _, same_mut (s15.trans (s6.trans s7)) (g5.off _ hx5).2, rfl, g7.app (m := (m.1, m.2.1, ns)) hx5 h7 (.tup (.of (tp_at e7)) (.cons (.int _) (.cons (.int _) (.cons (.tup (.of (tp_at (s7 _ _ e6))) (dp_strs ns)) .nil)))), ?_⟩
      rw [putA _ _ _ g5.nn (List.mem_map_of_mem (f := fun x : (Str × List Mem) × Addr => x.1.1) hx5), groups_take h1 hns, ← hg]
    · rcases valV_L n L with ⟨hn, z⟩ | ⟨x, hx5, _, z⟩
      case inr =>
        rw [z] at hv
        cases hv
      rw [putK_new _ hv]
      walk_at "sts"
      have nl : p4 ∉ L.map (·.2) := fun z => by
        obtain ⟨x, hx, e⟩ := List.mem_map.mp z
        obtain ⟨vs, y, _⟩ := g3.at_ x hx
        rw [e, hp4] at y
        cases y
      have hH : H p4 = none := (s2.trans s3).free hp4
      have g5 := g4.new hn e4 hH nl
      have np : p4 ≠ pd := fun z => by
        have := g3.dict
        rw [← z, hp4] at this
        cases this
      have s15 := same_mut (o := HO.dK (L.map (fun x => (Sum.inr x.1.1, V.ref x.2)) ++ [(Sum.inr n, V.ref p4)])) s14 hpd
      have h5 : upd H4 pd (HO.dK (L.map (fun x => (Sum.inr x.1.1, V.ref x.2)) ++ [(Sum.inr n, V.ref p4)])) p4 = some (.lst []) := by rw [upd_ne np]; exact e4
      have hx5 : ((n, []), p4) ∈ L ++ [((n, ([] : List Mem)), p4)] := List.mem_append_right _ (List.mem_singleton.mpr rfl)
      generalize upd H4 pd (HO.dK (L.map (fun x => (Sum.inr x.1.1, V.ref x.2)) ++ [(Sum.inr n, V.ref p4)])) = H5 at g5 s15 h5
      refine L_tyL (.of h5) ?_
      walk_at "sts"
      refine L_slT (s15.seqT h3) ?_
      walk_at "nwp"
      rename_i p6 hp6 H6 s6 e6
      walk_at "sts"
      walk_at "nw"
      rename_i p7 hp7 H7 s7 e7
      have g7 := (g5.same s6).same s7
      have h7 := s7 _ _ (s6 _ _ h5)
      walk_at "sts"
      refine L_app h7 (by simp; exact sz_lt (by decide)) ?_
      refine ⟨_, _, _, _, _, same_mut (s15.trans (s6.trans s7)) (g5.off _ hx5).2, rfl, g7.app (m := (m.1, m.2.1, ns)) hx5 h7 (.tup (.of (tp_at e7)) (.cons (.int _) (.cons (.int _) (.cons (.tup (.of (tp_at (s7 _ _ e6))) (dp_strs ns)) .nil)))), ?_⟩
      rw [putA _ _ _ g5.nn (List.mem_map_of_mem (f := fun x : (Str × List Mem) × Addr => x.1.1) hx5), groups_take h1 hns, ← hg]
      rw [List.map_append]
      exact put_new n _ _ (by rw [List.map_map]; exact hn)
  · rintro σ' H2 ⟨L, v2, v3, v4, v5, s2, rfl, gi, hg⟩
    rw [List.take_of_length_le (by omega)] at hg
    walk_at "sts"
    refine L_items ?_
    walk_at "sts"
    refine ⟨pd, _, rfl, gi.dict, fun H3 p ts k hp hts np e pr => ?_⟩
    refine q p ts pd L H3 (s2.trans k) (s2.free hp) e (gi.same k) hg (fun z => ?_) (paired_unmap (F := fun (t : Addr) (q : Key × V) => H3 t = some (.tup [kV q.1, q.2])) (fun x : (Str × List Mem) × Addr => ((Sum.inr x.1.1 : Key), V.ref x.2)) pr)
    obtain ⟨x, hx, e'⟩ := List.mem_map.mp z
    obtain ⟨vs, y, _⟩ := gi.at_ x hx
    rw [e', hp] at y
    cases y
def sp__law_refused (K : PySem.W.Frag) (mg : Str → Option Value) : Sp := fun vs H Q _ => match vs with | [.ref a] => ∃ (us : List V) (m : Mem) (r : List Mem), SqL K H a us ∧ DpAll K H us ((m :: r).map d3) ∧ (m :: r).length ≤ 24 ∧ (∀ x ∈ m :: r, x.2.2 = []) ∧ ∀ H', Same H H' → Q (.bl true) H' | _ => False
theorem q__law_refused {H : Hp} {Q : VK} {E : XK} {a : Addr} (q : ∃ (us : List V) (m : Mem) (r : List Mem), SqL K H a us ∧ DpAll K H us ((m :: r).map d3) ∧ (m :: r).length ≤ 24 ∧ (∀ x ∈ m :: r, x.2.2 = []) ∧ ∀ H', Same H H' → Q (.bl true) H') : sp__law_refused K mg [.ref a] H Q E := q
local macro_rules | `(tactic| walk_at "op") => `(tactic| with_reducible refine q__law_refused ?_)
theorem c__law_refused (T : Txt K mg) : Cal P w K mg base 2 "_law_refused" (sp__law_refused K mg) := by
  refine T.d__law_refused.cal (k := 1) sc__law_refused (by intro vs H Q E h; unfold sp__law_refused at h; split at h <;> first | rfl | exact h.elim) fun f cdv A outer s H vs Q E hr h => ?_
  refine ⟨_, (pss_cons (ps_set (i := 1) sc__law_refused.nd rfl (.inl rfl) pe_non)
    (pss_cons (ps_try_asT (i := 2) (tb := fun W => (tDrop (tCallS (sp_groups_of K mg) (fun σ => WE W σ) (tCons (tVar 0) tNil)))) (ts := fun xa xcls xd => (tAsg (tVar 2) (gName 1))) rfl rfl sc__law_refused.nd rfl rfl rfl ⟨rfl, by decide, .inl T.m_SpeakError⟩ takes0 (fun W pn xe tk po => by exact (pss_one (ps_expr (pe_xS (c_groups_of T) hr (by decide) (by rfl) (fun σ => passAt tk σ) (pa_cons (pv 0) pa_nil))))) (fun a oe cls d pn hz hf => by exact (pss_one (ps_set (i := 1) sc__law_refused.nd rfl (.inl rfl) (pv 2)))))
    (pss_cons (ps_if (PW.pt (pw_or (pt_not (pt_val (pe_callB call_isX (by rfl) T.n_isinstance (by decide +kernel) (pa_cons (pv 1) (pa_cons (pe_glob (v := .ref (cA mg "NoLevel")) (by rfl) T.m_NoLevel rfl) pa_nil))))) (pw_or1 (pt_not (pt_val (pe_callB call_isX (by rfl) T.n_isinstance (by decide +kernel) (pa_cons (pv 1) (pa_cons (pe_ty "ValueError" (by rfl) T.n_ValueError (by decide +kernel)) pa_nil))))))))
    (pss_one (ps_ret pe_bl))
    pss_nil)
    (pss_one (ps_ret (pe_not (pe_callB call_isXT (by rfl) T.n_isinstance (by decide +kernel) (pa_cons (pv 1) (pa_cons (pe_tup (pa_cons (pe_glob (v := .ref (cA mg "NoUnits")) (by rfl) T.m_NoUnits rfl) (pa_cons (pe_glob (v := .ref (cA mg "NoPlan")) (by rfl) T.m_NoPlan rfl) pa_nil))) pa_nil))))))))), ?_⟩
  try simp only [cxOf_K, cxOf_K', cxOf_mg, cxOf_mg']
  unfold sp__law_refused at h
  split at h
  case h_2 => exact h.elim
  rename_i a
  rw [show L2.start ["_law_crowd_here", "_law_error", "e"] [V.ref a] = [some (V.ref a), none, none] from rfl]
  obtain ⟨us, m, r, hL, hA, hl, hm, q⟩ := h
  walk_at "sts"
  refine ⟨us, m :: r, hL, hA, hl, fun x hx s hs => (by rw [hm x hx] at hs; cases hs), .inl ⟨⟨m, r, rfl, hm m (List.mem_cons_self ..)⟩, fun H0 s0 => ?_⟩⟩
  refine L_asT (T.y_SpeakError.exm T.e_NoLevel_SpeakError) fun a na => ?_
  walk_at "sts"
  intro na2
  have s1 := same_new (o := ExI (.ref (cA mg "NoLevel")) none a) na2
  have e1 : (upd H0 a (ExI (.ref (cA mg "NoLevel")) none a)) a = some (ExI (.ref (cA mg "NoLevel")) none a) := upd_same
  generalize upd H0 a (ExI (.ref (cA mg "NoLevel")) none a) = H1 at s1 e1
  walk_at "sts"
  refine L_isX e1 T.z_NoLevel (.own _) (kit_ref T.e_NoLevel_NoLevel T.y_NoLevel T.e_NoLevel_NoLevel) ?_
  walk_at "sts"
  refine L_isX e1 T.z_NoLevel (.ty _) (kit_typ (by decide +kernel) T.et_NoLevel_ValueError) ?_
  walk_at "sts"
  walk_at "nw"
  rename_i p2 hp2 H2 s2 e2
  walk_at "sts"
  refine L_isXT (s2 _ _ e1) T.z_NoLevel e2 (.cons (.own _) (.cons (.own _) .nil)) (kit_none fun u hu => ?_) ?_
  · simp only [List.mem_cons, List.not_mem_nil, or_false] at hu
    rcases hu with rfl | rfl
    · exact kit_ref T.e_NoLevel_NoLevel T.y_NoUnits T.e_NoLevel_NoUnits
    · exact kit_ref T.e_NoLevel_NoLevel T.y_NoPlan T.e_NoLevel_NoPlan
  walk_at "sts"
  exact q _ (s0.trans (s1.trans s2))
def sp__law_kinds (K : PySem.W.Frag) (mg : Str → Option Value) : Sp := fun vs H Q _ => match vs with | [.ref p] => ∃ (H0 : Hp) (pd : Addr) (ts : List Addr) (L : List ((Str × List Mem) × Addr)), H p = some (.lst (ts.map V.ref)) ∧ GI K H0 H pd L ∧ Paired (fun (t : Addr) (x : (Str × List Mem) × Addr) => H t = some (.tup [.str x.1.1, .ref x.2])) ts L ∧ Q (.bl true) H | _ => False
theorem q__law_kinds {H : Hp} {Q : VK} {E : XK} {p : Addr} (q : ∃ (H0 : Hp) (pd : Addr) (ts : List Addr) (L : List ((Str × List Mem) × Addr)), H p = some (.lst (ts.map V.ref)) ∧ GI K H0 H pd L ∧ Paired (fun (t : Addr) (x : (Str × List Mem) × Addr) => H t = some (.tup [.str x.1.1, .ref x.2])) ts L ∧ Q (.bl true) H) : sp__law_kinds K mg [.ref p] H Q E := q
local macro_rules | `(tactic| walk_at "op") => `(tactic| with_reducible refine q__law_kinds ?_)
theorem c__law_kinds (T : Txt K mg) : Cal P w K mg base 1 "_law_kinds" (sp__law_kinds K mg) := by
  refine T.d__law_kinds.cal (k := 0) sc__law_kinds (by intro vs H Q E h; unfold sp__law_kinds at h; split at h <;> first | rfl | exact h.elim) fun f cdv A outer s H vs Q E hr h => ?_
  refine ⟨_, (pss_cons (ps_if (pt_not (pt_val (pe_callB call_isi (by rfl) T.n_isinstance (by decide +kernel) (pa_cons (pv 0) (pa_cons (pe_ty "list" (by rfl) T.n_list (by decide +kernel)) pa_nil)))))
    (pss_one (ps_ret pe_bl))
    pss_nil)
    (pss_cons (ps_for PassesOwn.never rfl (pi_list (pv 0)) (pg_name (i := 1) sc__law_kinds.nd rfl (.inl rfl))
    (pss_cons (ps_if (PW.pt (pw_or (pt_not (pt_val (pe_callB call_isi (by rfl) T.n_isinstance (by decide +kernel) (pa_cons (pv 1) (pa_cons (pe_ty "tuple" (by rfl) T.n_tuple (by decide +kernel)) pa_nil))))) (pw_or (pt_cmpR (op_neA hr) (pe_callB call_lenA (by rfl) T.n_len (by decide +kernel) (pa_cons (pv 1) pa_nil)) pe_int (nomark _)) (pw_or1 (pt_not (pt_val (pe_callB call_isi (by rfl) T.n_isinstance (by decide +kernel) (pa_cons (pe_ix ix_seq (pv 1) pe_int (fun _ _ => rfl)) (pa_cons (pe_ty "list" (by rfl) T.n_list (by decide +kernel)) pa_nil)))))))))
    (pss_one (ps_ret pe_bl))
    pss_nil)
    (pss_one (ps_for PassesOwn.never rfl (pi_list (pe_ix ix_seq (pv 1) pe_int (fun _ _ => rfl))) (pg_name (i := 2) sc__law_kinds.nd rfl (.inl rfl))
    (pss_cons (ps_if (PW.pt (pw_or (pt_not (pt_val (pe_callB call_isi (by rfl) T.n_isinstance (by decide +kernel) (pa_cons (pv 2) (pa_cons (pe_ty "tuple" (by rfl) T.n_tuple (by decide +kernel)) pa_nil))))) (pw_or (pt_cmpR (op_neA hr) (pe_callB call_lenA (by rfl) T.n_len (by decide +kernel) (pa_cons (pv 2) pa_nil)) pe_int (nomark _)) (pw_or1 (pt_not (pt_val (pe_callB call_isi (by rfl) T.n_isinstance (by decide +kernel) (pa_cons (pe_ix ix_seq (pv 2) pe_int (fun _ _ => rfl)) (pa_cons (pe_ty "tuple" (by rfl) T.n_tuple (by decide +kernel)) pa_nil)))))))))
    (pss_one (ps_ret pe_bl))
    pss_nil)
    (pss_one (ps_if (PW.pt (pw_or (pt_val (pe_callB call_isi (by rfl) T.n_isinstance (by decide +kernel) (pa_cons (pe_ix ix_seq (pv 2) pe_int (fun _ _ => rfl)) (pa_cons (pe_ty "bool" (by rfl) T.n_bool (by decide +kernel)) pa_nil)))) (pw_or1 (pt_val (pe_callB call_isi (by rfl) T.n_isinstance (by decide +kernel) (pa_cons (pe_ix ix_seq (pv 2) pe_int (fun _ _ => rfl)) (pa_cons (pe_ty "bool" (by rfl) T.n_bool (by decide +kernel)) pa_nil)))))))
    (pss_one (ps_ret pe_bl))
    pss_nil)))))))
    (pss_one (ps_ret pe_bl)))), ?_⟩
  try simp only [cxOf_K, cxOf_K', cxOf_mg, cxOf_mg']
  unfold sp__law_kinds at h
  split at h
  case h_2 => exact h.elim
  rename_i p
  rw [show L2.start ["_law_found", "_law_group", "_law_member"] [V.ref p] = [some (V.ref p), none, none] from rfl]
  obtain ⟨H0, pd, ts, L, hp, gi, pr, q⟩ := h
  have hpL : SqL K H p (ts.map V.ref) := .of hp
  walk_at "sts"
  refine L_isi (tyx_L (.of hp)) (b := true) (by decide +kernel) ?_
  walk_at "sts"
  refine L_rl (.of hp) ?_
  refine f_it walk_list (fun i σ' H' => H' = H ∧ ∃ v1 v2, σ' = [some (.ref p), v1, v2]) ⟨rfl, _, _, rfl⟩ (fun _ _ _ _ p => p.1 ▸ hpL) ?_ ?_
  · rintro i x σ' H' H'' hi ⟨e1, v1, v2, rfl⟩ ⟨e2, hx⟩
    subst e2
    subst e1
    rw [List.getElem?_map] at hx
    obtain ⟨t, ht, rfl⟩ := Option.map_eq_some_iff.mp hx
    obtain ⟨y, hy, et⟩ := LiI.paired_get pr ht
    obtain ⟨vs, h5, h6⟩ := gi.at_ _ (List.mem_of_getElem? hy)
    have hA := h6.same rs_sub
    have h5L : SqL K H'' y.2 vs := .of h5
    walk_at "sts"
    refine L_isi (tyx_T (.of et)) (b := true) (by decide +kernel) ?_
    walk_at "sts"
    refine L_lenT (.of et) ?_
    walk_at "sts"
    refine L_ndF rfl ?_
    walk_at "sts"
    refine L_ixT (.of et) rfl ?_
    walk_at "sts"
    refine L_isi (tyx_L (.of h5)) (b := true) (by decide +kernel) ?_
    walk_at "sts"
    refine L_ixT (.of et) rfl ?_
    refine L_rl (.of h5) ?_
    refine f_it walk_list (fun i σ' H' => H' = H'' ∧ ∃ v2, σ' = [some (.ref p), some (.ref t), v2]) ⟨rfl, _, rfl⟩ (fun _ _ _ _ p => p.1 ▸ h5L) ?_ ?_
    · rintro j z σ' H1 H2 hj ⟨e1, v2, rfl⟩ ⟨e2, hz⟩
      subst e2
      subst e1
      obtain ⟨m, t2, q2, h1, rfl, h2, h3⟩ := hit3 hA hz
      walk_at "sts"
      refine L_isi (tyx_T h2) (b := true) (by decide +kernel) ?_
      walk_at "sts"
      refine L_lenT h2 ?_
      walk_at "sts"
      refine L_ndF rfl ?_
      walk_at "sts"
      refine L_ixT h2 rfl ?_
      walk_at "sts"
      refine L_isi (tyx_T h3) (b := true) (by decide +kernel) ?_
      walk_at "sts"
      refine L_ixT h2 rfl ?_
      walk_at "sts"
      refine L_isi (.base (.int _)) (b := false) (by decide +kernel) ?_
      walk_at "sts"
      refine L_ixT h2 rfl ?_
      walk_at "sts"
      refine L_isi (.base (.int _)) (b := false) (by decide +kernel) ?_
      walk_at "sts"
      exact ⟨rfl, _, rfl⟩
    · rintro σ' H1 ⟨e1, v2, rfl⟩
      subst e1
      exact ⟨rfl, _, _, rfl⟩
  · rintro σ' H1 ⟨e1, v1, v2, rfl⟩
    subst e1
    walk_at "sts"
    exact q
def sp__law_crowd (K : PySem.W.Frag) (mg : Str → Option Value) : Sp := fun vs H Q _ => match vs with | [.int c] => ∀ p us (cr : List Mem) H', H p = none → Same H H' → H' p = some (.lst us) → DpAll K (rs (· ≠ p) H') us (cr.map d3) → cr.length ≤ 24 → (∀ m ∈ cr, ∀ s ∈ m.2.2, PyData.strOk s = true) → (∃ d, 1 ≤ d ∧ ∀ m ∈ cr, m.2.2.length = d) → Q (.ref p) H' | _ => False
theorem q__law_crowd {H : Hp} {Q : VK} {E : XK} {c : Int} (q : ∀ p us (cr : List Mem) H', H p = none → Same H H' → H' p = some (.lst us) → DpAll K (rs (· ≠ p) H') us (cr.map d3) → cr.length ≤ 24 → (∀ m ∈ cr, ∀ s ∈ m.2.2, PyData.strOk s = true) → (∃ d, 1 ≤ d ∧ ∀ m ∈ cr, m.2.2.length = d) → Q (.ref p) H') : sp__law_crowd K mg [.int c] H Q E := q
local macro_rules | `(tactic| walk_at "op") => `(tactic| with_reducible refine q__law_crowd ?_)
theorem c__law_crowd (T : Txt K mg) : Cal P w K mg base 2 "_law_crowd" (sp__law_crowd K mg) := by
  refine T.d__law_crowd.cal (k := 1) sc__law_crowd (by intro vs H Q E h; unfold sp__law_crowd at h; split at h <;> first | rfl | exact h.elim) fun f cdv A outer s H vs Q E hr h => ?_
  refine ⟨_, (pss_cons (ps_set (i := 1) sc__law_crowd.nd rfl (.inl rfl) (pe_op op_mod (pe_c (c__law_mixed T) hr (by decide) (by rfl) (pa_cons (pv 0) (pa_cons pe_int pa_nil))) pe_int))
    (pss_cons (ps_set (i := 2) sc__law_crowd.nd rfl (.inl rfl) (pe_op op_addA pe_int (pe_op op_mod (pe_c (c__law_mixed T) hr (by decide) (by rfl) (pa_cons (pv 0) (pa_cons pe_int pa_nil))) pe_int)))
    (pss_cons (ps_set (i := 3) sc__law_crowd.nd rfl (.inl rfl) (pe_listRg rfl (by rfl) T.n_list (prg_1 (by rfl) T.n_range pe_int)))
    (pss_cons (ps_while PassesOwn.never (pt_cmpR op_gt (pe_callB call_lenA (by rfl) T.n_len (by decide +kernel) (pa_cons (pv 3) pa_nil)) (pv 1) (nomark _))
    (pss_one (ps_expr (pe_bm PySem.F.plainAttrs_list PySem.F.slot_list_pop PySem.F.type_list_pop mt_popAt (pv 3) (pa_cons (pe_op op_mod (pe_c (c__law_mixed T) hr (by decide) (by rfl) (pa_cons (pv 0) (pa_cons (pe_op op_addA pe_int (pe_callB call_lenA (by rfl) T.n_len (by decide +kernel) (pa_cons (pv 3) pa_nil))) pa_nil))) (pe_callB call_lenA (by rfl) T.n_len (by decide +kernel) (pa_cons (pv 3) pa_nil))) pa_nil)))))
    (pss_cons (ps_set (i := 4) sc__law_crowd.nd rfl (.inl rfl) (pe_lst pa_nil))
    (pss_cons (ps_for PassesOwn.never rfl (pi_range1 (by rfl) T.n_range (pa_cons (pv 1) pa_nil)) (pg_name (i := 5) sc__law_crowd.nd rfl (.inl rfl))
    (pss_cons (ps_set (i := 6) sc__law_crowd.nd rfl (.inl rfl) (pe_c (c__law_mixed T) hr (by decide) (by rfl) (pa_cons (pv 0) (pa_cons (pe_op op_addA pe_int (pe_op op_mulA pe_int (pv 5))) pa_nil))))
    (pss_cons (ps_set (i := 7) sc__law_crowd.nd rfl (.inl rfl) (pe_c (c__law_mixed T) hr (by decide) (by rfl) (pa_cons (pv 0) (pa_cons (pe_op op_addA pe_int (pe_op op_mulA pe_int (pv 5))) pa_nil))))
    (pss_cons (ps_set (i := 8) sc__law_crowd.nd rfl (.inl rfl) (pe_ix ix_seq (pv 3) (pv 5) (fun _ _ => rfl)))
    (pss_cons (ps_set (i := 9) sc__law_crowd.nd rfl (.inl rfl) (pe_op op_addA pe_int (pe_op op_mod (pe_op op_fdivW (pv 6) pe_int) (pe_ix ix_seq (pe_lst (pa_cons (pe_op op_mulA pe_int (pe_op op_pow pe_int pe_int)) (pa_cons pe_int pa_nil))) (pe_op op_mod (pe_op op_fdivW (pv 6) pe_int) pe_int) (fun _ _ => rfl)))))
    (pss_cons (ps_set (i := 10) sc__law_crowd.nd rfl (.inl rfl) (pe_lst pa_nil))
    (pss_cons (ps_for PassesOwn.never rfl (pi_range1 (by rfl) T.n_range (pa_cons (pv 2) pa_nil)) (pg_name (i := 11) sc__law_crowd.nd rfl (.inl rfl))
    (pss_cons (ps_expr (pe_bm PySem.F.plainAttrs_list PySem.F.slot_list_append PySem.F.type_list_append mt_append (pv 10) (pa_cons (pe_ix ix_seq (pe_lst (pa_cons pe_str (pa_cons pe_str (pa_cons pe_str (pa_cons pe_str (pa_cons pe_str pa_nil)))))) (pe_op op_mod (pv 7) (pe_op op_addA pe_int (pe_op op_mod (pe_op op_fdivW (pe_c (c__law_mixed T) hr (by decide) (by rfl) (pa_cons (pv 0) (pa_cons pe_int pa_nil))) pe_int) pe_int))) (fun _ _ => rfl)) pa_nil)))
    (pss_one (ps_set (i := 7) sc__law_crowd.nd rfl (.inl rfl) (pe_op op_fdivW (pv 7) pe_int)))))
    (pss_one (ps_expr (pe_bm PySem.F.plainAttrs_list PySem.F.slot_list_append PySem.F.type_list_append mt_append (pv 4) (pa_cons (pe_tup (pa_cons (pv 8) (pa_cons (pv 9) (pa_cons (pe_callTy call_tuple1A (by rfl) T.n_tuple (by decide +kernel) (pa_cons (pv 10) pa_nil)) pa_nil)))) pa_nil)))))))))))
    (pss_one (ps_ret (pv 4))))))))), ?_⟩
  try simp only [cxOf_K, cxOf_K', cxOf_mg, cxOf_mg']
  unfold sp__law_crowd at h
  split at h
  case h_2 => exact h.elim
  rename_i c
  rw [show L2.start ["_law_cell_here", "_law_many", "_law_deep", "_law_places", "_law_crowd_here", "_law_k", "_law_number", "_law_turn", "_law_place", "_law_size", "_law_path", "_law_j"] [V.int c] = [some (V.int c), none, none, none, none, none, none, none, none, none, none, none] from rfl]
  walk_at "sts"
  refine ⟨by decide, by decide, fun r0 r00 r01 => ?_⟩
  walk_at "sa"
  have m0 := Int.emod_nonneg r0 (show (25 : Int) ≠ 0 by decide)
  have m1 := Int.emod_lt_of_pos r0 (show (0 : Int) < 25 by decide)
  generalize r0 % 25 = many at m0 m1
  refine ⟨by decide, by decide, fun r1 r10 r11 => ?_⟩
  walk_at "sa"
  have d0 := Int.emod_nonneg r1 (show (3 : Int) ≠ 0 by decide)
  have d1 := Int.emod_lt_of_pos r1 (show (0 : Int) < 3 by decide)
  generalize r1 % 3 = deep at d0 d1
  refine L_lstRg (L_rg1 ?_)
  walk_at "sts"
  refine ⟨⟨by decide, by decide, by decide, by decide, by decide⟩, ?_⟩
  walk_at "nwp"
  rename_i p1 hp1 H1 s1 e1
  rw [show rgV 0 24 = ((List.range (24 - 0 : Int).toNat).map fun i : Nat => (0 : Int) + (i : Int)).map V.int by rw [List.map_map]; rfl] at e1
  have l0 : ((List.range (24 - 0 : Int).toNat).map fun i : Nat => (0 : Int) + (i : Int)).length = 24 := by rw [List.length_map, List.length_range]; rfl
  generalize ((List.range (24 - 0 : Int).toNat).map fun i : Nat => (0 : Int) + (i : Int)) = ps0 at e1 l0
  walk_at "sts"
  refine L_while (fun mm σ' H' => ∃ ps : List Int, σ' = [some (.int c), some (.int many), some (.int (1 + deep)), some (.ref p1), none, none, none, none, none, none, none, none] ∧ Same H H' ∧ H' p1 = some (.lst (ps.map V.int)) ∧ ps.length ≤ 24 ∧ many ≤ ps.length ∧ mm = ps.length) ⟨_, ps0, rfl, s1, e1, by omega, by omega, rfl⟩ ?_
  rintro mm σ' H2 ⟨ps, rfl, s2, e2, hl2, hm2, rfl⟩
  walk_at "sts"
  refine L_lenL (.of e2) ?_
  walk_at "sts"
  rw [List.length_map]
  refine L_d (fun hc => ?_) (fun hc => ?_)
  · refine ⟨fun σ' H' => ∃ m', m' < ps.length ∧ ∃ ps : List Int, σ' = [some (.int c), some (.int many), some (.int (1 + deep)), some (.ref p1), none, none, none, none, none, none, none, none] ∧ Same H H' ∧ H' p1 = some (.lst (ps.map V.int)) ∧ ps.length ≤ 24 ∧ many ≤ ps.length ∧ m' = ps.length, fun _ _ h => h, ?_⟩
    walk_at "sts"
    refine L_tyL (.of e2) ?_
    walk_at "sts"
    refine L_lenL (.of e2) ?_
    walk_at "sts"
    rw [List.length_map]
    refine ⟨by omega, by omega, fun r r0 r1 => ?_⟩
    walk_at "sts"
    refine L_lenL (.of e2) ?_
    walk_at "sts"
    rw [List.length_map]
    refine L_I (by omega) ?_
    walk_at "sts"
    have q0 := Int.emod_nonneg r (show (ps.length : Int) ≠ 0 by omega)
    have q1 := Int.emod_lt_of_pos r (show (0 : Int) < ps.length by omega)
    generalize r % (ps.length : Int) = at_ at q0 q1
    refine L_popAt e2 q0 (by rw [List.length_map]; exact q1) (by rw [List.length_map]; omega) fun y => ?_
    have hle : (ps.eraseIdx at_.toNat).length = ps.length - 1 := by rw [List.length_eraseIdx, if_pos (by omega)]
    refine ⟨_, ?_, ps.eraseIdx at_.toNat, rfl, same_mut s2 hp1, ?_, by omega, by omega, rfl⟩
    · omega
    · rw [upd_same, List.eraseIdx_eq_take_drop_succ, List.eraseIdx_eq_take_drop_succ, List.map_append, List.map_take, List.map_drop]
  have hpl : (ps.length : Int) = many := by omega
  walk_at "sts"
  walk_at "nw"
  rename_i p4 hp4 H3 s3 e3
  walk_at "sts"
  refine L_r1 (by omega) (by omega) ?_
  refine f_range (fun k σ' H' => ∃ (us : List V) (cr : List Mem) (v5 v6 v7 v8 v9 v10 v11 : Option V), σ' = [some (.int c), some (.int many), some (.int (1 + deep)), some (.ref p1), some (.ref p4), v5, v6, v7, v8, v9, v10, v11] ∧ Same H2 H' ∧ H' p4 = some (.lst us) ∧ DpAll K (rs (· ≠ p4) H') us (cr.map d3) ∧ cr.length = k ∧ (∀ m ∈ cr, ∀ s ∈ m.2.2, PyData.strOk s = true) ∧ ∀ m ∈ cr, m.2.2.length = (1 + deep).toNat) ⟨[], [], _, _, _, _, _, _, _, rfl, s3, e3, .nil, rfl, by simp, by simp⟩ ?_ ?_
  · rintro k σ' H4 hk ⟨us, cr, v5, v6, v7, v8, v9, v10, v11, rfl, s4, e4, hA, hlen, hok, hdp⟩
    walk_at "sa"
    refine ⟨by omega, by omega, fun n1 n10 n11 => ?_⟩
    walk_at "sa"
    refine ⟨by omega, by omega, fun n2 n20 n21 => ?_⟩
    walk_at "sts"
    refine L_ixL (.of (s4 _ _ e2)) (atI_ints (by omega) (by omega)) ?_
    walk_at "sa"
    walk_at "nw"
    rename_i p5 hp5 H5 s5 e5
    walk_at "sa"
    refine L_menuV (.of e5) (Int.emod_nonneg _ (by decide)) (Int.emod_lt_of_pos _ (by decide)) fun v hv => ?_
    obtain ⟨mo, rfl, hmo⟩ : ∃ mo : Int, v = .int mo ∧ 0 < mo := by
      simp only [List.mem_cons, List.not_mem_nil, or_false] at hv
      rcases hv with rfl | rfl
      · exact ⟨_, rfl, by decide⟩
      · exact ⟨_, rfl, by decide⟩
    walk_at "sts"
    refine L_I hmo ?_
    walk_at "sts"
    generalize ps.getD (0 + (k : Int)).toNat 0 = place
    generalize 1 + n1 / 32 % mo = size
    walk_at "nw"
    rename_i p6 hp6 H6 s6 e6
    walk_at "sts"
    refine L_r1 (by omega) (by omega) ?_
    refine f_range (fun j σ' H' => ∃ (l : List Str) (tu : Int) (v11 : Option V), σ' = [some (.int c), some (.int many), some (.int (1 + deep)), some (.ref p1), some (.ref p4), some (.int (0 + (k : Int))), some (.int n1), some (.int tu), some (.int place), some (.int size), some (.ref p6), v11] ∧ Same H5 H' ∧ H' p6 = some (.lst (l.map V.str)) ∧ l.length = j ∧ ∀ s ∈ l, PyData.strOk s = true) ⟨[], _, _, rfl, s6, e6, rfl, by simp⟩ ?_ ?_
    · rintro j σ' H7 hj ⟨l, tu, v11, rfl, s7, e7, hl7, ho7⟩
      walk_at "sts"
      refine L_tyL (.of e7) ?_
      walk_at "sts"
      walk_at "nw"
      rename_i p8 hp8 H8 s8 e8
      walk_at "sts"
      refine ⟨by decide, by decide, fun n3 n30 n31 => ?_⟩
      walk_at "sa"
      have u0 := Int.emod_nonneg tu (show 1 + n3 / 3 % 5 ≠ 0 by omega)
      have u1 := Int.emod_lt_of_pos tu (show 0 < 1 + n3 / 3 % 5 by omega)
      refine L_menuV (.of e8) u0 (by show _ < ((5 : Nat) : Int); omega) fun v hv => ?_
      obtain ⟨z, rfl, hz⟩ : ∃ z : Str, v = .str z ∧ PyData.strOk z = true := by
        simp only [List.mem_cons, List.not_mem_nil, or_false] at hv
        rcases hv with rfl | rfl | rfl | rfl | rfl <;> exact ⟨_, rfl, by decide +kernel⟩
      walk_at "sts"
      refine L_app (s8 _ _ e7) (by rw [List.length_map]; exact sz_lt (by omega)) ?_
      walk_at "sa"
      refine ⟨l ++ [z], _, _, rfl, same_mut (s7.trans s8) hp6, by rw [List.map_append]; exact upd_same, by simp [hl7], fun x hx => ?_⟩
      rcases List.mem_append.mp hx with hx | hx
      · exact ho7 x hx
      · rw [List.mem_singleton.mp hx]
        exact hz
    · rintro σ' H7 ⟨l, tu, v11, rfl, s7, e7, hl7, ho7⟩
      walk_at "sts"
      have e47 := s7 _ _ (s5 _ _ e4)
      refine L_tyL (.of e47) ?_
      walk_at "sts"
      refine L_tuple1 (.of e7) ?_
      walk_at "nwp"
      rename_i p8 hp8 H8 s8 e8
      walk_at "sts"
      walk_at "nw"
      rename_i p9 hp9 H9 s9 e9
      walk_at "sts"
      have s49 : Same H4 H9 := s5.trans (s7.trans (s8.trans s9))
      have n8 : p8 ≠ p4 := ne_new hp8 ⟨_, e47⟩
      have n9 : p9 ≠ p4 := ne_new hp9 ⟨_, s8 _ _ e47⟩
      refine L_app (s49 _ _ e4) (by rw [hA.len, List.length_map]; exact sz_lt (by omega)) ?_
      refine ⟨us ++ [.ref p9], cr ++ [(place, size, l)], _, _, _, _, _, _, _, rfl, same_mut (s4.trans s49) hp4, upd_same, ?_, by simp [hlen], ?_, ?_⟩
      · rw [List.map_append]
        exact dp_grow hA s49 (dp_tupN e9 n9 (.cons (.int _) (.cons (.int _) (.cons (dp_tupN (s9 _ _ e8) n8 (dp_strs _)) .nil))))
      · intro m hm s hs
        rcases List.mem_append.mp hm with hm | hm
        · exact hok m hm s hs
        · rw [List.mem_singleton.mp hm] at hs
          exact ho7 s hs
      · intro m hm
        rcases List.mem_append.mp hm with hm | hm
        · exact hdp m hm
        · rw [List.mem_singleton.mp hm]
          show l.length = _
          omega
  · rintro σ' H4 ⟨us, cr, v5, v6, v7, v8, v9, v10, v11, rfl, s4, e4, hA, hlen, hok, hdp⟩
    walk_at "sts"
    exact h p4 us cr H4 (s2.free hp4) (s2.trans s4) e4 hA (by omega) hok ⟨_, by omega, hdp⟩
theorem inV_strs (n : Str) : ∀ ns : List Str, inV (.str n) (ns.map V.str) = decide (n ∈ ns)
  | [] => by simp [inV]
  | k :: ns => by
    have ih := inV_strs n ns
    unfold inV at ih ⊢
    rw [List.map_cons, List.any_cons, ih]
    by_cases e : n = k
    · subst e
      simp [eqV]
    · have e' : ¬ k = n := fun z => e z.symm
      simp [eqV, e, e']
theorem flat_strs : ∀ ns : List Str, (ns.map V.str).all flatV = true
  | [] => rfl
  | _ :: ns => by rw [List.map_cons, List.all_cons, flat_strs ns]; rfl
theorem sqT_off {H : Hp} {p a : Addr} {us xs : List V} (hp : H p = some (.lst us)) (h : SqT K H a xs) : SqT K (rs (· ≠ p) H) a xs := by
  rcases h with (h | ⟨o, h⟩) | h
  · exact .inl (.inl (rs_at (fun z => by rw [z, hp] at h; cases h) h))
  · exact .inl (.inr ⟨o, rs_at (fun z => by rw [z, hp] at h; cases h) h⟩)
  · exact .inr h
theorem dp_off3 {H : Hp} {p : Addr} {us : List V} (hp : H p = some (.lst us)) : ∀ (l : List Mem) {vs : List V}, DpAll K H vs (l.map d3) → DpAll K (rs (· ≠ p) H) vs (l.map d3)
  | [], _, h => by cases h; exact .nil
  | m :: l, _, h => by
    cases h with
    | cons h1 h2 =>
      refine .cons ?_ (dp_off3 hp l h2)
      obtain ⟨t, x1, x2, x3, rfl, h4, h5, h6, h7⟩ := of_t3 h1
      obtain ⟨q, xs, rfl, h8, h9⟩ := of_tup h7
      rw [of_int h5, of_int h6] at h4
      rw [of_strs h9] at h8
      exact .tup (sqT_off hp h4) (.cons (.int _) (.cons (.int _) (.cons (.tup (sqT_off hp h8) (dp_strs _)) .nil)))
theorem fm_bare (n : Str) : ∀ c : List Mem, ((List.range c.length).filterMap fun i => (c[i]?).bind fun m => if m.2.2.headD "" = n then some (d3 (m.1, m.2.1, m.2.2.tail)) else none) = (bare c n).map d3
  | [] => rfl
  | m :: c => by
    have ih := fm_bare n c
    rw [List.length_cons, List.range_succ_eq_map, List.filterMap_cons, List.filterMap_map]
    unfold bare
    by_cases h : m.2.2.headD "" = n
    · rw [List.filter_cons_of_pos (by simpa using h)]
      simp only [List.getElem?_cons_zero, Option.bind_some, if_pos h, List.map_cons]
      exact congrArg _ ih
    · rw [List.filter_cons_of_neg (by simpa using h)]
      simp only [List.getElem?_cons_zero, Option.bind_some, if_neg h]
      exact ih
def sp__law_due (K : PySem.W.Frag) (mg : Str → Option Value) : Sp := fun vs H Q _ => match vs with | [.ref a] => ∃ (us : List V) (c : List Mem), SqL K H a us ∧ DpAll K H us (c.map d3) ∧ c.length ≤ 24 ∧ (∀ m ∈ c, ∀ s ∈ m.2.2, PyData.strOk s = true) ∧ (∀ m ∈ c, m.2.2 ≠ []) ∧ ∀ p H', H p = none → Same H H' → Dp K H' (.ref p) (.list ((groups c).map dg)) → Q (.ref p) H' | _ => False
theorem q__law_due {H : Hp} {Q : VK} {E : XK} {a : Addr} (q : ∃ (us : List V) (c : List Mem), SqL K H a us ∧ DpAll K H us (c.map d3) ∧ c.length ≤ 24 ∧ (∀ m ∈ c, ∀ s ∈ m.2.2, PyData.strOk s = true) ∧ (∀ m ∈ c, m.2.2 ≠ []) ∧ ∀ p H', H p = none → Same H H' → Dp K H' (.ref p) (.list ((groups c).map dg)) → Q (.ref p) H') : sp__law_due K mg [.ref a] H Q E := q
local macro_rules | `(tactic| walk_at "op") => `(tactic| with_reducible refine q__law_due ?_)
theorem c__law_due (T : Txt K mg) : Cal P w K mg base 1 "_law_due" (sp__law_due K mg) := by
  refine T.d__law_due.cal (k := 0) sc__law_due (by intro vs H Q E h; unfold sp__law_due at h; split at h <;> first | rfl | exact h.elim) fun f cdv A outer s H vs Q E hr h => ?_
  refine ⟨_, (pss_cons (ps_set (i := 1) sc__law_due.nd rfl (.inl rfl) (pe_lst pa_nil))
    (pss_cons (ps_for PassesOwn.never rfl (pi_list (pv 0)) (pg_name (i := 2) sc__law_due.nd rfl (.inl rfl))
    (pss_one (ps_if (pt_cmpR op_notInA (pe_ix ix_seq (pe_ix ix_seq (pv 2) pe_int (fun _ _ => rfl)) pe_int (fun _ _ => rfl)) (pv 1) (by rfl))
    (pss_one (ps_expr (pe_bm PySem.F.plainAttrs_list PySem.F.slot_list_append PySem.F.type_list_append mt_append (pv 1) (pa_cons (pe_ix ix_seq (pe_ix ix_seq (pv 2) pe_int (fun _ _ => rfl)) pe_int (fun _ _ => rfl)) pa_nil))))
    pss_nil)))
    (pss_cons (ps_set (i := 3) sc__law_due.nd rfl (.inl rfl) (pe_lst pa_nil))
    (pss_cons (ps_for PassesOwn.never rfl (pi_list (pv 1)) (pg_name (i := 4) sc__law_due.nd rfl (.inr rfl))
    (pss_one (ps_expr (pe_bm PySem.F.plainAttrs_list PySem.F.slot_list_append PySem.F.type_list_append mt_append (pv 3) (pa_cons (pe_tup (pa_cons (pv 4) (pa_cons (pe_lc (own := [("_law_row", 5)]) (g := (gName 5)) (tt := (tTest (tOp (aEq K) (tOp (rIx K) (tOp (rIx K) (tVar 5) (tC (.int 2))) (tC (.int 0))) (tVar 4)))) (te := (tTup (tCons (tOp (rIx K) (tVar 5) (tC (.int 0))) (tCons (tOp (rIx K) (tVar 5) (tC (.int 1))) (tCons (tSl (rSlT K) (tOp (rIx K) (tVar 5) (tC (.int 2))) (tPart (tC (.int 1))) tNoPart) tNil))))) rfl sc__law_due.nd (pi_list (pv 0)) (blkOk_by (N := ["_law_crowd_here", "_law_names", "_law_member", "_law_found", "_law_name", "_law_row"]) (sc := defScope s__law_due) (by decide +kernel)) (fun _ _ _ _ _ => by exact (pg_name (i := 5) sc__law_due.nd rfl (.inl rfl))) (fun _ _ _ _ _ => by exact pts_one (pt_cmpR (op_eqA hr) (pe_ix ix_seq (pe_ix ix_seq (pv 5) pe_int (fun _ _ => rfl)) pe_int (fun _ _ => rfl)) (pv 4) (nomark _))) (fun _ _ _ _ _ => by exact (pe_tup (pa_cons (pe_ix ix_seq (pv 5) pe_int (fun _ _ => rfl)) (pa_cons (pe_ix ix_seq (pv 5) pe_int (fun _ _ => rfl)) (pa_cons (pe_slice sl_tup (pe_ix ix_seq (pv 5) pe_int (fun _ _ => rfl)) (po_some pe_int) po_none) pa_nil)))))) pa_nil))) pa_nil)))))
    (pss_one (ps_ret (pv 3))))))), ?_⟩
  try simp only [cxOf_K, cxOf_K', cxOf_mg, cxOf_mg']
  unfold sp__law_due at h
  split at h
  case h_2 => exact h.elim
  rename_i a
  rw [show L2.start ["_law_crowd_here", "_law_names", "_law_member", "_law_found", "_law_name", "_law_row"] [V.ref a] = [some (V.ref a), none, none, none, none, none] from rfl]
  obtain ⟨us, c, hL, hA, hl, hok, hne, q⟩ := h
  walk_at "sts"
  walk_at "nw"
  rename_i p1 hp1 H1 s1 e1
  walk_at "sts"
  refine L_rl (s1.seq hL) ?_
  refine f_it walk_list (fun i σ' H' => ∃ v2 v3 v4 v5 : Option V, Same H H' ∧ σ' = [some (.ref a), some (.ref p1), v2, v3, v4, v5] ∧ H' p1 = some (.lst ((names (c.take i)).map V.str))) ⟨_, _, _, _, s1, rfl, by simpa [names] using e1⟩ (fun _ _ _ _ ⟨_, _, _, _, p, _⟩ => p.seq hL) ?_ ?_
  · rintro i x σ' H2 H2' hi ⟨v2, v3, v4, v5, s2, rfl, e2⟩ ⟨z, hx⟩
    subst z
    obtain ⟨m, t, p, h1, rfl, h2, h3⟩ := hit3 hA hx
    have hmem := List.mem_of_getElem? h1
    obtain ⟨n, ns, hns⟩ : ∃ n ns, m.2.2 = n :: ns := by
      cases e : m.2.2 with
      | nil => exact absurd e (hne m hmem)
      | cons n ns => exact ⟨n, ns, rfl⟩
    rw [hns] at h3
    walk_at "sts"
    refine L_ixT (s2.seqT h2) rfl ?_
    walk_at "sts"
    refine L_ixT (v := .str n) (s2.seqT h3) (atI_int (by decide) rfl) ?_
    walk_at "sts"
    refine .inr ⟨p1, _, rfl, .inl (.of e2), rfl, flat_strs _, ?_⟩
    rw [if_pos rfl, inV_strs]
    walk_at "sts"
    have htk : names (c.take (i + 1)) = if n ∈ names (c.take i) then names (c.take i) else names (c.take i) ++ [n] := by
      rw [List.take_add_one, h1, Option.toList_some, names_snoc, hns]
      rfl
    refine L_nd (fun hn => ?_) (fun hn => ?_)
    · walk_at "sts"
      refine L_tyL (.of e2) ?_
      walk_at "sts"
      refine L_ixT (s2.seqT h2) rfl ?_
      walk_at "sts"
      refine L_ixT (v := .str n) (s2.seqT h3) (atI_int (by decide) rfl) ?_
      walk_at "sts"
      have := names_len (c.take i) []
      rw [List.length_take, List.length_nil] at this
      have z : (names (c.take i)).length ≤ 24 := by unfold names; omega
      refine L_app e2 (by rw [List.length_map]; exact sz_lt (by omega)) ?_
      exact ⟨_, _, _, _, same_mut s2 hp1, rfl, by rw [htk, if_neg hn, List.map_append]; exact upd_same⟩
    · walk_at "sts"
      exact ⟨_, _, _, _, s2, rfl, by rw [htk, if_pos hn]; exact e2⟩
  · rintro σ' H2 ⟨v2, v3, v4, v5, s2, rfl, e2⟩
    rw [List.take_of_length_le (by have := hA.len; rw [List.length_map] at this; omega)] at e2
    walk_at "sts"
    walk_at "nw"
    rename_i p2 hp2 H3 s3 e3
    walk_at "sts"
    have e13 := s3 _ _ e2
    refine L_rl (.of e13) ?_
    refine f_it walk_list (fun i σ' H' => ∃ (v2 v4 v5 : Option V) (us2 : List V), Same H2 H' ∧ σ' = [some (.ref a), some (.ref p1), v2, some (.ref p2), v4, v5] ∧ H' p2 = some (.lst us2) ∧ DpAll K (rs (· ≠ p2) H') us2 (((names c).take i).map fun n => dg (n, bare c n))) ⟨_, _, _, [], s3, rfl, e3, .nil⟩ (fun _ _ _ _ ⟨_, _, _, _, p, _⟩ => p.seq (.of e2)) ?_ ?_
    · rintro i x σ' H4 H4' hi ⟨v2, v4, v5, us2, s4, rfl, e4, d4⟩ ⟨z, hx⟩
      subst z
      rw [List.getElem?_map] at hx
      obtain ⟨n, hn, rfl⟩ := Option.map_eq_some_iff.mp hx
      walk_at "sts"
      refine L_tyL (.of e4) ?_
      walk_at "sts"
      refine L_rl ((s2.trans s4).seq hL) ?_
      refine lc_dp (K := K) walk_list (fun i => (c[i]?).bind fun m => if m.2.2.headD "" = n then some (d3 (m.1, m.2.1, m.2.2.tail)) else none) (by have := hA.len; rw [List.length_map] at this; omega) (fun H' e => ((s2.trans s4).trans e).seq hL) ?_ ?_
      · rintro j x p0 Ha Hb R R' hj np sm ⟨o, ho⟩ ⟨z, hx⟩ q1 q2
        subst z
        have s5 := (s2.trans s4).trans sm
        obtain ⟨m, t, p, h1, rfl, h2, h3⟩ := hit3 hA hx
        obtain ⟨n', ns, hns⟩ : ∃ n ns, m.2.2 = n :: ns := by
          cases e : m.2.2 with
          | nil => exact absurd e (hne m (List.mem_of_getElem? h1))
          | cons n ns => exact ⟨n, ns, rfl⟩
        rw [hns] at h3
        walk_at "sts"
        refine ⟨rfl, ?_⟩
        walk_at "sts"
        refine L_ixT (s5.seqT h2) rfl ?_
        walk_at "sts"
        refine L_ixT (v := .str n') (s5.seqT h3) (atI_int (by decide) rfl) ?_
        walk_at "sts"
        refine L_d (fun hc => ?_) (fun hc => ?_)
        · walk_at "sts"
          refine L_ixT (s5.seqT h2) rfl ?_
          walk_at "sts"
          refine L_ixT (s5.seqT h2) rfl ?_
          walk_at "sts"
          refine L_ixT (s5.seqT h2) rfl ?_
          walk_at "sts"
          refine L_slT (s5.seqT h3) ?_
          walk_at "nwp"
          rename_i p6 hp6 H6 s6 e6
          walk_at "sts"
          walk_at "nw"
          rename_i p7 hp7 H7 s7 e7
          have n6 : p6 ≠ p0 := ne_new hp6 ⟨_, ho⟩
          have n7 : p7 ≠ p0 := ne_new hp7 ⟨_, s6 _ _ ho⟩
          exact q1 _ (d3 (m.1, m.2.1, ns)) _ (by rw [h1, Option.bind_some, hns]; exact if_pos hc) (s6.trans s7) (dp_tupN e7 n7 (.cons (.int _) (.cons (.int _) (.cons (dp_tupN (s7 _ _ e6) n6 (dp_strs _)) .nil))))
        · exact q2 _ (by rw [h1, Option.bind_some, hns]; exact if_neg hc) (Same.refl _)
      · intro p5 H5 vs5 hp5 s5 e5 d5
        rw [show us.length = c.length by have := hA.len; rwa [List.length_map] at this, fm_bare] at d5
        walk_at "sts"
        walk_at "nw"
        rename_i p6 hp6 H6 s6 e6
        walk_at "sts"
        have e46 := s6 _ _ (s5 _ _ e4)
        have n5 : p5 ≠ p2 := ne_new hp5 ⟨_, e4⟩
        have n6 : p6 ≠ p2 := ne_new hp6 ⟨_, s5 _ _ e4⟩
        refine L_app e46 (by have := d4.len; rw [List.length_map, List.length_take] at this; have := names_len c []; rw [List.length_nil] at this; have z : (names c).length ≤ 24 := (by unfold names; omega); exact sz_lt (by omega)) ?_
        refine ⟨_, _, _, us2 ++ [.ref p6], same_mut (s4.trans (s5.trans s6)) hp2, rfl, upd_same, ?_⟩
        rw [List.take_add_one, hn, Option.toList_some, List.map_append]
        refine dp_grow d4 (s5.trans s6) (dp_tupN e6 n6 (.cons (.str _) (.cons (dp_lstN (s6 _ _ e5) n5 (dp_off3 (s6 _ _ (s5 _ _ e4)) _ ((d5.same rs_sub).same s6))) .nil)))
    · rintro σ' H4 ⟨v2, v4, v5, us2, s4, rfl, e4, d4⟩
      rw [List.length_map, List.take_length] at d4
      walk_at "sts"
      exact q p2 H4 (s2.free hp2) (s2.trans s4) (by rw [groups_due, List.map_map]; exact dp_whole d4 e4)
theorem groups_ne {c : List Mem} {x : Str × List Mem} (h : x ∈ groups c) : x.2 ≠ [] := by
  rw [groups_due] at h
  obtain ⟨n, hn, rfl⟩ := List.mem_map.mp h
  rcases (names_mem c [] n).mp hn with z | ⟨m, hm, e⟩
  · cases z
  · unfold bare
    intro z
    have : (m.1, m.2.1, m.2.2.tail) ∈ (c.filter fun m => m.2.2.headD "" == n).map fun m => (m.1, m.2.1, m.2.2.tail) := List.mem_map.mpr ⟨m, List.mem_filter.mpr ⟨hm, by simpa using e⟩, rfl⟩
    rw [show ((c.filter fun m => m.2.2.headD "" == n).map fun m => (m.1, m.2.1, m.2.2.tail)) = [] from z] at this
    cases this
theorem groups_mem {c : List Mem} {x : Str × List Mem} {m : Mem} (h : x ∈ groups c) (hm : m ∈ x.2) : ∃ m' ∈ c, m = (m'.1, m'.2.1, m'.2.2.tail) := by
  rw [groups_due] at h
  obtain ⟨n, hn, rfl⟩ := List.mem_map.mp h
  obtain ⟨m', h1, h2⟩ := List.mem_map.mp hm
  exact ⟨m', (List.mem_filter.mp h1).1, h2.symm⟩
theorem groups_nm {c : List Mem} {x : Str × List Mem} (h : x ∈ groups c) : ∃ m ∈ c, m.2.2.headD "" = x.1 := by
  rw [groups_due] at h
  obtain ⟨n, hn, rfl⟩ := List.mem_map.mp h
  rcases (names_mem c [] n).mp hn with z | z
  · cases z
  · exact z
theorem shp_d3 {m : Mem} (h : ∀ s ∈ m.2.2, PyData.strOk s = true) : Shp 2 (d3 m) := shp_tup (shp_cons shp_int (shp_cons shp_int (shp_cons (shp_tup (n := 0) (shp_map fun s hs => shp_str (h s hs))) shp_nil)))
theorem shp_c {c : List Mem} (hok : ∀ m ∈ c, ∀ s ∈ m.2.2, PyData.strOk s = true) : SeqAt.shaped (.list (c.map d3)) = true := (shp_lst (shp_map fun m hm => shp_d3 (hok m hm))).ok
theorem shp_g {c : List Mem} (hok : ∀ m ∈ c, ∀ s ∈ m.2.2, PyData.strOk s = true) (hne : ∀ m ∈ c, m.2.2 ≠ []) : SeqAt.shaped (.list ((groups c).map dg)) = true := by
  refine (shp_lst (n := 4) (shp_map fun g hg => shp_tup (shp_cons (shp_str ?_) (shp_cons (shp_lst (shp_map fun m hm => shp_d3 ?_)) shp_nil)))).ok
  · obtain ⟨m, hm, e⟩ := groups_nm hg
    cases z : m.2.2 with
    | nil => exact absurd z (hne m hm)
    | cons n ns =>
      rw [z] at e
      exact hok m hm _ (by rw [z, ← e]; exact List.mem_cons_self ..)
  · obtain ⟨m', h1, rfl⟩ := groups_mem hg hm
    exact fun s hs => hok m' h1 s (List.mem_of_mem_tail hs)
theorem dp_groups {H : Hp} : ∀ {ts : List Addr} {L : List ((Str × List Mem) × Addr)}, (∀ x ∈ L, ∃ vs, H x.2 = some (.lst vs) ∧ DpAll K (tp H) vs (x.1.2.map d3)) → Paired (fun (t : Addr) (x : (Str × List Mem) × Addr) => H t = some (.tup [.str x.1.1, .ref x.2])) ts L → DpAll K H (ts.map V.ref) ((L.map (·.1)).map dg)
  | [], _, _, h => by cases h; exact .nil
  | t :: ts, _, ha, h => by
    cases h with
    | cons h1 h2 =>
      obtain ⟨vs, e1, e2⟩ := ha _ (List.mem_cons_self ..)
      exact .cons (.tup (.of h1) (.cons (.str _) (.cons (.lst (.of e1) (e2.same rs_sub)) .nil))) (dp_groups (fun y hy => ha y (List.mem_cons_of_mem _ hy)) h2)
theorem paired_imp {α β : Type} {F G : α → β → Prop} (h : ∀ a b, F a b → G a b) : ∀ {xs : List α} {ys : List β}, Paired F xs ys → Paired G xs ys
  | [], _, p => by cases p; exact .nil
  | x :: xs, _, p => by cases p with | cons h1 h2 => exact .cons (h _ _ h1) (paired_imp h h2)
def sp__law_right (K : PySem.W.Frag) (mg : Str → Option Value) : Sp := fun vs H Q _ => match vs with | [.ref a] => ∃ (us : List V) (c : List Mem), SqL K H a us ∧ DpAll K H us (c.map d3) ∧ c.length ≤ 24 ∧ (∀ m ∈ c, ∀ s ∈ m.2.2, PyData.strOk s = true) ∧ (∃ d, 1 ≤ d ∧ ∀ m ∈ c, m.2.2.length = d) ∧ ∀ H', Same H H' → Q (.bl true) H' | _ => False
theorem q__law_right {H : Hp} {Q : VK} {E : XK} {a : Addr} (q : ∃ (us : List V) (c : List Mem), SqL K H a us ∧ DpAll K H us (c.map d3) ∧ c.length ≤ 24 ∧ (∀ m ∈ c, ∀ s ∈ m.2.2, PyData.strOk s = true) ∧ (∃ d, 1 ≤ d ∧ ∀ m ∈ c, m.2.2.length = d) ∧ ∀ H', Same H H' → Q (.bl true) H') : sp__law_right K mg [.ref a] H Q E := q
local macro_rules | `(tactic| walk_at "op") => `(tactic| with_reducible refine q__law_right ?_)
theorem c__law_right (T : Txt K mg) : Cal P w K mg base 3 "_law_right" (sp__law_right K mg) := by
  refine T.d__law_right.cal (k := 2) sc__law_right (by intro vs H Q E h; unfold sp__law_right at h; split at h <;> first | rfl | exact h.elim) fun f cdv A outer s H vs Q E hr h => ?_
  refine ⟨_, (pss_cons (ps_set (i := 1) sc__law_right.nd rfl (.inl rfl) (pe_callTy call_list1A (by rfl) T.n_list (by decide +kernel) (pa_cons (pv 0) pa_nil)))
    (pss_cons (ps_set (i := 2) sc__law_right.nd rfl (.inl rfl) (pe_xS (c_groups_of T) hr (by decide) (by rfl) (fun σ => passN σ) (pa_cons (pv 1) pa_nil)))
    (pss_cons (ps_if (PW.pt (pw_or (pt_not (pt_val (pe_c (c__law_kinds T) hr (by decide) (by rfl) (pa_cons (pv 2) pa_nil)))) (pw_or (pt_cmpR (op_neA hr) (pv 2) (pe_c (c__law_due T) hr (by decide) (by rfl) (pa_cons (pv 0) pa_nil)) (nomark _)) (pw_or1 (pt_cmpR (op_neA hr) (pv 1) (pv 0) (nomark _))))))
    (pss_one (ps_ret pe_bl))
    pss_nil)
    (pss_cons (ps_for PassesOwn.never rfl (pi_list (pv 2)) (pg_tup rfl (pgs_cons (pg_name (i := 3) sc__law_right.nd rfl (.inl rfl)) (pgs_cons (pg_name (i := 4) sc__law_right.nd rfl (.inl rfl)) pgs_nil)))
    (pss_cons (ps_setLc (i := 5) (own := [("_law_place", 6), ("_law_size", 7), ("_law_path", 8)]) (g := (gTup K 3 (gCons (gName 6) (gCons (gName 7) (gCons (gName 8) gNil))))) (tt := tYes) (te := (tTup (tCons (tVar 6) (tCons (tVar 7) (tCons (tTup tNil) tNil))))) rfl sc__law_right.nd rfl rfl (sw_true rfl rfl rfl (by decide +kernel)) (pi_list (pv 4)) (blkOk_by (N := ["_law_crowd_here", "_law_handed", "_law_found", "_law_name", "_law_members", "_law_bare", "_law_place", "_law_size", "_law_path"]) (sc := defScope s__law_right) (by decide +kernel)) (fun _ _ _ _ _ => by exact (pg_tup rfl (pgs_cons (pg_name (i := 6) sc__law_right.nd rfl (.inl rfl)) (pgs_cons (pg_name (i := 7) sc__law_right.nd rfl (.inl rfl)) (pgs_cons (pg_name (i := 8) sc__law_right.nd rfl (.inl rfl)) pgs_nil))))) (fun _ _ _ _ _ => pts_nil) (fun _ _ _ _ _ => by exact (pe_tup (pa_cons (pv 6) (pa_cons (pv 7) (pa_cons (pe_tup pa_nil) pa_nil))))))
    (pss_cons (ps_if (pt_not (pt_val (pe_c (c__law_refused T) hr (by decide) (by rfl) (pa_cons (pv 5) pa_nil))))
    (pss_one (ps_ret pe_bl))
    pss_nil)
    (pss_one (ps_if (PW.pt (pw_and (pt_cmpR (op_neA hr) (pe_ix ix_seq (pe_ix ix_seq (pv 4) pe_int (fun _ _ => rfl)) pe_int (fun _ _ => rfl)) (pe_tup pa_nil) (nomark _)) (pw_and1 (pt_cmpR (op_neA hr) (pe_xS (c_groups_of T) hr (by decide) (by rfl) (fun σ => passN σ) (pa_cons (pv 4) pa_nil)) (pe_c (c__law_due T) hr (by decide) (by rfl) (pa_cons (pv 4) pa_nil)) (nomark _)))))
    (pss_one (ps_ret pe_bl))
    pss_nil)))))
    (pss_cons (ps_for PassesOwn.never rfl (pi_list (pv 2)) (pg_tup rfl (pgs_cons (pg_name (i := 3) sc__law_right.nd rfl (.inl rfl)) (pgs_cons (pg_name (i := 4) sc__law_right.nd rfl (.inl rfl)) pgs_nil)))
    (pss_one (ps_expr (pe_bm0 PySem.F.plainAttrs_list PySem.F.slot_list_clear PySem.F.type_list_clear mt_clear (pv 4)))))
    (pss_one (ps_ret (pe_cmpR (op_eqA hr) (pe_xS (c_groups_of T) hr (by decide) (by rfl) (fun σ => passN σ) (pa_cons (pv 1) pa_nil)) (pe_c (c__law_due T) hr (by decide) (by rfl) (pa_cons (pv 0) pa_nil)) (nomark _))))))))), ?_⟩
  try simp only [cxOf_K, cxOf_K', cxOf_mg, cxOf_mg']
  unfold sp__law_right at h
  split at h
  case h_2 => exact h.elim
  rename_i a
  rw [show L2.start ["_law_crowd_here", "_law_handed", "_law_found", "_law_name", "_law_members", "_law_bare", "_law_place", "_law_size", "_law_path"] [V.ref a] = [some (V.ref a), none, none, none, none, none, none, none, none] from rfl]
  obtain ⟨us, c, hL, hA, hl, hok, ⟨d, hd, hdl⟩, q⟩ := h
  have hne : ∀ m ∈ c, m.2.2 ≠ [] := fun m hm z => by
    have := hdl m hm
    rw [z, List.length_nil] at this
    omega
  walk_at "sts"
  refine L_list1 hL ?_
  walk_at "nwp"
  rename_i p1 hp1 H1 s1 e1
  walk_at "sts"
  refine ⟨us, c, .of e1, hA.same s1, hl, hok, .inr ⟨hne, fun p2 ts pd L H2 s2 np2 e2 gi hg hn pr => ?_⟩⟩
  walk_at "sts"
  refine ⟨H1, pd, ts, L, e2, gi, pr, ?_⟩
  walk_at "sts"
  have dF : Dp K H2 (.ref p2) (.list ((groups c).map dg)) := by
    have := dp_groups gi.at_ pr
    rw [hg] at this
    exact .lst (.of e2) this
  refine ⟨us, c, (s1.trans s2).seq hL, hA.same (s1.trans s2), hl, hok, hne, fun p3 H3 hp3 s3 dD => ?_⟩
  refine L_neR (dF.same s3) dD (shp_g hok hne) ?_
  walk_at "sts"
  have s13 := s1.trans (s2.trans s3)
  refine L_neR (d := .list (c.map d3)) (.lst ((s2.trans s3).seq (.of e1)) (hA.same s13)) (.lst (s13.seq hL) (hA.same s13)) (shp_c hok) ?_
  walk_at "sts"
  have e23 := s3 _ _ e2
  refine L_rl (.of e23) ?_
  refine f_it walk_list (fun i σ' H' => Same H3 H' ∧ ∃ v3 v4 v5 v6 v7 v8 : Option V, σ' = [some (.ref a), some (.ref p1), some (.ref p2), v3, v4, v5, v6, v7, v8]) ⟨Same.refl _, _, _, _, _, _, _, rfl⟩ (fun _ _ _ _ p => p.1.seq (.of e23)) ?_ ?_
  · rintro i x σ' H4 H4' hi ⟨s4, v3, v4, v5, v6, v7, v8, rfl⟩ ⟨z, hx⟩
    subst z
    rw [List.getElem?_map] at hx
    obtain ⟨t, ht, rfl⟩ := Option.map_eq_some_iff.mp hx
    obtain ⟨y, hy, et⟩ := LiI.paired_get pr ht
    have hyL := List.mem_of_getElem? hy
    have g4 := (gi.same s3).same s4
    obtain ⟨vs, h5, h6⟩ := g4.at_ _ hyL
    have hA6 := h6.same rs_sub
    have hyG : y.1 ∈ groups c := by rw [← hg]; exact List.mem_map_of_mem (f := fun x : (Str × List Mem) × Addr => x.1) hyL
    have hyn := groups_ne hyG
    have hyl := groups_in hyG
    have hym := fun m => groups_mem (m := m) hyG
    generalize y.1.2 = ms at hA6 hyn hyl hym
    obtain ⟨m0, r0, rfl⟩ : ∃ m r, ms = m :: r := by
      cases ms with
      | nil => exact absurd rfl hyn
      | cons m r => exact ⟨m, r, rfl⟩
    have hvl := hA6.len
    rw [List.length_map] at hvl
    refine L_gTup (.of (s4 _ _ (s3 _ _ et))) rfl ?_
    walk_at "sts"
    refine L_rl (.of h5) ?_
    refine lc_dp (K := K) walk_list (fun i => ((m0 :: r0)[i]?).map fun m => d3 (m.1, m.2.1, [])) (by rw [hvl]; omega) (fun H' e => e.seq (.of h5)) ?_ ?_
    · rintro j x p0 Ha Hb R R' hj np sm ⟨o, ho⟩ ⟨z, hx⟩ q1 q2
      subst z
      obtain ⟨m, t2, p, h1, rfl, h2, h3⟩ := hit3 hA6 hx
      refine L_gTup (sm.seqT h2) rfl ?_
      walk_at "sts"
      refine ⟨rfl, ?_⟩
      walk_at "sts"
      walk_at "nw"
      rename_i p6 hp6 H6 s6 e6
      walk_at "sts"
      walk_at "nw"
      rename_i p7 hp7 H7 s7 e7
      have n6 : p6 ≠ p0 := ne_new hp6 ⟨_, ho⟩
      have n7 : p7 ≠ p0 := ne_new hp7 ⟨_, s6 _ _ ho⟩
      exact q1 _ (d3 (m.1, m.2.1, [])) _ (by rw [h1]; rfl) (s6.trans s7) (dp_tupN e7 n7 (.cons (.int _) (.cons (.int _) (.cons (dp_tupN (s7 _ _ e6) n6 .nil) .nil))))
    · intro p5 H5 vs5 hp5 s5 e5 d5
      rw [hvl, fm_get] at d5
      walk_at "sts"
      refine ⟨vs5, (m0.1, m0.2.1, []), r0.map fun m => (m.1, m.2.1, []), .of e5, ?_, ?_, ?_, fun H6 s6 => ?_⟩
      · show DpAll K H5 vs5 (((m0 :: r0).map fun m : Mem => ((m.1, m.2.1, []) : Mem)).map d3)
        rw [List.map_map]
        exact d5.same rs_sub
      · rw [List.length_cons, List.length_map, ← List.length_cons (a := m0)]
        omega
      · intro m hm
        rcases List.mem_cons.mp hm with rfl | hm
        · rfl
        · obtain ⟨m', _, rfl⟩ := List.mem_map.mp hm
          rfl
      walk_at "sts"
      have h56 := s6 _ _ (s5 _ _ h5)
      have hA56 := (hA6.same s5).same s6
      have hx0 : vs[0]? = some (vs[0]'(by rw [hvl, List.length_cons]; omega)) := List.getElem?_eq_getElem _
      obtain ⟨m, t2, p, h1, h1', h2, h3⟩ := hit3 hA56 hx0
      rw [h1'] at hx0
      cases h1
      refine L_ixL (.of h56) (atI_int (by decide) hx0) ?_
      walk_at "sts"
      refine L_ixT h2 rfl ?_
      walk_at "sts"
      walk_at "nw"
      rename_i p7 hp7 H7 s7 e7
      obtain ⟨mm, hmm, hm0⟩ := hym m0 (List.mem_cons_self ..)
      have hstr : ∀ m ∈ m0 :: r0, ∀ s ∈ m.2.2, PyData.strOk s = true := fun m hm s hs => by
        obtain ⟨m', h1, rfl⟩ := hym m hm
        exact hok m' h1 s (List.mem_of_mem_tail hs)
      by_cases hd1 : d = 1
      · have z : m0.2.2 = [] := by
          rw [hm0]
          have := hdl mm hmm
          exact List.eq_nil_of_length_eq_zero (by rw [List.length_tail]; omega)
        rw [z] at h3
        refine L_neR (d := .tuple []) (.tup (s7.seqT h3) .nil) (.tup (.of e7) .nil) (shp_tup (n := 0) shp_nil).ok ?_
        walk_at "sts"
        exact ⟨s4.trans (s5.trans (s6.trans s7)), _, _, _, _, _, _, rfl⟩
      · have hne2 : ∀ m ∈ m0 :: r0, m.2.2 ≠ [] := fun m hm z => by
          obtain ⟨m', h1, rfl⟩ := hym m hm
          have := hdl m' h1
          have z2 : m'.2.2.tail.length = 0 := by rw [show m'.2.2.tail = [] from z]; rfl
          rw [List.length_tail] at z2
          omega
        obtain ⟨n, ns, hns⟩ : ∃ n ns, m0.2.2 = n :: ns := by
          cases e : m0.2.2 with
          | nil => exact absurd e (hne2 m0 (List.mem_cons_self ..))
          | cons n ns => exact ⟨n, ns, rfl⟩
        rw [hns] at h3
        refine L_neD (d := .tuple ((n :: ns).map .str)) (e := .tuple []) (.tup (s7.seqT h3) (dp_strs _)) (.tup (.of e7) .nil) (shp_tup (n := 0) (shp_map fun s hs => shp_str (hstr m0 (List.mem_cons_self ..) s (by rw [hns]; exact hs)))).ok (shp_tup (n := 0) shp_nil).ok ?_
        rw [show ((PyData.tuple (List.map PyData.str (n :: ns))).eqv (PyData.tuple [])) = false from rfl]
        walk_at "sts"
        have hA57 := hA56.same s7
        have h57 := s7 _ _ h56
        refine ⟨vs, m0 :: r0, .of h57, hA57, by omega, hstr, .inr ⟨hne2, fun p8 ts8 pd8 L8 H8 s8 np8 e8 gi8 hg8 hn8 pr8 => ?_⟩⟩
        walk_at "sts"
        have dF8 : Dp K H8 (.ref p8) (.list ((groups (m0 :: r0)).map dg)) := by
          have := dp_groups gi8.at_ pr8
          rw [hg8] at this
          exact .lst (.of e8) this
        refine ⟨vs, m0 :: r0, .of (s8 _ _ h57), hA57.same s8, by omega, hstr, hne2, fun p9 H9 hp9 s9 dD9 => ?_⟩
        refine L_neR (dF8.same s9) dD9 (shp_g hstr hne2) ?_
        walk_at "sts"
        exact ⟨s4.trans (s5.trans (s6.trans (s7.trans (s8.trans s9)))), _, _, _, _, _, _, rfl⟩
  · rintro σ' H4 ⟨s4, v3, v4, v5, v6, v7, v8, rfl⟩
    walk_at "sts"
    have e24 := s4 _ _ e23
    have s34 := s3.trans s4
    refine L_rl (.of e24) ?_
    refine f_it walk_list (fun i σ' H' => (Same H1 H' ∧ H' p2 = some (.lst (ts.map V.ref)) ∧ Paired (fun (t : Addr) (x : (Str × List Mem) × Addr) => H' t = some (.tup [.str x.1.1, .ref x.2])) ts L ∧ ∀ x ∈ L, ∃ vs, H' x.2 = some (.lst vs)) ∧ ∃ v3 v4 v5 v6 v7 v8 : Option V, σ' = [some (.ref a), some (.ref p1), some (.ref p2), v3, v4, v5, v6, v7, v8]) ⟨⟨s2.trans s34, e24, paired_imp (fun t x e => s34 _ _ e) pr, fun x hx => ?_⟩, _, _, _, _, _, _, rfl⟩ (fun _ _ _ _ p => .of p.1.2.1) ?_ ?_
    · obtain ⟨vs, z, _⟩ := gi.at_ x hx
      exact ⟨vs, s34 _ _ z⟩
    · rintro i x σ' H5 H5' hi ⟨⟨s5, e5, pr5, al5⟩, v3, v4, v5, v6, v7, v8, rfl⟩ ⟨z, hx⟩
      subst z
      rw [List.getElem?_map] at hx
      obtain ⟨t, ht, rfl⟩ := Option.map_eq_some_iff.mp hx
      obtain ⟨y, hy, et⟩ := LiI.paired_get pr5 ht
      have hyL := List.mem_of_getElem? hy
      obtain ⟨vs, h5⟩ := al5 y hyL
      refine L_gTup (.of et) rfl ?_
      walk_at "sts"
      refine L_tyL (.of h5) ?_
      walk_at "sts"
      refine L_clear h5 ?_
      refine ⟨⟨same_mut s5 (gi.off _ hyL).2, ?_, paired_imp (fun t x e => ?_) pr5, fun x hx => ?_⟩, _, _, _, _, _, _, rfl⟩
      · rw [upd_ne fun z => hn (by rw [z]; exact List.mem_map_of_mem (f := fun x : (Str × List Mem) × Addr => x.2) hyL)]
        exact e5
      · rw [upd_ne fun z => by rw [z, h5] at e; cases e]
        exact e
      · by_cases z : x.2 = y.2
        · exact ⟨[], by rw [z, upd_same]⟩
        · obtain ⟨us, h⟩ := al5 x hx
          exact ⟨us, by rw [upd_ne z]; exact h⟩
    · rintro σ' H5 ⟨⟨s5, _, _, _⟩, v3, v4, v5, v6, v7, v8, rfl⟩
      walk_at "sts"
      have s15 := s1.trans s5
      refine ⟨us, c, s5.seq (.of e1), hA.same s15, hl, hok, .inr ⟨hne, fun p6 ts6 pd6 L6 H6 s6 np6 e6 gi6 hg6 hn6 pr6 => ?_⟩⟩
      walk_at "sts"
      have dF6 : Dp K H6 (.ref p6) (.list ((groups c).map dg)) := by
        have := dp_groups gi6.at_ pr6
        rw [hg6] at this
        exact .lst (.of e6) this
      refine ⟨us, c, (s15.trans s6).seq hL, hA.same (s15.trans s6), hl, hok, hne, fun p7 H7 hp7 s7 dD7 => ?_⟩
      refine L_eqR (dF6.same s7) dD7 (shp_g hok hne) ?_
      exact q _ (s15.trans (s6.trans s7))
def sp_law (K : PySem.W.Frag) (mg : Str → Option Value) : Sp := fun vs H Q _ => match vs with | [.ref a] => ∃ ns : List Int, SqL K H a (ns.map V.int) ∧ ns.length ≤ 63 ∧ (∀ z ∈ ns, Builtin.Int.intBits z ≤ 1048576) ∧ ∀ H', Q (.bl true) H' | _ => False
theorem q_law {H : Hp} {Q : VK} {E : XK} {a : Addr} (q : ∃ ns : List Int, SqL K H a (ns.map V.int) ∧ ns.length ≤ 63 ∧ (∀ z ∈ ns, Builtin.Int.intBits z ≤ 1048576) ∧ ∀ H', Q (.bl true) H') : sp_law K mg [.ref a] H Q E := q
local macro_rules | `(tactic| walk_at "op") => `(tactic| with_reducible refine q_law ?_)
theorem c_law (T : Txt K mg) {f : Addr} {fd : FuncData} (F : Fun K "law" "law" s_law f fd) : FnOk P w K mg base CX0 4 f fd ["_law_script"] (sp_law K mg) := by
  refine F.ok (k := 3) sc_law (by intro vs H Q E h; unfold sp_law at h; split at h <;> first | rfl | exact h.elim) fun cdv A outer s H vs Q E hr h => ?_
  refine ⟨_, (pss_cons (ps_for PassesOwn.never rfl (pi_range1 (by rfl) T.n_range (pa_cons (pe_callB (call_max2A rfl) (by rfl) T.n_max (by decide +kernel) (pa_cons pe_int (pa_cons (pe_callB (call_min2A rfl) (by rfl) T.n_min (by decide +kernel) (pa_cons pe_int (pa_cons (pe_callB call_lenA (by rfl) T.n_len (by decide +kernel) (pa_cons (pv 0) pa_nil)) pa_nil))) pa_nil))) pa_nil)) (pg_name (i := 1) sc_law.nd rfl (.inl rfl))
    (pss_cons (ps_set (i := 2) sc_law.nd rfl (.inl rfl) (pe_c (c__law_crowd T) hr (by decide) (by rfl) (pa_cons (pe_c (c__law_cell T) hr (by decide) (by rfl) (pa_cons (pv 0) (pa_cons (pv 1) pa_nil))) pa_nil)))
    (pss_one (ps_if (pt_not (pt_val (pe_c (c__law_right T) hr (by decide) (by rfl) (pa_cons (pv 2) pa_nil))))
    (pss_one (ps_ret pe_bl))
    pss_nil))))
    (pss_one (ps_ret (pe_cmpR (op_eqA hr) (pe_xS (c_groups_of T) hr (by decide) (by rfl) (fun σ => passN σ) (pa_cons (pe_lst pa_nil) pa_nil)) (pe_lst pa_nil) (nomark _))))), ?_⟩
  try simp only [cxOf_K, cxOf_K', cxOf_mg, cxOf_mg']
  unfold sp_law at h
  split at h
  case h_2 => exact h.elim
  rename_i a
  rw [show L2.start ["_law_script", "_law_k", "_law_crowd_here"] [V.ref a] = [some (V.ref a), none, none] from rfl]
  obtain ⟨ns, hS, hl, hbits, q⟩ := h
  walk_at "sts"
  refine L_lenL hS ?_
  walk_at "sts"
  rw [List.length_map]
  refine L_r1 (by omega) (by omega) ?_
  refine f_range (fun i σ' H' => Same H H' ∧ ∃ v1 v2 : Option V, σ' = [some (.ref a), v1, v2]) ⟨Same.refl _, none, none, rfl⟩ ?_ ?_
  · rintro i σ' H0 hi ⟨s0, v1, v2, rfl⟩
    walk_at "sts"
    refine ⟨ns, s0.seq hS, by omega, by omega, fun c => ?_⟩
    walk_at "sts"
    intro p us cr H1 hp s1 e1 hA hlen hok hdp
    walk_at "sts"
    refine ⟨us, cr, .of e1, hA.same rs_sub, hlen, hok, hdp, fun H2 s2 => ?_⟩
    walk_at "sts"
    exact ⟨s0.trans (s1.trans s2), _, _, rfl⟩
  · rintro σ' H0 ⟨s0, v1, v2, rfl⟩
    walk_at "sts"
    walk_at "nw"
    rename_i p hp H1 s1 e1
    walk_at "sts"
    refine ⟨[], [], .of e1, .nil, by simp, by simp, .inr ⟨by simp, fun p2 ts pd L H2 s2 np2 e2 gi hg hn pr => ?_⟩⟩
    have hL0 : L = [] := by
      have : (L.map (·.1)).length = 0 := by rw [hg]; rfl
      rw [List.length_map] at this
      exact List.eq_nil_of_length_eq_zero this
    subst hL0
    cases pr
    walk_at "sts"
    walk_at "nw"
    rename_i p3 hp3 H3 s3 e3
    refine L_eqR (d := .list []) (.lst (.of (s3 _ _ e2)) .nil) (.lst (.of e3) .nil) (shp_lst (n := 0) shp_nil).ok ?_
    exact q _
end
theorem txt_mk {K : PySem.W.Frag} {h : Heap} {mg : Str → Option Value} (X : K.In h) (G : h.Ns mainGlobals mg)
    (z_n_len : PySem.W.nsIn K mainGlobals "len" = some none)
    (z_n_list : PySem.W.nsIn K mainGlobals "list" = some none)
    {C_NoLevel : Addr} (aC_NoLevel : PySem.W.nsIn K mainGlobals "NoLevel" = some (some (.ref C_NoLevel)))
    (xx_NoLevel : PySem.W.excIn K C_NoLevel [.type "ValueError", .type "Exception", .type "BaseException", .type "object"] "ValueError.__new__" = true) (xk_NoLevel : PySem.W.keepIn K (.ref C_NoLevel) = true) (xb_NoLevel : PySem.W.subIn K (.ref C_NoLevel) (.type "BaseException") = some true) (xt_NoLevel : PySem.W.typeIn K (.ref C_NoLevel) = some (.type "type"))
    (z_n_ValueError : PySem.W.nsIn K mainGlobals "ValueError" = some none)
    (z_n_isinstance : PySem.W.nsIn K mainGlobals "isinstance" = some none)
    {C_NoPlan : Addr} (aC_NoPlan : PySem.W.nsIn K mainGlobals "NoPlan" = some (some (.ref C_NoPlan)))
    {C_NoUnits : Addr} (aC_NoUnits : PySem.W.nsIn K mainGlobals "NoUnits" = some (some (.ref C_NoUnits)))
    {C_SpeakError : Addr} (aC_SpeakError : PySem.W.nsIn K mainGlobals "SpeakError" = some (some (.ref C_SpeakError)))
    (yb_SpeakError : PySem.W.subIn K (.ref C_SpeakError) (.type "BaseException") = some true) (yi_SpeakError : PySem.W.isClsIn K C_SpeakError = true) (yt_SpeakError : PySem.W.typeIn K (.ref C_SpeakError) = some (.type "type"))
    (es_NoLevel_SpeakError : PySem.W.subIn K (.ref C_NoLevel) (.ref C_SpeakError) = some true)
    (z_n_bool : PySem.W.nsIn K mainGlobals "bool" = some none)
    (z_n_tuple : PySem.W.nsIn K mainGlobals "tuple" = some none)
    (z_n_range : PySem.W.nsIn K mainGlobals "range" = some none)
    (z_n_max : PySem.W.nsIn K mainGlobals "max" = some none)
    (z_n_min : PySem.W.nsIn K mainGlobals "min" = some none)
    (z0_NoLevel : PySem.W.findIn K (.ref C_NoLevel) "__getattribute__" = some (some (.builtin "BaseException.__getattribute__"))) (z1_NoLevel : PySem.W.findIn K (.ref C_NoLevel) "__getattr__" = some none) (z2_NoLevel : PySem.W.subIn K (.ref C_NoLevel) (.type "BaseException") = some true) (z3_NoLevel : PySem.W.hasDictIn K C_NoLevel = true) (z4_NoLevel : PySem.W.findIn K (.ref C_NoLevel) "__class__" = some (some (.builtin "object.__class__"))) (z5_NoLevel : PySem.W.specialIn K (.builtin "object.__class__") "__get__" = some (some (.builtin "getset_descriptor.__get__"))) (z6_NoLevel : PySem.W.takesIn K (.builtin "object.__class__") = some true) (z7_NoLevel : PySem.W.mroIn K C_NoLevel (.type "object") = some true)
    (yb_NoLevel : PySem.W.subIn K (.ref C_NoLevel) (.type "BaseException") = some true) (yi_NoLevel : PySem.W.isClsIn K C_NoLevel = true) (yt_NoLevel : PySem.W.typeIn K (.ref C_NoLevel) = some (.type "type"))
    (yb_NoUnits : PySem.W.subIn K (.ref C_NoUnits) (.type "BaseException") = some true) (yi_NoUnits : PySem.W.isClsIn K C_NoUnits = true) (yt_NoUnits : PySem.W.typeIn K (.ref C_NoUnits) = some (.type "type"))
    (yb_NoPlan : PySem.W.subIn K (.ref C_NoPlan) (.type "BaseException") = some true) (yi_NoPlan : PySem.W.isClsIn K C_NoPlan = true) (yt_NoPlan : PySem.W.typeIn K (.ref C_NoPlan) = some (.type "type"))
    (es_NoLevel_NoLevel : PySem.W.subIn K (.ref C_NoLevel) (.ref C_NoLevel) = some true)
    (es_NoLevel_NoUnits : PySem.W.subIn K (.ref C_NoLevel) (.ref C_NoUnits) = some false)
    (es_NoLevel_NoPlan : PySem.W.subIn K (.ref C_NoLevel) (.ref C_NoPlan) = some false)
    (et_NoLevel_ValueError : PySem.W.subIn K (.ref C_NoLevel) (.type "ValueError") = some true)
    {f__law_cell : Addr} {od__law_cell an__law_cell : Option Addr} {sl__law_cell : Array (Option Value)} {oc__law_cell kV__law_cell dc__law_cell pm__law_cell cd__law_cell ct__law_cell : Value}
    (a__law_cell : PySem.W.nsIn K mainGlobals "_law_cell" = some (some (.ref f__law_cell))) (l__law_cell : K.lookup f__law_cell = some ⟨oc__law_cell, od__law_cell, .func (PySem.W.fnOf "_law_cell" "_law_cell" (defArgs s__law_cell) (defBody s__law_cell) (defScope s__law_cell) .none kV__law_cell dc__law_cell pm__law_cell an__law_cell cd__law_cell ct__law_cell), sl__law_cell⟩) (c__law_cell : PySem.W.codeIn K cd__law_cell "_law_cell" = true) (k__law_cell : PySem.W.keepIn K (.ref f__law_cell) = true)
    {f__law_mixed : Addr} {od__law_mixed an__law_mixed : Option Addr} {sl__law_mixed : Array (Option Value)} {oc__law_mixed kV__law_mixed dc__law_mixed pm__law_mixed cd__law_mixed ct__law_mixed : Value}
    (a__law_mixed : PySem.W.nsIn K mainGlobals "_law_mixed" = some (some (.ref f__law_mixed))) (l__law_mixed : K.lookup f__law_mixed = some ⟨oc__law_mixed, od__law_mixed, .func (PySem.W.fnOf "_law_mixed" "_law_mixed" (defArgs s__law_mixed) (defBody s__law_mixed) (defScope s__law_mixed) .none kV__law_mixed dc__law_mixed pm__law_mixed an__law_mixed cd__law_mixed ct__law_mixed), sl__law_mixed⟩) (c__law_mixed : PySem.W.codeIn K cd__law_mixed "_law_mixed" = true) (k__law_mixed : PySem.W.keepIn K (.ref f__law_mixed) = true)
    {f_groups_of : Addr} {od_groups_of an_groups_of : Option Addr} {sl_groups_of : Array (Option Value)} {oc_groups_of kV_groups_of dc_groups_of pm_groups_of cd_groups_of ct_groups_of : Value}
    (a_groups_of : PySem.W.nsIn K mainGlobals "groups_of" = some (some (.ref f_groups_of))) (l_groups_of : K.lookup f_groups_of = some ⟨oc_groups_of, od_groups_of, .func (PySem.W.fnOf "groups_of" "groups_of" (defArgs s_groups_of) (defBody s_groups_of) (defScope s_groups_of) .none kV_groups_of dc_groups_of pm_groups_of an_groups_of cd_groups_of ct_groups_of), sl_groups_of⟩) (c_groups_of : PySem.W.codeIn K cd_groups_of "groups_of" = true) (k_groups_of : PySem.W.keepIn K (.ref f_groups_of) = true)
    {f__law_refused : Addr} {od__law_refused an__law_refused : Option Addr} {sl__law_refused : Array (Option Value)} {oc__law_refused kV__law_refused dc__law_refused pm__law_refused cd__law_refused ct__law_refused : Value}
    (a__law_refused : PySem.W.nsIn K mainGlobals "_law_refused" = some (some (.ref f__law_refused))) (l__law_refused : K.lookup f__law_refused = some ⟨oc__law_refused, od__law_refused, .func (PySem.W.fnOf "_law_refused" "_law_refused" (defArgs s__law_refused) (defBody s__law_refused) (defScope s__law_refused) .none kV__law_refused dc__law_refused pm__law_refused an__law_refused cd__law_refused ct__law_refused), sl__law_refused⟩) (c__law_refused : PySem.W.codeIn K cd__law_refused "_law_refused" = true) (k__law_refused : PySem.W.keepIn K (.ref f__law_refused) = true)
    {f__law_kinds : Addr} {od__law_kinds an__law_kinds : Option Addr} {sl__law_kinds : Array (Option Value)} {oc__law_kinds kV__law_kinds dc__law_kinds pm__law_kinds cd__law_kinds ct__law_kinds : Value}
    (a__law_kinds : PySem.W.nsIn K mainGlobals "_law_kinds" = some (some (.ref f__law_kinds))) (l__law_kinds : K.lookup f__law_kinds = some ⟨oc__law_kinds, od__law_kinds, .func (PySem.W.fnOf "_law_kinds" "_law_kinds" (defArgs s__law_kinds) (defBody s__law_kinds) (defScope s__law_kinds) .none kV__law_kinds dc__law_kinds pm__law_kinds an__law_kinds cd__law_kinds ct__law_kinds), sl__law_kinds⟩) (c__law_kinds : PySem.W.codeIn K cd__law_kinds "_law_kinds" = true) (k__law_kinds : PySem.W.keepIn K (.ref f__law_kinds) = true)
    {f__law_crowd : Addr} {od__law_crowd an__law_crowd : Option Addr} {sl__law_crowd : Array (Option Value)} {oc__law_crowd kV__law_crowd dc__law_crowd pm__law_crowd cd__law_crowd ct__law_crowd : Value}
    (a__law_crowd : PySem.W.nsIn K mainGlobals "_law_crowd" = some (some (.ref f__law_crowd))) (l__law_crowd : K.lookup f__law_crowd = some ⟨oc__law_crowd, od__law_crowd, .func (PySem.W.fnOf "_law_crowd" "_law_crowd" (defArgs s__law_crowd) (defBody s__law_crowd) (defScope s__law_crowd) .none kV__law_crowd dc__law_crowd pm__law_crowd an__law_crowd cd__law_crowd ct__law_crowd), sl__law_crowd⟩) (c__law_crowd : PySem.W.codeIn K cd__law_crowd "_law_crowd" = true) (k__law_crowd : PySem.W.keepIn K (.ref f__law_crowd) = true)
    {f__law_due : Addr} {od__law_due an__law_due : Option Addr} {sl__law_due : Array (Option Value)} {oc__law_due kV__law_due dc__law_due pm__law_due cd__law_due ct__law_due : Value}
    (a__law_due : PySem.W.nsIn K mainGlobals "_law_due" = some (some (.ref f__law_due))) (l__law_due : K.lookup f__law_due = some ⟨oc__law_due, od__law_due, .func (PySem.W.fnOf "_law_due" "_law_due" (defArgs s__law_due) (defBody s__law_due) (defScope s__law_due) .none kV__law_due dc__law_due pm__law_due an__law_due cd__law_due ct__law_due), sl__law_due⟩) (c__law_due : PySem.W.codeIn K cd__law_due "_law_due" = true) (k__law_due : PySem.W.keepIn K (.ref f__law_due) = true)
    {f__law_right : Addr} {od__law_right an__law_right : Option Addr} {sl__law_right : Array (Option Value)} {oc__law_right kV__law_right dc__law_right pm__law_right cd__law_right ct__law_right : Value}
    (a__law_right : PySem.W.nsIn K mainGlobals "_law_right" = some (some (.ref f__law_right))) (l__law_right : K.lookup f__law_right = some ⟨oc__law_right, od__law_right, .func (PySem.W.fnOf "_law_right" "_law_right" (defArgs s__law_right) (defBody s__law_right) (defScope s__law_right) .none kV__law_right dc__law_right pm__law_right an__law_right cd__law_right ct__law_right), sl__law_right⟩) (c__law_right : PySem.W.codeIn K cd__law_right "_law_right" = true) (k__law_right : PySem.W.keepIn K (.ref f__law_right) = true)
    {f_law : Addr} {od_law an_law : Option Addr} {sl_law : Array (Option Value)} {oc_law kV_law dc_law pm_law cd_law ct_law : Value}
    (a_law : PySem.W.nsIn K mainGlobals "law" = some (some (.ref f_law))) (l_law : K.lookup f_law = some ⟨oc_law, od_law, .func (PySem.W.fnOf "law" "law" (defArgs s_law) (defBody s_law) (defScope s_law) .none kV_law dc_law pm_law an_law cd_law ct_law), sl_law⟩) (c_law : PySem.W.codeIn K cd_law "law" = true) (k_law : PySem.W.keepIn K (.ref f_law) = true) : Txt K mg := by
  have e_NoLevel : cA mg "NoLevel" = C_NoLevel := cA_of (PySem.W.mg_of X G aC_NoLevel)
  have e_NoPlan : cA mg "NoPlan" = C_NoPlan := cA_of (PySem.W.mg_of X G aC_NoPlan)
  have e_NoUnits : cA mg "NoUnits" = C_NoUnits := cA_of (PySem.W.mg_of X G aC_NoUnits)
  have e_SpeakError : cA mg "SpeakError" = C_SpeakError := cA_of (PySem.W.mg_of X G aC_SpeakError)
  exact ⟨(PySem.W.mg_none_of X G z_n_len), (PySem.W.mg_none_of X G z_n_list), (by rw [e_NoLevel]; exact PySem.W.mg_of X G aC_NoLevel), (by rw [e_NoLevel]; exact ⟨xx_NoLevel, xk_NoLevel, xb_NoLevel, xt_NoLevel⟩), (PySem.W.mg_none_of X G z_n_ValueError), (PySem.W.mg_none_of X G z_n_isinstance), (by rw [e_NoPlan]; exact PySem.W.mg_of X G aC_NoPlan), (by rw [e_NoUnits]; exact PySem.W.mg_of X G aC_NoUnits), (by rw [e_SpeakError]; exact PySem.W.mg_of X G aC_SpeakError), (by rw [e_SpeakError]; exact ⟨yb_SpeakError, yi_SpeakError, yt_SpeakError⟩), (by rw [e_NoLevel, e_SpeakError]; exact es_NoLevel_SpeakError), (PySem.W.mg_none_of X G z_n_bool), (PySem.W.mg_none_of X G z_n_tuple), (PySem.W.mg_none_of X G z_n_range), (PySem.W.mg_none_of X G z_n_max), (PySem.W.mg_none_of X G z_n_min), (by rw [e_NoLevel]; exact ⟨z0_NoLevel, z1_NoLevel, z2_NoLevel, z3_NoLevel, z4_NoLevel, z5_NoLevel, z6_NoLevel, z7_NoLevel⟩), (by rw [e_NoLevel]; exact ⟨yb_NoLevel, yi_NoLevel, yt_NoLevel⟩), (by rw [e_NoUnits]; exact ⟨yb_NoUnits, yi_NoUnits, yt_NoUnits⟩), (by rw [e_NoPlan]; exact ⟨yb_NoPlan, yi_NoPlan, yt_NoPlan⟩), (by rw [e_NoLevel]; exact es_NoLevel_NoLevel), (by rw [e_NoLevel, e_NoUnits]; exact es_NoLevel_NoUnits), (by rw [e_NoLevel, e_NoPlan]; exact es_NoLevel_NoPlan), (by rw [e_NoLevel]; exact et_NoLevel_ValueError), (⟨f__law_cell, _, fun_mk (st := s__law_cell) l__law_cell c__law_cell k__law_cell, PySem.W.mg_of X G a__law_cell, (fun_mk (st := s__law_cell) l__law_cell c__law_cell k__law_cell).binds (ps := ["_law_script", "_law_k"]) fun _ _ _ _ _ _ us hl => match us, hl with | [_, _], _ => rfl⟩), (⟨f__law_mixed, _, fun_mk (st := s__law_mixed) l__law_mixed c__law_mixed k__law_mixed, PySem.W.mg_of X G a__law_mixed, (fun_mk (st := s__law_mixed) l__law_mixed c__law_mixed k__law_mixed).binds (ps := ["_law_cell_here", "_law_k"]) fun _ _ _ _ _ _ us hl => match us, hl with | [_, _], _ => rfl⟩), (⟨f_groups_of, _, fun_mk (st := s_groups_of) l_groups_of c_groups_of k_groups_of, PySem.W.mg_of X G a_groups_of, (fun_mk (st := s_groups_of) l_groups_of c_groups_of k_groups_of).binds (ps := ["crowd"]) fun _ _ _ _ _ _ us hl => match us, hl with | [_], _ => rfl⟩), (⟨f__law_refused, _, fun_mk (st := s__law_refused) l__law_refused c__law_refused k__law_refused, PySem.W.mg_of X G a__law_refused, (fun_mk (st := s__law_refused) l__law_refused c__law_refused k__law_refused).binds (ps := ["_law_crowd_here"]) fun _ _ _ _ _ _ us hl => match us, hl with | [_], _ => rfl⟩), (⟨f__law_kinds, _, fun_mk (st := s__law_kinds) l__law_kinds c__law_kinds k__law_kinds, PySem.W.mg_of X G a__law_kinds, (fun_mk (st := s__law_kinds) l__law_kinds c__law_kinds k__law_kinds).binds (ps := ["_law_found"]) fun _ _ _ _ _ _ us hl => match us, hl with | [_], _ => rfl⟩), (⟨f__law_crowd, _, fun_mk (st := s__law_crowd) l__law_crowd c__law_crowd k__law_crowd, PySem.W.mg_of X G a__law_crowd, (fun_mk (st := s__law_crowd) l__law_crowd c__law_crowd k__law_crowd).binds (ps := ["_law_cell_here"]) fun _ _ _ _ _ _ us hl => match us, hl with | [_], _ => rfl⟩), (⟨f__law_due, _, fun_mk (st := s__law_due) l__law_due c__law_due k__law_due, PySem.W.mg_of X G a__law_due, (fun_mk (st := s__law_due) l__law_due c__law_due k__law_due).binds (ps := ["_law_crowd_here"]) fun _ _ _ _ _ _ us hl => match us, hl with | [_], _ => rfl⟩), (⟨f__law_right, _, fun_mk (st := s__law_right) l__law_right c__law_right k__law_right, PySem.W.mg_of X G a__law_right, (fun_mk (st := s__law_right) l__law_right c__law_right k__law_right).binds (ps := ["_law_crowd_here"]) fun _ _ _ _ _ _ us hl => match us, hl with | [_], _ => rfl⟩), (⟨f_law, _, fun_mk (st := s_law) l_law c_law k_law, PySem.W.mg_of X G a_law, (fun_mk (st := s_law) l_law c_law k_law).binds (ps := ["_law_script"]) fun _ _ _ _ _ _ us hl => match us, hl with | [_], _ => rfl⟩)⟩
theorem law_mk {P : Program} {w : World} {K : PySem.W.Frag} {mg : Str → Option Value} {fa : Addr} (T : Txt K mg) (hfa : mg "law" = some (.ref fa)) :
    ∃ fd : FuncData, (∀ (s : Shared) (v : Value), BindsTo s fd ⟨[v], []⟩ [("_law_script", v)]) ∧ ∀ base : Heap, K.In base → base.Ns mainGlobals mg → FnOk P w K mg base CX0 4 fa fd ["_law_script"] (sp_law K mg) := by
  obtain ⟨f, fd, F, hm, b⟩ := T.d_law.ex
  have e := hfa.symm.trans hm
  cases e
  refine ⟨fd, fun s v => ?_, fun base _ _ => c_law T F⟩
  obtain ⟨oc, od, kV, doc, pm, an, cdv, ct, osl, rfl, lk, hcd⟩ := F.ex
  exact .of_eq rfl
end My
open PySem PySem.W PyProof.Rows
set_option maxRecDepth 100000 in
set_option maxHeartbeats 0 in
theorem PySem.Challenge.cw_fewspeak_k06_groups_of_crowds_holds : PySem.Challenge.rw_fewspeak_k06_groups_of_crowds.Holds := by
  w_on; o_law; k_head; (case hw => w_witness2)
  k_fill
  refine L2.walk_ofB (l := PySem.Challenge.rw_fewspeak_k06_groups_of_crowds) (n := 63) (k := 4) (x := "_law_script") (CX := fun _ => L2.CX0) (sp := fun w => My.sp_law _ (fun _ => none)) rfl (by decide) rfl ⟨rfl, by decide, by decide⟩ (fun w h Y => PySem.W.kIn_of Y) ?F (fun _ _ a ns hl hb _ hS => ⟨ns, hS, hl, hb, fun _ => rfl⟩) (fun _ _ _ _ _ h => h)
  case F =>
    intro w mg fa h KX G hmg
    refine' My.law_mk (My.txt_mk KX G ?z_n_len ?z_n_list ?aC_NoLevel ?xx_NoLevel ?xk_NoLevel ?xb_NoLevel ?xt_NoLevel ?z_n_ValueError ?z_n_isinstance ?aC_NoPlan ?aC_NoUnits ?aC_SpeakError ?yb_SpeakError ?yi_SpeakError ?yt_SpeakError ?es_NoLevel_SpeakError ?z_n_bool ?z_n_tuple ?z_n_range ?z_n_max ?z_n_min ?z0_NoLevel ?z1_NoLevel ?z2_NoLevel ?z3_NoLevel ?z4_NoLevel ?z5_NoLevel ?z6_NoLevel ?z7_NoLevel ?yb_NoLevel ?yi_NoLevel ?yt_NoLevel ?yb_NoUnits ?yi_NoUnits ?yt_NoUnits ?yb_NoPlan ?yi_NoPlan ?yt_NoPlan ?es_NoLevel_NoLevel ?es_NoLevel_NoUnits ?es_NoLevel_NoPlan ?et_NoLevel_ValueError ?a__law_cell ?l__law_cell ?c__law_cell ?k__law_cell ?a__law_mixed ?l__law_mixed ?c__law_mixed ?k__law_mixed ?a_groups_of ?l_groups_of ?c_groups_of ?k_groups_of ?a__law_refused ?l__law_refused ?c__law_refused ?k__law_refused ?a__law_kinds ?l__law_kinds ?c__law_kinds ?k__law_kinds ?a__law_crowd ?l__law_crowd ?c__law_crowd ?k__law_crowd ?a__law_due ?l__law_due ?c__law_due ?k__law_due ?a__law_right ?l__law_right ?c__law_right ?k__law_right ?a_law ?l_law ?c_law ?k_law) hmg
    (case z_n_len => k_is)
    (case z_n_list => k_is)
    (case aC_NoLevel => k_is)
    (case xx_NoLevel => k_exc)
    (case xk_NoLevel => k_is)
    (case xb_NoLevel => k_is)
    (case xt_NoLevel => k_is)
    (case z_n_ValueError => k_is)
    (case z_n_isinstance => k_is)
    (case aC_NoPlan => k_is)
    (case aC_NoUnits => k_is)
    (case aC_SpeakError => k_is)
    (case yb_SpeakError => k_is)
    (case yi_SpeakError => k_is)
    (case yt_SpeakError => k_is)
    (case es_NoLevel_SpeakError => first | rfl | k_is)
    (case z_n_bool => k_is)
    (case z_n_tuple => k_is)
    (case z_n_range => k_is)
    (case z_n_max => k_is)
    (case z_n_min => k_is)
    (case z0_NoLevel => k_is)
    (case z1_NoLevel => k_is)
    (case z2_NoLevel => k_is)
    (case z3_NoLevel => k_is)
    (case z4_NoLevel => k_is)
    (case z5_NoLevel => k_is)
    (case z6_NoLevel => k_is)
    (case z7_NoLevel => k_is)
    (case yb_NoLevel => k_is)
    (case yi_NoLevel => k_is)
    (case yt_NoLevel => k_is)
    (case yb_NoUnits => k_is)
    (case yi_NoUnits => k_is)
    (case yt_NoUnits => k_is)
    (case yb_NoPlan => k_is)
    (case yi_NoPlan => k_is)
    (case yt_NoPlan => k_is)
    (case es_NoLevel_NoLevel => first | rfl | k_is)
    (case es_NoLevel_NoUnits => first | rfl | k_is)
    (case es_NoLevel_NoPlan => first | rfl | k_is)
    (case et_NoLevel_ValueError => first | rfl | k_is)
    (case a__law_cell => k_is)
    (case l__law_cell => k_is)
    (case c__law_cell => k_is)
    (case k__law_cell => k_is)
    (case a__law_mixed => k_is)
    (case l__law_mixed => k_is)
    (case c__law_mixed => k_is)
    (case k__law_mixed => k_is)
    (case a_groups_of => k_is)
    (case l_groups_of => k_is)
    (case c_groups_of => k_is)
    (case k_groups_of => k_is)
    (case a__law_refused => k_is)
    (case l__law_refused => k_is)
    (case c__law_refused => k_is)
    (case k__law_refused => k_is)
    (case a__law_kinds => k_is)
    (case l__law_kinds => k_is)
    (case c__law_kinds => k_is)
    (case k__law_kinds => k_is)
    (case a__law_crowd => k_is)
    (case l__law_crowd => k_is)
    (case c__law_crowd => k_is)
    (case k__law_crowd => k_is)
    (case a__law_due => k_is)
    (case l__law_due => k_is)
    (case c__law_due => k_is)
    (case k__law_due => k_is)
    (case a__law_right => k_is)
    (case l__law_right => k_is)
    (case c__law_right => k_is)
    (case k__law_right => k_is)
    (case a_law => k_is)
    (case l_law => k_is)
    (case c_law => k_is)
    (case k_law => k_is)
#print axioms PySem.Challenge.cw_fewspeak_k06_groups_of_crowds_holds

