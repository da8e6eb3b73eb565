import PyProof.Rows.All
import Wide.All
import OpenK.AllK
import Wide.FinOn
import HandS.ForMost
import HandS.Exc
import HandS.TryOnly
import HandS.ExcOwn
import HandS.WordsExc
import HandS.Wide
import HandS.IsInst
import HandS.EndBits
import HandS.Conv
import HandS.Style
import HandS.TupAny
import HandS.Evl
import HandS.Walk
import HandS.ExcIs
import HandS.ExcInit
import HandS.ExcField
import HandS.ExcValue
import HandS.SetKeys
import KE.KExcIs
import PyProof.StrBlock2
import HandS.Text
import HandS.ListItems
import HandS.Codes
import HandS.FStr
import KE.IntTextText
import KE.KIntText
import KE.IntTextLaws
import PySem.Challenge.RW_fewspeak_k04_lines_refused
set_option Elab.async false
set_option linter.all false
set_option maxRecDepth 100000
set_option maxHeartbeats 4000000
namespace Kt
open PySem PySem.Spec PyProof.Rows L2
/-- a def of the top, as it stands behind the top -/
structure DefAt (K : PySem.W.Frag) (mg : Str → Option Value) (x : Str) (st : Stmt) (ps : List Str) : Prop where
  ex : ∃ (f : Addr) (fd : FuncData), Fun K x x st f fd ∧ mg x = some (.ref f) ∧ Binds K fd ps []
/-- a method of the class at C -/
structure MethAt (K : PySem.W.Frag) (C : Addr) (m qual : Str) (st : Stmt) (ps : List Str) : Prop where
  ex : ∃ (f : Addr) (fd : FuncData), Fun K m qual st f fd ∧ Meth K C m f ∧ Binds K fd ps []
structure InitAt (K : PySem.W.Frag) (C : Addr) (qual : Str) (st : Stmt) (ps : List Str) : Prop where
  ex : ∃ (f : Addr) (fd : FuncData), Fun K "__init__" qual st f fd ∧ Mk K C f ∧ Binds K fd ps []
/-- the class that a name of the module holds -/
def cA (mg : Str → Option Value) (x : Str) : Addr := match mg x with | some (.ref a) => a | _ => 0
theorem cA_of {mg : Str → Option Value} {x : Str} {a : Addr} (h : mg x = some (.ref a)) : cA mg x = a := by unfold cA; rw [h]
/-- a def that may be called by its name; a method of the class at C; a class that may be made -/
structure Cal (P : Program) (w : World) (K : PySem.W.Frag) (mg : Str → Option Value) (base : Heap) (k : Nat) (x : Str) (sp : Sp) : Prop where
  ex : ∃ (f : Addr) (fd : FuncData) (ps : List Str), FnOk P w K mg base CX0 k f fd ps sp ∧ mg x = some (.ref f) ∧ PySem.W.keepIn K (.ref f) = true ∧ Binds K fd ps []
structure Met (P : Program) (w : World) (K : PySem.W.Frag) (mg : Str → Option Value) (base : Heap) (k : Nat) (C : Addr) (m : Str) (sp : Sp) : Prop where
  ex : ∃ (f : Addr) (fd : FuncData) (ps : List Str), Cls K C ∧ Meth K C m f ∧ FnOk P w K mg base CX0 k f fd ps sp ∧ Binds K fd ps []
structure Mak (P : Program) (w : World) (K : PySem.W.Frag) (mg : Str → Option Value) (base : Heap) (k : Nat) (x : Str) (C : Addr) (sp : Sp) : Prop where
  ex : ∃ (f : Addr) (fd : FuncData) (ps : List Str), Mk K C f ∧ FnOk P w K mg base CX0 k f fd ps sp ∧ mg x = some (.ref C) ∧ Binds K fd ps []
section
variable {P : Program} {w : World} {K : PySem.W.Frag} {mg : Str → Option Value} {base : Heap}
theorem DefAt.cal {x : Str} {st : Stmt} {N ps : List Str} {k : Nat} {sp : Sp} (d : DefAt K mg x st ps) (S : FnScope N ps (defScope st)) (len : ∀ vs H Q E, sp vs H Q E → vs.length = ps.length)
    (hbody : ∀ (f : Addr) (cdv : Value) (A : Around) (outer : List Env) (s : Shared) (H : Hp) (vs : List V) (Q : VK) (E : XK), Room k (A.deeper (envOfC x (defScope st) s.heap.objs.size f cdv)) → sp vs H Q E →
      ∃ t, PSs (cxOf CX0 P w K mg base N x (defScope st) f cdv A outer s H E).nox (defBody st) t ∧ t { nx := fun _ H' => Q .non H', rt := Q } (start N vs) H) : Cal P w K mg base (k + 1) x sp := by
  obtain ⟨f, fd, F, hm, b⟩ := d.ex
  exact ⟨f, fd, ps, F.ok S len (hbody f), hm, F.kp, b⟩
theorem MethAt.met {C : Addr} {m qual : Str} {st : Stmt} {N ps : List Str} {k : Nat} {sp : Sp} (c : Cls K C) (d : MethAt K C m qual st ps) (S : FnScope N ps (defScope st)) (len : ∀ vs H Q E, sp vs H Q E → vs.length = ps.length)
    (hbody : ∀ (f : Addr) (cdv : Value) (A : Around) (outer : List Env) (s : Shared) (H : Hp) (vs : List V) (Q : VK) (E : XK), Room k (A.deeper (envOfC qual (defScope st) s.heap.objs.size f cdv)) → sp vs H Q E →
      ∃ t, PSs (cxOf CX0 P w K mg base N qual (defScope st) f cdv A outer s H E).nox (defBody st) t ∧ t { nx := fun _ H' => Q .non H', rt := Q } (start N vs) H) : Met P w K mg base (k + 1) C m sp := by
  obtain ⟨f, fd, F, hm, b⟩ := d.ex
  exact ⟨f, fd, ps, c, hm, F.ok S len (hbody f), b⟩
theorem InitAt.mak {x : Str} {C : Addr} {qual : Str} {st : Stmt} {N ps : List Str} {k : Nat} {sp : Sp} (hx : mg x = some (.ref C)) (d : InitAt K C qual st ps) (S : FnScope N ps (defScope st)) (len : ∀ vs H Q E, sp vs H Q E → vs.length = ps.length)
    (hbody : ∀ (f : Addr) (cdv : Value) (A : Around) (outer : List Env) (s : Shared) (H : Hp) (vs : List V) (Q : VK) (E : XK), Room k (A.deeper (envOfC qual (defScope st) s.heap.objs.size f cdv)) → sp vs H Q E →
      ∃ t, PSs (cxOf CX0 P w K mg base N qual (defScope st) f cdv A outer s H E).nox (defBody st) t ∧ t { nx := fun _ H' => Q .non H', rt := Q } (start N vs) H) : Mak P w K mg base (k + 1) x C sp := by
  obtain ⟨f, fd, F, hm, b⟩ := d.ex
  exact ⟨f, fd, ps, hm, F.ok S len (hbody f), hx, b⟩
/-- a def that may raise -/
structure CalX (P : Program) (w : World) (K : PySem.W.Frag) (mg : Str → Option Value) (base : Heap) (k : Nat) (x : Str) (sp : Sp) : Prop where
  ex : ∃ (f : Addr) (fd : FuncData) (ps : List Str), FnOk P w K mg base (L2.CX P w) k f fd ps sp ∧ mg x = some (.ref f) ∧ PySem.W.keepIn K (.ref f) = true ∧ Binds K fd ps []
theorem DefAt.calX {x : Str} {st : Stmt} {N ps : List Str} {k : Nat} {sp : Sp} (d : DefAt K mg x st ps) (S : FnScope N ps (defScope st)) (len : ∀ vs H Q E, sp vs H Q E → vs.length = ps.length)
    (hbody : ∀ (f : Addr) (cdv : Value) (A : Around) (outer : List Env) (s : Shared) (H : Hp) (vs : List V) (Q : VK) (E : XK), Room k (A.deeper (envOfC x (defScope st) s.heap.objs.size f cdv)) → sp vs H Q E →
      ∃ t, PSs (cxOf (L2.CX P w) P w K mg base N x (defScope st) f cdv A outer s H E) (defBody st) t ∧ t { nx := fun _ H' => Q .non H', rt := Q } (start N vs) H) : CalX P w K mg base (k + 1) x sp := by
  obtain ⟨f, fd, F, hm, b⟩ := d.ex
  exact ⟨f, fd, ps, F.okX S len (hbody f), hm, F.kp, b⟩
end
section
variable {X : Cx} {k j : Nat} {C : Addr} {x m : Str} {sp : Sp} {p pos apos : Pos} {e o : Expr} {es : List Expr} {ta : TE} {t : TA}
theorem pe_c (c : Cal X.prog X.w X.K X.mg X.base k x sp) (hr : Room j X.A) (hk : k ≤ j) (hg : Gl X x) (ha : PA X (e :: es) t)
    (hdb : (x == ("__debug__" : Str)) = false := by decide) (he : starEach (e :: es) X.env = (false, eval e X.env) :: starEach es X.env := by rfl) (hpl : (backTo pos (starEach es X.env)).any (·.1) = false := by rfl) :
    PE X (.Call (.Name x p) (e :: es) [] pos) (tCall sp [] E0 t) := by
  obtain ⟨f, fd, ps, F, hm, kp, b⟩ := c.ex
  exact pe_call F (hr.mono hk) hg hm kp b .nil pass0 ha hdb he hpl
theorem pe_c0 (c : Cal X.prog X.w X.K X.mg X.base k x sp) (hr : Room j X.A) (hk : k ≤ j) (hg : Gl X x)
    (hdb : (x == ("__debug__" : Str)) = false := by decide) :
    PE X (.Call (.Name x p) [] [] pos) (tCall sp [] E0 tNil) := by
  obtain ⟨f, fd, ps, F, hm, kp, b⟩ := c.ex
  exact pe_call0 F (hr.mono hk) hg hm kp b .nil pass0 hdb
theorem pe_mk (c : Mak X.prog X.w X.K X.mg X.base k x C sp) (hr : Room j X.A) (hk : k + 1 ≤ j) (hg : Gl X x) (ha : PA X (e :: es) t)
    (hdb : (x == ("__debug__" : Str)) = false := by decide) (he : starEach (e :: es) X.env = (false, eval e X.env) :: starEach es X.env := by rfl) (hpl : (backTo pos (starEach es X.env)).any (·.1) = false := by rfl) :
    PE X (.Call (.Name x p) (e :: es) [] pos) (tMake C sp [] E0 t) := by
  obtain ⟨f, fd, ps, M, F, hm, b⟩ := c.ex
  exact pe_make M F (hr.mono hk) hg hm b .nil pass0 ha hdb he hpl
theorem pe_mt {pl : Sem Bool} (c : Met X.prog X.w X.K X.mg X.base k C m sp) (hr : Room j X.A) (hk : k ≤ j) (he : PE X o ta) (ha : PA X (e :: es) t)
    (hst : starEach (e :: es) X.env = (false, eval e X.env) :: starEach es X.env := by rfl) (hpl : (backTo pos (starEach es X.env)).any (·.1) = false := by rfl)
    (ht : eval (.Call (.Attribute o m apos) (e :: es) [] pos) X.env = (do
      let ov ← eval o X.env
      standAt apos.atName
      let (f, first) ← holding [ov] (getMethod ov m pl)
      callWith pos f first (backTo pos (starEach (e :: es) X.env)) (backToKw pos (keywordEach [] X.env))) := by rfl) :
    PE X (.Call (.Attribute o m apos) (e :: es) [] pos) (tMeth C m sp [] E0 ta t) := by
  obtain ⟨f, fd, ps, hc, hm, F, b⟩ := c.ex
  exact pe_meth (pl := pl) he hc hm F (hr.mono hk) b .nil pass0 ha hst hpl ht
theorem pe_mt0 {pl : Sem Bool} (c : Met X.prog X.w X.K X.mg X.base k C m sp) (hr : Room j X.A) (hk : k ≤ j) (he : PE X o ta)
    (ht : eval (.Call (.Attribute o m apos) [] [] pos) X.env = (do
      let ov ← eval o X.env
      standAt apos.atName
      let (f, first) ← holding [ov] (getMethod ov m pl)
      callWith pos f first (backTo pos (starEach [] X.env)) (backToKw pos (keywordEach [] X.env))) := by rfl) :
    PE X (.Call (.Attribute o m apos) [] [] pos) (tMeth C m sp [] E0 ta tNil) := by
  obtain ⟨f, fd, ps, hc, hm, F, b⟩ := c.ex
  exact pe_meth0 (pl := pl) he hc hm F (hr.mono hk) b .nil pass0 ht
/-- a call of a def that may raise, where nothing is raised -/
theorem pe_x0 (c : CalX X.prog X.w X.K X.mg X.base k x sp) (hr : Room j X.A) (hk : k ≤ j) (hg : Gl X x) (ha : PA X (e :: es) t)
    (hdb : (x == ("__debug__" : Str)) = false := by decide) (he : starEach (e :: es) X.env = (false, eval e X.env) :: starEach es X.env := by rfl) (hpl : (backTo pos (starEach es X.env)).any (·.1) = false := by rfl) :
    PE X (.Call (.Name x p) (e :: es) [] pos) (tCall sp [] E0 t) := by
  obtain ⟨f, fd, ps, F, hm, kp, b⟩ := c.ex
  exact pe_call F (hr.mono hk) hg hm kp b .nil passL ha hdb he hpl
end
/-- a built-in class as a value -/
theorem pe_ty {X : Cx} {x : Str} {pos : Pos} (n : String) (hg : Gl X x) (hm : X.mg x = none) (hv : bootBuiltins x = some (.type n)) (hn : x ≠ "__name__" := by decide) (hdb : (x == ("__debug__" : Str)) = false := by decide) : PE X (.Name x pos) (tC (.ty n)) :=
  pe_bltn hg hm hv rfl hn hdb
/-- a constant of the module -/
theorem pe_gc {X : Cx} {x : Str} {pos : Pos} {v : V} (hg : Gl X x) (h : ∃ u, X.mg x = some u ∧ RelV v u) (hdb : (x == ("__debug__" : Str)) = false := by decide) : PE X (.Name x pos) (tC v) := by
  obtain ⟨u, h1, h2⟩ := h
  exact pe_glob hg h1 h2 hdb
/-! ### heaps -/
theorem hp_new {H : Hp} {a b : Addr} {o o' : HO} (h : H a = none) (h' : H b = some o') : upd H a o b = some o' := by
  rw [upd_ne (ne_of_none h' h)]; exact h'
theorem hp_same {H H' : Hp} {b : Addr} {o : HO} (e : Same H H') (h : H b = some o) : H' b = some o := e b o h
theorem same_upd {H H' : Hp} {a : Addr} {o : HO} (e : Same H H') (h : H' a = none) : Same H (upd H' a o) := fun b o' q => hp_new h (e b o' q)
theorem same_new {H : Hp} {a : Addr} {o : HO} (h : H a = none) : Same H (upd H a o) := fun b o' q => hp_new h q
theorem cxOf_K {CX : CXT} {P : Program} {w : World} {K : PySem.W.Frag} {mg : Str → Option Value} {base : Heap} {N : List Str} {qual : Str} {scope : Scope} {f : Addr} {cd : Value} {A : Around} {outer : List Env} {s : Shared} {H : Hp} {E : XK} : (cxOf CX P w K mg base N qual scope f cd A outer s H E).nox.K = K := rfl
theorem cxOf_K' {CX : CXT} {P : Program} {w : World} {K : PySem.W.Frag} {mg : Str → Option Value} {base : Heap} {N : List Str} {qual : Str} {scope : Scope} {f : Addr} {cd : Value} {A : Around} {outer : List Env} {s : Shared} {H : Hp} {E : XK} : (cxOf CX P w K mg base N qual scope f cd A outer s H E).K = K := rfl
theorem cxOf_mg {CX : CXT} {P : Program} {w : World} {K : PySem.W.Frag} {mg : Str → Option Value} {base : Heap} {N : List Str} {qual : Str} {scope : Scope} {f : Addr} {cd : Value} {A : Around} {outer : List Env} {s : Shared} {H : Hp} {E : XK} : (cxOf CX P w K mg base N qual scope f cd A outer s H E).nox.mg = mg := rfl
theorem cxOf_mg' {CX : CXT} {P : Program} {w : World} {K : PySem.W.Frag} {mg : Str → Option Value} {base : Heap} {N : List Str} {qual : Str} {scope : Scope} {f : Addr} {cd : Value} {A : Around} {outer : List Env} {s : Shared} {H : Hp} {E : XK} : (cxOf CX P w K mg base N qual scope f cd A outer s H E).mg = mg := rfl
/-- a new tuple, a new list: all that stood stands -/
def NewT (H : Hp) (xs : List V) (Q : VK) : Prop := ∀ p H', H p = none → Same H H' → H' p = some (.tup xs) → Q (.ref p) H'
def NewL (H : Hp) (xs : List V) (Q : VK) : Prop := ∀ p H', H p = none → Same H H' → H' p = some (.lst xs) → Q (.ref p) H'
theorem NewT.at {H : Hp} {xs : List V} {Q : VK} (q : NewT H xs Q) (p : Addr) (h : H p = none) : Q (.ref p) (upd H p (.tup xs)) := q p _ h (same_new h) upd_same
theorem NewL.at {H : Hp} {xs : List V} {Q : VK} (q : NewL H xs Q) (p : Addr) (h : H p = none) : Q (.ref p) (upd H p (.lst xs)) := q p _ h (same_new h) upd_same
theorem NewT.of {H H' : Hp} {xs : List V} {Q : VK} (q : NewT H xs Q) (e : Same H H') : NewT H' xs Q := fun p H2 h s x => q p H2 (e.free h) (e.trans s) x
theorem NewL.of {H H' : Hp} {xs : List V} {Q : VK} (q : NewL H xs Q) (e : Same H H') : NewL H' xs Q := fun p H2 h s x => q p H2 (e.free h) (e.trans s) x
/-! ### readings by name -/
section
variable {X : Cx}
def aAdd (K : PySem.W.Frag) : R2 := fun x y H Q => rI0 (fun i j => .int (i + j)) x y H Q ∨ (∃ i j, x = .str i ∧ y = .str j ∧ i.length + j.length ≤ sizeLine ∧ Q (.str (i ++ j)) H) ∨ rCat x y H Q ∨ rCatA K x y H Q
theorem op_addA : OpR X (binaryOp .Add) (aAdd X.K) := op_add.or (op_add_str.or (op_cat.or op_catA))
def aMul : R2 := fun x y H Q => rI CMulW (fun i j => .int (i * j)) x y H Q ∨ rRep x y H Q
theorem op_mulA : OpR X (binaryOp .Mult) aMul := op_mulW.or op_rep
def aEq (K : PySem.W.Frag) : R2 := fun x y H Q => rEq x y H Q ∨ rEqD K x y H Q
theorem op_eqA {k : Nat} (hr : Room k X.A) : OpR X (compareOp .Eq) (aEq X.K) := op_eq.or (op_eqD hr.units)
def aNe (K : PySem.W.Frag) : R2 := fun x y H Q => rNe x y H Q ∨ rNeD K x y H Q
theorem op_neA {k : Nat} (hr : Room k X.A) : OpR X (compareOp .NotEq) (aNe X.K) := op_ne.or (op_neD hr.units)
def aLe : R2 := fun x y H Q => rI0 (fun i j => .bl (decide (i ≤ j))) x y H Q ∨ ∃ i j, x = .str i ∧ y = .str j ∧ Q (.bl (!decide (j.cps.toList < i.cps.toList))) H
theorem op_leA : OpR X (compareOp .LtE) aLe := op_le.or op_le_str
def aLt : R2 := fun x y H Q => rI0 (fun i j => .bl (decide (i < j))) x y H Q ∨ ∃ i j, x = .str i ∧ y = .str j ∧ Q (.bl (decide (i.cps.toList < j.cps.toList))) H
theorem op_ltA : OpR X (compareOp .Lt) aLt := op_lt.or op_lt_str
def aIn (K : PySem.W.Frag) : R2 := fun x y H Q => (∃ (c : Nat) (z : Str), x = .str ⟨#[c]⟩ ∧ y = .str z ∧ Q (.bl (decide (c ∈ z.cps.toList))) H) ∨ rIn K false x y H Q
theorem op_inA : OpR X (compareOp .In) (aIn X.K) := op_in_sign.or op_in_seq
def aNotIn (K : PySem.W.Frag) : R2 := fun x y H Q => (∃ (c : Nat) (z : Str), x = .str ⟨#[c]⟩ ∧ y = .str z ∧ Q (.bl (!decide (c ∈ z.cps.toList))) H) ∨ rIn K true x y H Q
theorem op_notInA : OpR X (compareOp .NotIn) (aNotIn X.K) := op_notIn_sign.or op_notIn_seq
def aLen (K : PySem.W.Frag) : List V → Hp → VK → Prop := fun xs H Q => (∃ p ys, xs = [.ref p] ∧ (SqL K H p ys ∨ SqT K H p ys) ∧ Q (.int ys.length) H) ∨ (∃ z, xs = [.str z] ∧ z.length ≤ sizeLine ∧ Q (.int z.length) H) ∨ (∃ a kvs, xs = [V.ref a] ∧ H a = some (.dK kvs) ∧ Q (.int kvs.length) H)
theorem call_lenA : CallR X (.builtin "len") (aLen X.K) := call_len_seq.or (call_len_str.or call_lenD)
def aAbs : List V → Hp → VK → Prop := fun xs H Q => ∃ i, xs = [.int i] ∧ Q (.int (if i < 0 then -i else i)) H
theorem call_absA : CallR X (.builtin "abs") aAbs := call_abs
def aMax2 : List V → Hp → VK → Prop := fun xs H Q => ∃ i j, xs = [.int i, .int j] ∧ Q (.int (if j > i then j else i)) H
theorem call_max2A (hc : X.calm = true) : CallR X (.builtin "max") aMax2 := call_max2 hc
def aMin2 : List V → Hp → VK → Prop := fun xs H Q => ∃ i j, xs = [.int i, .int j] ∧ Q (.int (if j < i then j else i)) H
theorem call_min2A (hc : X.calm = true) : CallR X (.builtin "min") aMin2 := call_min2 hc
def aInt1 : List V → Hp → VK → Prop := fun xs H Q => (∃ i, xs = [.int i] ∧ Q (.int i) H) ∨ ∃ k, xs = [.bl k] ∧ Q (.int (if k then 1 else 0)) H
theorem call_int1A : CallR X (.type "int") aInt1 := call_int1
def aStr1 : List V → Hp → VK → Prop := fun xs H Q => ∃ i, xs = [.int i] ∧ i.natAbs.log2 < 1920 ∧ Q (.str (toString i)) H
theorem call_str1A : CallR X (.type "str") aStr1 := call_str_int
def aList1 (K : PySem.W.Frag) : List V → Hp → VK → Prop := fun xs H Q => ∃ p ys, xs = [.ref p] ∧ (SqL K H p ys ∨ SqT K H p ys) ∧ ∀ l, H l = none → Q (.ref l) (upd H l (.lst ys))
theorem call_list1A : CallR X (.type "list") (aList1 X.K) := call_list_of
def aTuple1 (K : PySem.W.Frag) : List V → Hp → VK → Prop := fun xs H Q => ∃ p ys, xs = [.ref p] ∧ ((SqL K H p ys ∧ ∀ l, H l = none → Q (.ref l) (upd H l (.tup ys))) ∨ (SqT K H p ys ∧ Q (.ref p) H))
theorem call_tuple1A : CallR X (.type "tuple") (aTuple1 X.K) := call_tuple_of
def aTru (K : PySem.W.Frag) (ta : TE) : TT := fun σ H Q => ta σ H fun x H' => ∃ k, TruV K x H' k ∧ Q k H'
theorem pt_tru {a : Expr} {ta : TE} (ha : PE X a ta) (he : ∀ whole, isTrue a X.env whole = (do let v ← whole; standAt a.pos; holding [v] (truthy v))) : PT X a (aTru X.K ta) := pt_truth ha he
def aIsN : R2 := fun x y H Q => y = .non ∧ Q (.bl (decide (x = .non))) H
theorem op_isNA : OpR X (compareOp .Is) aIsN := op_isN
def aNotN : R2 := fun x y H Q => y = .non ∧ Q (.bl (!decide (x = .non))) H
theorem op_notNA : OpR X (compareOp .IsNot) aNotN := op_notN
end
/-! ### one step of a reading -/
section
variable {K : PySem.W.Frag} {σ : L2.St} {H : Hp} {N B C : L2.St → Hp → Prop} {R : VK} {t u : TS} {c d : TT} {ta tb te tc : TE} {tr : TA} {Q : VK} {g : TG} {i j : Nat} {v x y : V} {r r' : R2}
theorem L_seq (h : t ⟨u ⟨N, R, B, C⟩, R, B, C⟩ σ H) : tSeq t u ⟨N, R, B, C⟩ σ H := h
theorem L_next (h : N σ H) : tNext ⟨N, R, B, C⟩ σ H := h
theorem L_brk (h : B σ H) : tBreak ⟨N, R, B, C⟩ σ H := h
theorem L_cont (h : C σ H) : tCont ⟨N, R, B, C⟩ σ H := h
theorem L_ret (h : te σ H R) : tRet te ⟨N, R, B, C⟩ σ H := h
theorem L_retN (h : R .non H) : tRetN ⟨N, R, B, C⟩ σ H := h
theorem L_drop (h : te σ H fun _ H1 => N σ H1) : tDrop te ⟨N, R, B, C⟩ σ H := h
theorem L_asg (h : te σ H fun x H1 => g x σ H1 N) : tAsg te g ⟨N, R, B, C⟩ σ H := h
theorem L_gname {Q : L2.St → Hp → Prop} (h : Q (σ.set i (some v)) H) : gName i v σ H Q := h
theorem L_aug {ti : TIp} (hx : σ[i]? = some (some x)) (h : te σ H fun y H1 => ti x y H1 fun z H2 => N (σ.set i (some z)) H2) : tAug i te ti ⟨N, R, B, C⟩ σ H := ⟨x, hx, h⟩
theorem L_ipI {f : Int → Int → Int} {a b : Int} (h : Q (.int (f a b)) H) : ipI f (.int a) (.int b) H Q := ⟨a, b, rfl, rfl, h⟩
theorem L_ifS (h : c σ H fun b H1 => if b = true then t ⟨N, R, B, C⟩ σ H1 else u ⟨N, R, B, C⟩ σ H1) : tIfS c t u ⟨N, R, B, C⟩ σ H := h
theorem L_par (h : tr σ H fun vs H1 => ∃ v w, vs = [v, w] ∧ N ((σ.set i (some v)).set j (some w)) H1) : tPar i j tr ⟨N, R, B, C⟩ σ H := h
theorem L_par3 {l : Nat} (h : tr σ H fun vs H1 => ∃ u v w, vs = [u, v, w] ∧ N (((σ.set i (some u)).set j (some v)).set l (some w)) H1) : tPar3 i j l tr ⟨N, R, B, C⟩ σ H := h
theorem L_vs2 {Q : V → V → Prop} (h : Q x y) : ∃ v w, [x, y] = [v, w] ∧ Q v w := ⟨x, y, rfl, h⟩
theorem L_vs3 {z : V} {Q : V → V → V → Prop} (h : Q x y z) : ∃ u v w, [x, y, z] = [u, v, w] ∧ Q u v w := ⟨x, y, z, rfl, h⟩
theorem L_var (h : σ[i]? = some (some v)) (q : Q v H) : tVar i σ H Q := ⟨v, h, q⟩
theorem L_c (q : Q v H) : tC v σ H Q := q
theorem L_op (h : ta σ H fun x H1 => tb σ H1 fun y H2 => r x y H2 Q) : tOp r ta tb σ H Q := h
theorem L_un {r : V → Hp → VK → Prop} (h : ta σ H fun x H1 => r x H1 Q) : tUn r ta σ H Q := h
theorem L_rU {g : Int → V} {i : Int} (q : Q (g i) H) : rU g (.int i) H Q := ⟨i, rfl, q⟩
theorem L_I0 {g : Int → Int → V} {i j : Int} (q : Q (g i j) H) : rI0 g (.int i) (.int j) H Q := ⟨i, j, rfl, rfl, q⟩
theorem L_I {C : Int → Int → Prop} {g : Int → Int → V} {i j : Int} (hc : C i j) (q : Q (g i j) H) : rI C g (.int i) (.int j) H Q := ⟨i, j, rfl, rfl, hc, q⟩
theorem L_addI {i j : Int} (q : Q (.int (i + j)) H) : aAdd K (.int i) (.int j) H Q := .inl ⟨i, j, rfl, rfl, q⟩
theorem L_addS {a b : Str} (hl : a.length + b.length ≤ sizeLine) (q : Q (.str (a ++ b)) H) : aAdd K (.str a) (.str b) H Q := .inr (.inl ⟨a, b, rfl, rfl, hl, q⟩)
theorem L_addL {a b : Addr} {xs ys : List V} (ha : H a = some (.lst xs)) (hb : H b = some (.lst ys)) (hl : xs.length + ys.length ≤ sizeLine) (q : ∀ p, H p = none → Q (.ref p) (upd H p (.lst (xs ++ ys)))) : aAdd K (.ref a) (.ref b) H Q := .inr (.inr (.inl ⟨a, b, xs, ys, rfl, rfl, ha, hb, hl, q⟩))
theorem L_mulI {i j : Int} (hc : CMulW i j) (q : Q (.int (i * j)) H) : aMul (.int i) (.int j) H Q := .inl ⟨i, j, rfl, rfl, hc, q⟩
theorem L_eqI {i j : Int} (q : Q (.bl (decide (i = j))) H) : aEq K (.int i) (.int j) H Q := .inl ⟨rfl, by rw [show decide (V.int i = V.int j) = decide (i = j) by simp]; exact q⟩
theorem L_eqS {i j : Str} (q : Q (.bl (decide (i = j))) H) : aEq K (.str i) (.str j) H Q := .inl ⟨rfl, by rw [show decide (V.str i = V.str j) = decide (i = j) by simp]; exact q⟩
theorem L_eqB {i j : Bool} (q : Q (.bl (decide (i = j))) H) : aEq K (.bl i) (.bl j) H Q := .inl ⟨rfl, by rw [show decide (V.bl i = V.bl j) = decide (i = j) by simp]; exact q⟩
theorem L_neI {i j : Int} (q : Q (.bl (!decide (i = j))) H) : aNe K (.int i) (.int j) H Q := .inl ⟨rfl, by rw [show decide (V.int i = V.int j) = decide (i = j) by simp]; exact q⟩
theorem L_neS {i j : Str} (q : Q (.bl (!decide (i = j))) H) : aNe K (.str i) (.str j) H Q := .inl ⟨rfl, by rw [show decide (V.str i = V.str j) = decide (i = j) by simp]; exact q⟩
theorem L_eqD {d e : PyData} (hx : Dp K H x d) (hy : Dp K H y e) (sd : SeqAt.shaped d = true) (se : SeqAt.shaped e = true) (q : Q (.bl (PyData.eqv d e)) H) : aEq K x y H Q := .inr ⟨d, e, hx, hy, sd, se, q⟩
theorem L_neD {d e : PyData} (hx : Dp K H x d) (hy : Dp K H y e) (sd : SeqAt.shaped d = true) (se : SeqAt.shaped e = true) (q : Q (.bl (!PyData.eqv d e)) H) : aNe K x y H Q := .inr ⟨d, e, hx, hy, sd, se, q⟩
theorem L_leI {i j : Int} (q : Q (.bl (decide (i ≤ j))) H) : aLe (.int i) (.int j) H Q := .inl ⟨i, j, rfl, rfl, q⟩
theorem L_leS {i j : Str} (q : Q (.bl (!decide (j.cps.toList < i.cps.toList))) H) : aLe (.str i) (.str j) H Q := .inr ⟨i, j, rfl, rfl, q⟩
theorem L_ltI {i j : Int} (q : Q (.bl (decide (i < j))) H) : aLt (.int i) (.int j) H Q := .inl ⟨i, j, rfl, rfl, q⟩
theorem L_isN (q : Q (.bl (decide (x = .non))) H) : aIsN x .non H Q := ⟨rfl, q⟩
theorem L_notN (q : Q (.bl (!decide (x = .non))) H) : aNotN x .non H Q := ⟨rfl, q⟩
theorem L_inC {a : Nat} {z : Str} (q : Q (.bl (decide (a ∈ z.cps.toList))) H) : aIn K (.str ⟨#[a]⟩) (.str z) H Q := .inl ⟨a, z, rfl, rfl, q⟩
theorem L_notInC {a : Nat} {z : Str} (q : Q (.bl (!decide (a ∈ z.cps.toList))) H) : aNotIn K (.str ⟨#[a]⟩) (.str z) H Q := .inl ⟨a, z, rfl, rfl, q⟩
theorem L_fld {f : Str} (h : ta σ H fun x H1 => ∃ a C dx fs v, x = .ref a ∧ H1 a = some (.ins C dx fs) ∧ Cls K C ∧ NoAttr K C f ∧ fs.lookup f = some v ∧ Q v H1) : tFld K ta f σ H Q := h
theorem L_fldv {a C dx : Addr} {fs : List (Str × V)} {f : Str} {Q : V → Prop} (h : H a = some (.ins C dx fs)) (cl : Cls K C) (n : NoAttr K C f) (l : fs.lookup f = some v) (q : Q v) :
    ∃ a' C dx fs v, V.ref a = V.ref a' ∧ H a' = some (.ins C dx fs) ∧ Cls K C ∧ NoAttr K C f ∧ fs.lookup f = some v ∧ Q v := ⟨a, C, dx, fs, v, rfl, h, cl, n, l, q⟩
theorem L_tTest {Q : Bool → Hp → Prop} (h : te σ H fun x H' => ∃ k, x = .bl k ∧ Q k H') : tTest te σ H Q := h
theorem L_tB {Q : Bool → Hp → Prop} (h : te σ H fun x H' => ∃ k, x = .bl k ∧ Q k H') : tB te σ H Q := h
theorem L_k {b : Bool} {Q : Bool → Prop} (q : Q b) : ∃ k, V.bl b = V.bl k ∧ Q k := ⟨b, rfl, q⟩
theorem L_tru {Q : Bool → Hp → Prop} (h : te σ H fun x H' => ∃ k, TruV K x H' k ∧ Q k H') : aTru K te σ H Q := h
theorem L_truB {b : Bool} {Q : Bool → Prop} (q : Q b) : ∃ k, TruV K (.bl b) H k ∧ Q k := ⟨b, rfl, q⟩
theorem L_truI {i : Int} {Q : Bool → Prop} (q : Q (i != 0)) : ∃ k, TruV K (.int i) H k ∧ Q k := ⟨_, rfl, q⟩
theorem L_and {Q : Bool → Hp → Prop} (h : c σ H fun b H1 => if b = true then d σ H1 Q else Q false H1) : tAnd c d σ H Q := h
theorem L_or {Q : Bool → Hp → Prop} (h : c σ H fun b H1 => if b = true then Q true H1 else d σ H1 Q) : tOr c d σ H Q := h
theorem L_not {Q : Bool → Hp → Prop} (h : c σ H fun b H1 => Q (!b) H1) : tNot c σ H Q := h
theorem L_andV (h : ta σ H fun x H1 => ∃ c, x = .bl c ∧ if c = true then tb σ H1 Q else Q (.bl false) H1) : tAndV ta tb σ H Q := h
theorem L_orV (h : ta σ H fun x H1 => ∃ c, x = .bl c ∧ if c = true then Q (.bl true) H1 else tb σ H1 Q) : tOrV ta tb σ H Q := h
theorem L_notV (h : ta σ H fun x H1 => ∃ c, x = .bl c ∧ Q (.bl (!c)) H1) : tNotV ta σ H Q := h
theorem L_ifE (h : c σ H fun b H1 => if b = true then ta σ H1 Q else tb σ H1 Q) : tIf c ta tb σ H Q := h
theorem L_chain (h : ta σ H fun x H1 => tb σ H1 fun y H2 => r x y H2 fun z H3 => ∃ k, z = .bl k ∧ (if k = true then tc σ H3 fun w' H4 => r' y w' H4 Q else Q (.bl false) H3)) : tChain r r' ta tb tc σ H Q := h
theorem L_T {A B : Prop} (a : A) : if true = true then A else B := by rw [if_pos rfl]; exact a
theorem L_F {A B : Prop} (b : B) : if false = true then A else B := by rw [if_neg Bool.false_ne_true]; exact b
theorem L_dT {p : Prop} [Decidable p] {A B : Prop} (h : p) (a : A) : if decide p = true then A else B := by rw [decide_eq_true h]; exact L_T a
theorem L_dF {p : Prop} [Decidable p] {A B : Prop} (h : ¬ p) (b : B) : if decide p = true then A else B := by rw [decide_eq_false h]; exact L_F b
theorem L_d {p : Prop} [Decidable p] {A B : Prop} (a : p → A) (b : ¬ p → B) : if decide p = true then A else B := by
  by_cases h : p
  · exact L_dT h (a h)
  · exact L_dF h (b h)
theorem L_nd {p : Prop} [Decidable p] {A B : Prop} (a : ¬ p → A) (b : p → B) : if (!decide p) = true then A else B := by
  by_cases h : p
  · rw [decide_eq_true h]; exact L_F (b h)
  · rw [decide_eq_false h]; exact L_T (a h)
theorem L_ndT {p : Prop} [Decidable p] {A B : Prop} (h : ¬ p) (a : A) : if (!decide p) = true then A else B := by rw [decide_eq_false h]; exact L_T a
theorem L_ndF {p : Prop} [Decidable p] {A B : Prop} (h : p) (b : B) : if (!decide p) = true then A else B := by rw [decide_eq_true h]; exact L_F b
theorem L_b {k : Bool} {A B : Prop} (a : k = true → A) (b : k = false → B) : if k = true then A else B := by
  cases k with
  | true => exact L_T (a rfl)
  | false => exact L_F (b rfl)
theorem L_nT {A B : Prop} (b : B) : if (!true) = true then A else B := L_F b
theorem L_nF {A B : Prop} (a : A) : if (!false) = true then A else B := L_T a
theorem L_nil {Q : List V → Hp → Prop} (q : Q [] H) : tNil σ H Q := q
theorem L_cons {Q : List V → Hp → Prop} (h : ta σ H fun x H1 => tr σ H1 fun xs H2 => Q (x :: xs) H2) : tCons ta tr σ H Q := h
theorem L_tup (h : tr σ H fun xs H1 => xs.length ≤ sizeLine ∧ ∀ p, H1 p = none → Q (.ref p) (upd H1 p (.tup xs))) : tTup tr σ H Q := h
theorem L_lst (h : tr σ H fun xs H1 => xs.length ≤ sizeLine ∧ ∀ p, H1 p = none → Q (.ref p) (upd H1 p (.lst xs))) : tLst tr σ H Q := h
theorem L_new {n : Nat} {R : Prop} (hl : n ≤ sizeLine) (q : R) : n ≤ sizeLine ∧ R := ⟨hl, q⟩
theorem L_call {sp : Sp} {E : XK} (h : tr σ H fun vs H1 => sp vs H1 Q E) : tCall sp [] E tr σ H Q := by
  unfold tCall
  simp only [List.append_nil]
  exact h
theorem L_cb {r : List V → Hp → VK → Prop} (h : tr σ H fun vs H1 => r vs H1 Q) : tCB r tr σ H Q := h
theorem L_lenL {a : Addr} {xs : List V} (h : SqL K H a xs) (q : Q (.int xs.length) H) : aLen K [.ref a] H Q := .inl ⟨a, xs, rfl, .inl h, q⟩
theorem L_lenT {a : Addr} {xs : List V} (h : SqT K H a xs) (q : Q (.int xs.length) H) : aLen K [.ref a] H Q := .inl ⟨a, xs, rfl, .inr h, q⟩
theorem L_lenS {z : Str} (h : z.length ≤ sizeLine) (q : Q (.int z.length) H) : aLen K [.str z] H Q := .inr (.inl ⟨z, rfl, h, q⟩)
theorem L_abs {i : Int} (q : Q (.int (if i < 0 then -i else i)) H) : aAbs [.int i] H Q := ⟨i, rfl, q⟩
theorem L_max2 {i j : Int} (q : Q (.int (max i j)) H) : aMax2 [.int i, .int j] H Q := ⟨i, j, rfl, by rw [show (if j > i then j else i) = max i j by omega]; exact q⟩
theorem L_min2 {i j : Int} (q : Q (.int (min i j)) H) : aMin2 [.int i, .int j] H Q := ⟨i, j, rfl, by rw [show (if j < i then j else i) = min i j by omega]; exact q⟩
theorem L_int1 {i : Int} (q : Q (.int i) H) : aInt1 [.int i] H Q := .inl ⟨i, rfl, q⟩
theorem L_int1B {k : Bool} (q : Q (.int (if k then 1 else 0)) H) : aInt1 [.bl k] H Q := .inr ⟨k, rfl, q⟩
theorem L_isi {a n : String} {b : Bool} (hx : TyX K H x (.type a)) (hk : kitB a n = some b) (q : Q (.bl b) H) : rIsi K [x, .ty n] H Q := ⟨x, .ty n, .type a, .type n, b, rfl, .ty n, hx, kit_ty hk, q⟩
theorem L_ixL {p : Addr} {xs : List V} {i : Int} (h : SqL K H p xs) (ha : atI xs i = some v) (q : Q v H) : rIx K (.ref p) (.int i) H Q := .inl ⟨p, xs, i, v, rfl, rfl, h, ha, q⟩
theorem L_ixT {p : Addr} {xs : List V} {i : Int} (h : SqT K H p xs) (ha : atI xs i = some v) (q : Q v H) : rIx K (.ref p) (.int i) H Q := .inr (.inl ⟨p, xs, i, v, rfl, rfl, h, ha, q⟩)
theorem L_ixS {z : Str} {i : Int} {a : Nat} (h : z.length ≤ sizeLine) (ha : atI z.cps.toList i = some a) (q : Q (.str ⟨#[a]⟩) H) : rIx K (.str z) (.int i) H Q := .inr (.inr ⟨z, i, a, rfl, rfl, h, ha, q⟩)
theorem L_bm {T : String} {r : V → List V → Hp → VK → Prop} (h : te σ H fun x H1 => tyV K T x H1 ∧ tr σ H1 fun xs H2 => r x xs H2 Q) : tBM K T r te tr σ H Q := h
theorem L_tyL {a : Addr} {xs : List V} {R : Prop} (h : SqL K H a xs) (q : R) : tyV K "list" (.ref a) H ∧ R := ⟨.inl ⟨rfl, xs, h⟩, q⟩
theorem L_app {a : Addr} {xs : List V} (h : H a = some (.lst xs)) (hl : xs.length < sizeLine) (q : Q .non (upd H a (.lst (xs ++ [v])))) : rAppend (.ref a) [v] H Q := ⟨a, xs, v, rfl, rfl, h, hl, q⟩
theorem L_sum {a : Addr} {ns : List Int} (h : SqL K H a (ns.map V.int)) (q : Q (.int ns.sum) H) : rSum K [.ref a] H Q := ⟨a, ns, rfl, h, q⟩
theorem L_while (W : Nat → L2.St → Hp → Prop) (h0 : ∃ m, W m σ H) (hs : ∀ m σ H, W m σ H → c σ H fun b H1 => if b = true then ∃ M : L2.St → Hp → Prop, (∀ σ' H', M σ' H' → ∃ m', m' < m ∧ W m' σ' H') ∧ t ⟨M, R, N, M⟩ σ H1 else N σ H1) : tWhile c t ⟨N, R, B, C⟩ σ H := ⟨W, h0, hs⟩
theorem L_N {W : Nat → L2.St → Hp → Prop} {m : Nat} (h : t ⟨fun σ' H' => ∃ m', m' < m ∧ W m' σ' H', R, N, fun σ' H' => ∃ m', m' < m ∧ W m' σ' H'⟩ σ H) :
    ∃ M : L2.St → Hp → Prop, (∀ σ' H', M σ' H' → ∃ m', m' < m ∧ W m' σ' H') ∧ t ⟨M, R, N, M⟩ σ H := ⟨_, fun _ _ h => h, h⟩
theorem L_cut {Mid : L2.St → Hp → Prop} (h : t ⟨Mid, R, B, C⟩ σ H) (k : ∀ σ' H', Mid σ' H' → u ⟨N, R, B, C⟩ σ' H') : Evl.tCut t u ⟨N, R, B, C⟩ σ H := ⟨Mid, h, k⟩
theorem L_for {wi : TI} (h : wi σ H fun J H1 => ∃ W : Nat → Nat → L2.St → Hp → Prop, (∃ m, W 0 m σ H1) ∧ ∀ i m σ H, W i m σ H →
      (J.stop i H ∧ N σ H) ∨ (J.go i H ∧ ∃ M : L2.St → Hp → Prop, (∀ σ' H', M σ' H' → ∃ m', m' < m ∧ W (i + 1) m' σ' H') ∧ ∀ x H', J.yld i H x H' → g x σ H' fun σ2 H2 => t ⟨M, R, N, M⟩ σ2 H2)) : tFor wi g t ⟨N, R, B, C⟩ σ H := h
theorem L_iRng1 {R : It → Hp → Prop} (h : tr σ H fun vs H1 => ∃ j : Int, vs = [.int j] ∧ -(2 ^ 62) ≤ j ∧ j < 2 ^ 62 ∧ R (Itr 0 j.toNat) H1) : iRng1 tr σ H R := h
theorem L_iRng2 {R : It → Hp → Prop} (h : tr σ H fun vs H1 => ∃ i j : Int, vs = [.int i, .int j] ∧ (-(2 ^ 62) ≤ i ∧ i < 2 ^ 62 ∧ -(2 ^ 62) ≤ j ∧ j < 2 ^ 62) ∧ R (Itr i (j - i).toNat) H1) : iRng2 tr σ H R := h
theorem L_iList {R : It → Hp → Prop} (h : te σ H fun x H1 => ∃ a, x = .ref a ∧ (∃ xs, SqL K H1 a xs) ∧ R (Itl K a) H1) : iList K te σ H R := h
theorem L_iTup {R : It → Hp → Prop} (h : te σ H fun x H1 => ∃ a, x = .ref a ∧ (∃ xs, SqT K H1 a xs) ∧ R (Itt K a) H1) : iTup K te σ H R := h
theorem L_r1 {n : Int} {R : Int → Prop} (h1 : -(2 ^ 62) ≤ n) (h2 : n < 2 ^ 62) (q : R n) : ∃ j : Int, [V.int n] = [V.int j] ∧ -(2 ^ 62) ≤ j ∧ j < 2 ^ 62 ∧ R j := ⟨n, rfl, h1, h2, q⟩
theorem L_r2 {a n : Int} {R : Int → Int → Prop} (h : -(2 ^ 62) ≤ a ∧ a < 2 ^ 62 ∧ -(2 ^ 62) ≤ n ∧ n < 2 ^ 62) (q : R a n) : ∃ i j : Int, [V.int a, V.int n] = [V.int i, V.int j] ∧ (-(2 ^ 62) ≤ i ∧ i < 2 ^ 62 ∧ -(2 ^ 62) ≤ j ∧ j < 2 ^ 62) ∧ R i j := ⟨a, n, rfl, h, q⟩
theorem L_rl {a : Addr} {xs : List V} {R : Addr → Prop} (h : SqL K H a xs) (q : R a) : ∃ b, V.ref a = V.ref b ∧ (∃ xs, SqL K H b xs) ∧ R b := ⟨a, rfl, ⟨xs, h⟩, q⟩
theorem L_rt {a : Addr} {xs : List V} {R : Addr → Prop} (h : SqT K H a xs) (q : R a) : ∃ b, V.ref a = V.ref b ∧ (∃ xs, SqT K H b xs) ∧ R b := ⟨a, rfl, ⟨xs, h⟩, q⟩
end
theorem sz_dec {n : Nat} (h : n ≤ 1000000) : n ≤ sizeLine := Nat.le_trans h (by decide)
theorem sz_lt {n : Nat} (h : n < 1000000) : n < sizeLine := Nat.lt_of_lt_of_le h (by decide)
/-! ### sizes of ints -/
/-- less than n bits -/
def Bd (n : Nat) (i : Int) : Prop := i.natAbs < 2 ^ n
theorem Bd.mono {n m : Nat} {i : Int} (h : Bd n i) (hm : n ≤ m) : Bd m i := Nat.lt_of_lt_of_le h (Nat.pow_le_pow_right (by decide) hm)
theorem Bd.mul {n m : Nat} {i j : Int} (h : Bd n i) (k : Bd m j) : Bd (n + m) (i * j) := wide_lt h k
theorem Bd.add {n m : Nat} {i j : Int} (h : Bd n i) (k : Bd m j) : Bd (max n m + 1) (i + j) := by
  have a := h.mono (Nat.le_max_left n m)
  have b := k.mono (Nat.le_max_right n m)
  unfold Bd at *
  rw [Nat.pow_succ]
  have := Int.natAbs_add_le i j
  omega
theorem Bd.neg {n : Nat} {i : Int} (h : Bd n i) : Bd n (-i) := by unfold Bd at *; rw [Int.natAbs_neg]; exact h
theorem Bd.sub {n m : Nat} {i j : Int} (h : Bd n i) (k : Bd m j) : Bd (max n m + 1) (i - j) := by
  rw [Int.sub_eq_add_neg]; exact h.add k.neg
theorem Bd.cmul {n m : Nat} {i j : Int} (h : Bd n i) (k : Bd m j) (hz : n + m + 2 ≤ 1000000 := by decide) : CMulW i j :=
  wide_mul (h.mono (Nat.le_succ n)) (k.mono (Nat.le_succ m)) (Nat.succ_pos _) (Nat.succ_pos _) (by omega)
theorem Bd.cdiv {n : Nat} {i j : Int} (k : Bd n j) (h : 0 < j) (hz : n + 1 ≤ 9000 := by decide) : CDivW i j := wide_div h (k.mono (Nat.le_succ n)) (Nat.succ_pos _) hz
theorem bd_lit {i : Int} (h : -4294967296 < i ∧ i < 4294967296) : Bd 32 i := by
  unfold Bd
  have : (2 : Nat) ^ 32 = 4294967296 := by decide
  omega
theorem bd_64 {i : Int} (h : -18446744073709551616 < i ∧ i < 18446744073709551616) : Bd 64 i := by
  unfold Bd
  have : (2 : Nat) ^ 64 = 18446744073709551616 := by decide
  omega
/-- an item of the script, or what stands in its place -/
def cellAt (ns : List Int) (k d : Int) : Int := if k < (ns.length : Int) then ns.getD k.toNat 0 else d
theorem cellAt_in {ns : List Int} {k d : Int} (h0 : 0 ≤ k) (h : k < (ns.length : Int)) : atI (ns.map V.int) k = some (V.int (cellAt ns k d)) := by
  obtain ⟨j, rfl⟩ : ∃ j : Nat, k = (j : Int) := ⟨k.toNat, by omega⟩
  have hl : j < ns.length := by omega
  unfold cellAt
  rw [if_pos h]
  refine atI_nat ?_
  rw [List.getElem?_map, List.getElem?_eq_getElem hl]
  simp [List.getD, List.getElem?_eq_getElem hl]
theorem cellAt_out {ns : List Int} {k d : Int} (h : ¬ k < (ns.length : Int)) : cellAt ns k d = d := if_neg h
theorem cellAt_mem {ns : List Int} {k d : Int} (h0 : 0 ≤ k) : cellAt ns k d ∈ ns ∨ cellAt ns k d = d := by
  unfold cellAt
  split
  · rename_i h
    have hl : k.toNat < ns.length := by omega
    left
    simp [List.getD, List.getElem?_eq_getElem hl]
  · exact .inr rfl
theorem _root_.L2.Same.seqT {K : PySem.W.Frag} {H H' : Hp} {a : Addr} {xs : List V} (e : Same H H') (h : SqT K H a xs) : SqT K H' a xs := by
  rcases h with (h | ⟨o, h⟩) | h
  · exact .inl (.inl (e _ _ h))
  · exact .inl (.inr ⟨o, e _ _ h⟩)
  · exact .inr h
/-! ### what is walked: more -/
section
variable {K : PySem.W.Frag} {σ : L2.St} {H : Hp} {te : TE} {tr : TA} {Q : VK} {g : TG} {tt : TT}
theorem L_yes {Q : Bool → Hp → Prop} (q : Q true H) : tYes σ H Q := q
theorem L_iZip {R : It → Hp → Prop} (h : tr σ H fun vs H1 => ∃ a b xs ys, vs = [.ref a, .ref b] ∧ SqL K H1 a xs ∧ SqL K H1 b ys ∧ R (Itz K a b) H1) : iZip K tr σ H R := h
theorem L_iEnum {R : It → Hp → Prop} (h : tr σ H fun vs H1 => ∃ a xs, vs = [.ref a] ∧ SqL K H1 a xs ∧ R (Ite K a) H1) : iEnum K tr σ H R := h
theorem L_iStr {R : It → Hp → Prop} (h : te σ H fun v H1 => ∃ x, v = .str x ∧ R (Its x) H1) : iStr te σ H R := h
theorem L_iRng3 {R : It → Hp → Prop} (h : tr σ H fun vs H1 => ∃ (i j c : Int) (n : Nat), vs = [.int i, .int j, .int c] ∧ RgC i j c n ∧ R (Itc i c n) H1) : iRng3 tr σ H R := h
theorem L_rz {a b : Addr} {xs ys : List V} {R : Addr → Addr → Prop} (h1 : SqL K H a xs) (h2 : SqL K H b ys) (q : R a b) : ∃ a' b' xs ys, [V.ref a, V.ref b] = [.ref a', .ref b'] ∧ SqL K H a' xs ∧ SqL K H b' ys ∧ R a' b' := ⟨a, b, xs, ys, rfl, h1, h2, q⟩
theorem L_re {a : Addr} {xs : List V} {R : Addr → Prop} (h1 : SqL K H a xs) (q : R a) : ∃ a' xs, [V.ref a] = [.ref a'] ∧ SqL K H a' xs ∧ R a' := ⟨a, xs, rfl, h1, q⟩
theorem L_rs {z : Str} {R : Str → Prop} (q : R z) : ∃ x, V.str z = .str x ∧ R x := ⟨z, rfl, q⟩
theorem L_r3 {i j c : Int} {n : Nat} {R : Int → Int → Nat → Prop} (h : RgC i j c n) (q : R i c n) : ∃ (i' j' c' : Int) (n : Nat), [V.int i, V.int j, V.int c] = [.int i', .int j', .int c'] ∧ RgC i' j' c' n ∧ R i' c' n := ⟨i, j, c, n, rfl, h, q⟩
theorem L_lc {wi : TI} {vs : List Nat} (h : wi σ H fun J H1 => ∀ D, H1 D = none → ∃ W : Nat → Nat → Hp → Prop, (∃ m, W 0 m (upd H1 D (.lst []))) ∧ ∀ i m H, W i m H →
  (J.stop i H ∧ Q (.ref D) H) ∨ (J.go i H ∧ ∃ Nx : Hp → Prop, (∀ H', Nx H' → ∃ m', m' < m ∧ W (i + 1) m' H') ∧ ∀ x H', J.yld i H x H' → g x (wipe σ vs) H' fun σ2 H2 => wipe σ2 vs = wipe σ vs ∧ tt σ2 H2 fun b H3 =>
    if b = true then te σ2 H3 fun y H4 => ∃ acc, H4 D = some (.lst acc) ∧ acc.length < sizeLine ∧ Nx (upd H4 D (.lst (acc ++ [y]))) else Nx H3)) : tLc wi g tt te vs σ H Q := h
theorem fm_succ (f : Nat → Option V) (i : Nat) : (List.range (i + 1)).filterMap f = (List.range i).filterMap f ++ (match f i with | some y => [y] | none => []) := by
  rw [List.range_succ, List.filterMap_append]
  cases h : f i <;> simp [h]
theorem fm_len (f : Nat → Option V) (i : Nat) : ((List.range i).filterMap f).length ≤ i := by
  have := List.length_filterMap_le f (List.range i)
  simpa using this
/-- a comprehension whose things are told one by one: f i is what turn i gives, none where its test is false -/
theorem lc_fm {J : It} {n : Nat} {G : Hp → Prop} {Y : Nat → Hp → V → Hp → Prop} (w : L2.Walk J n G Y) {vs : List Nat} {Qd : Addr → Hp → Prop} (f : Nat → Option V) (hn : n ≤ 1000000) (hG : ∀ H', Same H H' → G H')
    (hs : ∀ i x H2 H' (R : V → Hp → Prop) (R' : Hp → Prop), i < n → Same H H2 → Y i H2 x H' → (∀ y H4, f i = some y → Same H2 H4 → R y H4) → (∀ H3, f i = none → Same H2 H3 → R' H3) →
      g x (wipe σ vs) H' fun σ2 H2 => wipe σ2 vs = wipe σ vs ∧ tt σ2 H2 fun b H3 => if b = true then te σ2 H3 R else R' H3)
    (q : ∀ p H', H p = none → Same H H' → H' p = some (.lst ((List.range n).filterMap f)) → Qd p H') :
    ∀ D, H D = none → ∃ W : Nat → Nat → Hp → Prop, (∃ m, W 0 m (upd H D (.lst []))) ∧ ∀ i m H, W i m H →
      (J.stop i H ∧ Qd D H) ∨ (J.go i H ∧ ∃ Nx : Hp → Prop, (∀ H', Nx H' → ∃ m', m' < m ∧ W (i + 1) m' H') ∧ ∀ x H', J.yld i H x H' → g x (wipe σ vs) H' fun σ2 H2 => wipe σ2 vs = wipe σ vs ∧ tt σ2 H2 fun b H3 =>
        if b = true then te σ2 H3 fun y H4 => ∃ acc, H4 D = some (.lst acc) ∧ acc.length < sizeLine ∧ Nx (upd H4 D (.lst (acc ++ [y]))) else Nx H3) := by
  intro D hD
  refine lc_it w (fun i H2 => Same H H2 ∧ H2 D = some (.lst ((List.range i).filterMap f))) ⟨same_new hD, upd_same⟩ (fun i H2 _ p => hG H2 p.1) ?_ (fun H2 p => q D H2 hD p.1 p.2)
  intro i x H2 H' hi ⟨p1, p2⟩ y
  refine hs i x H2 H' _ _ hi p1 y (fun y H4 e s => ?_) (fun H3 e s => ?_)
  · refine ⟨_, s _ _ p2, sz_lt (by have := fm_len f i; omega), ?_, ?_⟩
    · intro b o hb
      rw [upd_ne (ne_of_none hb hD)]
      exact s _ _ (p1 _ _ hb)
    · rw [fm_succ, e]; exact upd_same
  · refine ⟨p1.trans s, ?_⟩
    rw [fm_succ, e, List.append_nil]
    exact s _ _ p2
theorem fm_map {α : Type} (f : Nat → α) (h : α → V) (n : Nat) : (List.range n).filterMap (fun i => some (h (f i))) = ((List.range n).map f).map h := by
  rw [List.map_map]
  induction n with
  | zero => rfl
  | succ n ih => rw [fm_succ (fun i => some (h (f i))), ih, List.range_succ, List.map_append]; rfl
theorem rgC_up {i j c : Int} (hc : 0 < c) (hc2 : c < 1000000) (hi : -1000000000 ≤ i ∧ i ≤ 1000000000) (hj : -1000000000 ≤ j ∧ j ≤ 1000000000) : RgC i j c (if i < j then ((j - i - 1) / c + 1).toNat else 0) := by
  have e : Builtin.Range.rangeSize i j c = ((if i < j then ((j - i - 1) / c + 1).toNat else 0 : Nat) : Int) := by
    unfold Builtin.Range.rangeSize
    rw [if_pos (by omega)]
    split
    · have : 0 ≤ (j - i - 1) / c := Int.ediv_nonneg (by omega) (by omega)
      omega
    · rfl
  refine ⟨by omega, by omega, ?_, e⟩
  unfold Builtin.Range.small
  rw [e]
  have hz : ((if i < j then ((j - i - 1) / c + 1).toNat else 0 : Nat) : Int) * c ≤ 4000000000 ∧ ((if i < j then ((j - i - 1) / c + 1).toNat else 0 : Nat) : Int) ≤ 4000000000 ∧ 0 ≤ ((if i < j then ((j - i - 1) / c + 1).toNat else 0 : Nat) : Int) := by
    split
    · have h0 : 0 ≤ (j - i - 1) / c := Int.ediv_nonneg (by omega) (by omega)
      have h1 : (j - i - 1) / c * c ≤ j - i - 1 := Int.ediv_mul_le _ (by omega)
      have h2 : (j - i - 1) / c ≤ j - i - 1 := Int.ediv_le_self _ (by omega)
      have h3 : (((j - i - 1) / c + 1).toNat : Int) = (j - i - 1) / c + 1 := by omega
      rw [h3, Int.add_mul]
      omega
    · simp
  generalize ((if i < j then ((j - i - 1) / c + 1).toNat else 0 : Nat) : Int) = n at *
  simp only [Builtin.Range.rangeFitsLong, Bool.and_eq_true, Bool.or_eq_true, decide_eq_true_eq, beq_iff_eq]
  refine ⟨by omega, .inr ?_⟩
  rw [if_pos (by omega), Bool.and_eq_true, decide_eq_true_eq, decide_eq_true_eq]
  omega
/-- what making an instance asks -/
def MakeP (C : Addr) (sp : Sp) (E : XK) (vs : List V) (H : Hp) (Q : VK) : Prop := ∀ x dx, H x = none → H dx = none → dx ≠ x → sp (.ref x :: vs) (upd (upd H dx (.own x)) x (.ins C dx [])) (fun v H2 => v = .non ∧ Q (.ref x) H2) E
theorem L_make {C : Addr} {sp : Sp} {E : XK} (h : tr σ H fun vs H1 => MakeP C sp E vs H1 Q) : tMake C sp [] E tr σ H Q := by
  unfold tMake
  simp only [List.append_nil]
  exact h
/-- a new instance: all that stood stands -/
def NewI (H : Hp) (C : Addr) (fs : List (Str × V)) (Q : VK) : Prop := ∀ p H' dx, H p = none → Same H H' → H' p = some (.ins C dx fs) → Q (.ref p) H'
theorem L_gTup {n : Nat} {t : TGs} {a : Addr} {xs : List V} {Q : L2.St → Hp → Prop} (h : SqT K H a xs) (hn : xs.length = n) (q : t xs σ H Q) : gTup K n t (.ref a) σ H Q := ⟨a, xs, rfl, h, hn, q⟩
theorem L_gLst {n : Nat} {t : TGs} {a : Addr} {xs : List V} {Q : L2.St → Hp → Prop} (h : SqL K H a xs) (hn : xs.length = n) (q : t xs σ H Q) : gLst K n t (.ref a) σ H Q := ⟨a, xs, rfl, h, hn, q⟩
theorem L_gCons {v : V} {r : List V} {t : TG} {u : TGs} {Q : L2.St → Hp → Prop} (q : t v σ H fun σ' H' => u r σ' H' Q) : gCons t u (v :: r) σ H Q := ⟨v, r, rfl, q⟩
theorem L_gNil {Q : L2.St → Hp → Prop} (q : Q σ H) : gNil [] σ H Q := ⟨rfl, q⟩
theorem L_sub {to ti : TE} {t : TSet} {v : V} {Q : L2.St → Hp → Prop} (h : to σ H fun o H1 => ti σ H1 fun i H2 => t o i v H2 fun H3 => Q σ H3) : gSub to ti t v σ H Q := h
theorem L_setL {p : Addr} {xs : List V} {k : Int} {j : Nat} {v : V} {Q : Hp → Prop} (h : H p = some (.lst xs)) (hj : ixN xs.length k = some j) (q : Q (upd H p (.lst (xs.set j v)))) : rSetL (.ref p) (.int k) v H Q := ⟨p, xs, k, j, rfl, rfl, h, hj, q⟩
theorem ixN_of {n : Nat} {k : Int} (h0 : 0 ≤ k) (h : k < n) : ixN n k = some k.toNat := by
  unfold ixN
  rw [if_pos h0, if_pos h]
theorem L_sFld {f : Str} {ta tv : TE} {N B C' : L2.St → Hp → Prop} {R : VK} (h : tv σ H fun y H1 => ta σ H1 fun x H2 => ∃ a C dx fs, x = .ref a ∧ H2 a = some (.ins C dx fs) ∧ Cls K C ∧ NoAttr K C f ∧ fs.length < 1000 ∧ N σ (upd H2 a (.ins C dx (putF f y fs)))) : sFld K ta tv f ⟨N, R, B, C'⟩ σ H := h
theorem L_sFldv {a C dx : Addr} {fs : List (Str × V)} {f : Str} {Q : Addr → Addr → Addr → List (Str × V) → Prop} (h : H a = some (.ins C dx fs)) (cl : Cls K C) (n : NoAttr K C f) (l : fs.length < 1000) (q : Q a C dx fs) :
    ∃ a' C dx fs, V.ref a = V.ref a' ∧ H a' = some (.ins C dx fs) ∧ Cls K C ∧ NoAttr K C f ∧ fs.length < 1000 ∧ Q a' C dx fs := ⟨a, C, dx, fs, rfl, h, cl, n, l, q⟩
theorem L_repL {a : Addr} {xs : List V} {k : Int} (h : H a = some (.lst xs)) (h1 : -(2 ^ 63) ≤ k) (h2 : k < 2 ^ 63) (h3 : xs.length * k.toNat ≤ sizeLine) (q : ∀ p, H p = none → Q (.ref p) (upd H p (.lst (List.replicate k.toNat xs).flatten))) : aMul (.ref a) (.int k) H Q := .inr ⟨a, k, xs, rfl, rfl, h, h1, h2, h3, q⟩
theorem atI_int {xs : List V} {k : Int} {v : V} (h0 : 0 ≤ k) (h : xs[k.toNat]? = some v) : atI xs k = some v := by
  obtain ⟨j, rfl⟩ : ∃ j : Nat, k = (j : Int) := ⟨k.toNat, by omega⟩
  exact atI_nat h
theorem atI_ints {xs : List Int} {k : Int} (h0 : 0 ≤ k) (h : k < xs.length) : atI (xs.map V.int) k = some (.int (xs.getD k.toNat 0)) := by
  refine atI_int h0 ?_
  have hl : k.toNat < xs.length := by omega
  rw [List.getElem?_map, List.getElem?_eq_getElem hl]
  simp [List.getD, List.getElem?_eq_getElem hl]
theorem L_nw {xs : List V} {R : Prop} (q : R) (hl : xs.length ≤ 1000000 := by simp) : xs.length ≤ sizeLine ∧ R := ⟨sz_dec hl, q⟩
end
theorem fm_succ' {α : Type} (f : Nat → Option α) (i : Nat) : (List.range (i + 1)).filterMap f = (List.range i).filterMap f ++ (match f i with | some y => [y] | none => []) := by
  rw [List.range_succ, List.filterMap_append]
  cases h : f i <;> simp [h]
theorem fm_len' {α : Type} (f : Nat → Option α) (i : Nat) : ((List.range i).filterMap f).length ≤ i := by
  have := List.length_filterMap_le f (List.range i)
  simpa using this
/-! ### data as trees -/
mutual
theorem Dp_same {K : PySem.W.Frag} {H H' : Hp} (e : Same H H') : ∀ (d : PyData) {v : V}, Dp K H v d → Dp K H' v d
  | .none, _, h => by cases h; exact .non
  | .bool b, _, h => by cases h; exact .bl b
  | .int i, _, h => by cases h; exact .int i
  | .str x, _, h => by cases h; exact .str x
  | .list ds, _, h => by cases h with | lst hs ha => exact .lst (e.seq hs) (DpAll_same e ds ha)
  | .tuple ds, _, h => by cases h with | tup hs ha => exact .tup (e.seqT hs) (DpAll_same e ds ha)
  | .dict _, _, h => by cases h
theorem DpAll_same {K : PySem.W.Frag} {H H' : Hp} (e : Same H H') : ∀ (ds : List PyData) {vs : List V}, DpAll K H vs ds → DpAll K H' vs ds
  | [], _, h => by cases h; exact .nil
  | d :: ds, _, h => by cases h with | cons h1 h2 => exact .cons (Dp_same e d h1) (DpAll_same e ds h2)
end
section
variable {K : PySem.W.Frag} {H H' : Hp} {v : V} {vs : List V} {d : PyData} {ds : List PyData}
theorem _root_.L2.Dp.same (h : Dp K H v d) (e : Same H H') : Dp K H' v d := Dp_same e d h
theorem _root_.L2.DpAll.same (h : DpAll K H vs ds) (e : Same H H') : DpAll K H' vs ds := DpAll_same e ds h
theorem _root_.L2.DpAll.len : ∀ {ds : List PyData} {vs : List V}, DpAll K H vs ds → vs.length = ds.length
  | [], _, h => by cases h; rfl
  | d :: ds, _, h => by cases h with | cons h1 h2 => rw [List.length_cons, List.length_cons, h2.len]
theorem _root_.L2.DpAll.at : ∀ {ds : List PyData} {vs : List V} {i : Nat}, DpAll K H vs ds → ds[i]? = some d → ∃ v, vs[i]? = some v ∧ Dp K H v d
  | [], _, i, h, e => by simp at e
  | c :: ds, _, 0, h, e => by
    cases h with
    | cons h1 h2 =>
      rename_i v vs
      have : c = d := by simpa using e
      subst this
      exact ⟨v, by simp, h1⟩
  | c :: ds, _, i + 1, h, e => by
    cases h with
    | cons h1 h2 =>
      obtain ⟨v, q1, q2⟩ := h2.at (i := i) (by simpa using e)
      exact ⟨v, by simpa using q1, q2⟩
theorem _root_.L2.DpAll.of : ∀ {ds : List PyData} {vs : List V} {i : Nat}, DpAll K H vs ds → vs[i]? = some v → ∃ d, ds[i]? = some d ∧ Dp K H v d
  | [], _, i, h, e => by cases h; simp at e
  | c :: ds, _, 0, h, e => by
    cases h with
    | cons h1 h2 =>
      rename_i w vs
      have : w = v := by simpa using e
      subst this
      exact ⟨c, by simp, h1⟩
  | c :: ds, _, i + 1, h, e => by
    cases h with
    | cons h1 h2 =>
      obtain ⟨d, q1, q2⟩ := h2.of (i := i) (by simpa using e)
      exact ⟨d, by simpa using q1, q2⟩
theorem _root_.L2.DpAll.app : ∀ {ds es : List PyData} {vs us : List V}, DpAll K H vs ds → DpAll K H us es → DpAll K H (vs ++ us) (ds ++ es)
  | [], _, _, _, h, g => by cases h; exact g
  | d :: ds, _, _, _, h, g => by cases h with | cons h1 h2 => exact .cons h1 (h2.app g)
theorem _root_.L2.DpAll.snoc (h : DpAll K H vs ds) (g : Dp K H v d) : DpAll K H (vs ++ [v]) (ds ++ [d]) := h.app (.cons g .nil)
theorem dp_ints : ∀ (ns : List Int), DpAll K H (ns.map V.int) (ns.map PyData.int)
  | [] => .nil
  | n :: ns => .cons (.int n) (dp_ints ns)
theorem dp_strs : ∀ (ns : List Str), DpAll K H (ns.map V.str) (ns.map PyData.str)
  | [] => .nil
  | n :: ns => .cons (.str n) (dp_strs ns)
theorem of_ints : ∀ {ns : List Int} {vs : List V}, DpAll K H vs (ns.map PyData.int) → vs = ns.map V.int
  | [], _, h => by cases h; rfl
  | n :: ns, _, h => by
    cases h with
    | cons h1 h2 => cases h1; rw [of_ints h2]; rfl
theorem of_strs : ∀ {ns : List Str} {vs : List V}, DpAll K H vs (ns.map PyData.str) → vs = ns.map V.str
  | [], _, h => by cases h; rfl
  | n :: ns, _, h => by
    cases h with
    | cons h1 h2 => cases h1; rw [of_strs h2]; rfl
theorem of_tup (h : Dp K H v (.tuple ds)) : ∃ a xs, v = .ref a ∧ SqT K H a xs ∧ DpAll K H xs ds := by
  cases h with | tup h1 h2 => exact ⟨_, _, rfl, h1, h2⟩
theorem of_lst (h : Dp K H v (.list ds)) : ∃ a xs, v = .ref a ∧ SqL K H a xs ∧ DpAll K H xs ds := by
  cases h with | lst h1 h2 => exact ⟨_, _, rfl, h1, h2⟩
theorem of_int {i : Int} (h : Dp K H v (.int i)) : v = .int i := by cases h; rfl
theorem of_str {i : Str} (h : Dp K H v (.str i)) : v = .str i := by cases h; rfl
theorem of_bl {i : Bool} (h : Dp K H v (.bool i)) : v = .bl i := by cases h; rfl
theorem of_non (h : Dp K H v .none) : v = .non := by cases h; rfl
theorem of_t2 {d e : PyData} (h : Dp K H v (.tuple [d, e])) : ∃ a x y, v = .ref a ∧ SqT K H a [x, y] ∧ Dp K H x d ∧ Dp K H y e := by
  obtain ⟨a, xs, rfl, h1, h2⟩ := of_tup h
  cases h2 with
  | cons p1 p2 => cases p2 with | cons p3 p4 => cases p4; exact ⟨a, _, _, rfl, h1, p1, p3⟩
theorem of_t3 {d e f : PyData} (h : Dp K H v (.tuple [d, e, f])) : ∃ a x y z, v = .ref a ∧ SqT K H a [x, y, z] ∧ Dp K H x d ∧ Dp K H y e ∧ Dp K H z f := by
  obtain ⟨a, xs, rfl, h1, h2⟩ := of_tup h
  cases h2 with
  | cons p1 p2 => cases p2 with | cons p3 p4 => cases p4 with | cons p5 p6 => cases p6; exact ⟨a, _, _, _, rfl, h1, p1, p3, p5⟩
theorem of_t4 {d e f g : PyData} (h : Dp K H v (.tuple [d, e, f, g])) : ∃ a x y z w, v = .ref a ∧ SqT K H a [x, y, z, w] ∧ Dp K H x d ∧ Dp K H y e ∧ Dp K H z f ∧ Dp K H w g := by
  obtain ⟨a, xs, rfl, h1, h2⟩ := of_tup h
  cases h2 with
  | cons p1 p2 => cases p2 with | cons p3 p4 => cases p4 with | cons p5 p6 => cases p6 with | cons p7 p8 => cases p8; exact ⟨a, _, _, _, _, rfl, h1, p1, p3, p5, p7⟩
end
/-- the part of a heap at which P holds -/
noncomputable def rs (P : Addr → Prop) (H : Hp) : Hp := fun a => @ite _ (P a) (Classical.propDecidable _) (H a) none
theorem rs_at {P : Addr → Prop} {H : Hp} {a : Addr} {o : HO} (p : P a) (h : H a = some o) : rs P H a = some o := by unfold rs; rw [if_pos p]; exact h
theorem rs_of {P : Addr → Prop} {H : Hp} {a : Addr} {o : HO} (h : rs P H a = some o) : P a ∧ H a = some o := by
  unfold rs at h
  split at h
  · rename_i p; exact ⟨p, h⟩
  · cases h
theorem rs_same {P P' : Addr → Prop} {H H' : Hp} (h : ∀ a o, P a → H a = some o → P' a ∧ H' a = some o) : Same (rs P H) (rs P' H') := fun a o e => by
  obtain ⟨p, q⟩ := rs_of e
  obtain ⟨p', q'⟩ := h a o p q
  exact rs_at p' q'
theorem rs_sub {P : Addr → Prop} {H : Hp} : Same (rs P H) H := fun a o e => (rs_of e).2
theorem rs_in {P : Addr → Prop} {H H' : Hp} (h : ∀ a o, P a → H a = some o → H' a = some o) : Same (rs P H) H' := fun a o e => h a o (rs_of e).1 (rs_of e).2
theorem rs_all {P : Addr → Prop} {H H' : Hp} (h : ∀ a o, H a = some o → P a ∧ H' a = some o) : Same H (rs P H') := fun a o e => rs_at (h a o e).1 (h a o e).2
/-- a list that changes: what stood ahead of it stands -/
theorem same_mut {H H' : Hp} {a : Addr} {o : HO} (e : Same H H') (h : H a = none) : Same H (upd H' a o) := fun b o' q => by
  rw [upd_ne (fun z => by rw [z, h] at q; cases q)]; exact e b o' q
section
variable {K : PySem.W.Frag} {σ : L2.St} {H : Hp} {g : TG} {tt : TT} {te : TE} {tb : TS} {D : Ends} {x y : V} {Q : VK}
theorem L_rlD {v : V} {ds : List PyData} {R : Addr → Prop} (h : Dp K H v (.list ds)) (q : ∀ a, v = .ref a → R a) : ∃ b, v = V.ref b ∧ (∃ xs, SqL K H b xs) ∧ R b := by
  obtain ⟨a, xs, rfl, h1, h2⟩ := of_lst h
  exact ⟨a, rfl, ⟨xs, h1⟩, q a rfl⟩
/-- for x in a list of data -/
theorem for_dp {a : Addr} {ds : List PyData} (h : Dp K H (.ref a) (.list ds)) (Pv : Nat → L2.St → Hp → Prop) (h0 : Pv 0 σ H) (hG : ∀ i σ' H', i ≤ ds.length → Pv i σ' H' → Same H H')
    (hs : ∀ i d x σ' H', i < ds.length → ds[i]? = some d → Pv i σ' H' → Dp K H' x d → g x σ' H' fun σ2 H2 => tb { D with nx := Pv (i + 1), ct := Pv (i + 1), bk := D.nx } σ2 H2) (hd : ∀ σ' H', Pv ds.length σ' H' → D.nx σ' H') :
    ∃ W : Nat → Nat → L2.St → Hp → Prop, (∃ m, W 0 m σ H) ∧ ∀ i m σ H, W i m σ H →
      ((Itl K a).stop i H ∧ D.nx σ H) ∨ ((Itl K a).go i H ∧ ∃ N : L2.St → Hp → Prop, (∀ σ' H', N σ' H' → ∃ m', m' < m ∧ W (i + 1) m' σ' H') ∧ ∀ x H', (Itl K a).yld i H x H' → g x σ H' fun σ2 H2 => tb { D with nx := N, ct := N, bk := D.nx } σ2 H2) := by
  obtain ⟨a', xs, ea, h1, h2⟩ := of_lst h
  cases ea
  have hl := h2.len
  refine for_it walk_list Pv h0 (fun i σ' H' hi p => (hG i σ' H' (by omega) p).seq h1) (fun i x σ' H' H'' hi p ⟨e1, e2⟩ => ?_) (fun σ' H' p => hd σ' H' (by rw [← hl]; exact p))
  subst e1
  obtain ⟨d, e3, e4⟩ := h2.of e2
  exact hs i d x σ' _ (by omega) e3 p (e4.same (hG i σ' _ (by omega) p))
/-- a comprehension: what turn i gives is told as data, or none; the new list's things stand apart from it -/
theorem lc_dp {J : It} {n : Nat} {G : Hp → Prop} {Y : Nat → Hp → V → Hp → Prop} (w : L2.Walk J n G Y) {vs : List Nat} {Qd : Addr → Hp → Prop} (f : Nat → Option PyData) (hn : n ≤ 1000000) (hG : ∀ H', Same H H' → G H')
    (hs : ∀ i x p H2 H' (R : V → Hp → Prop) (R' : Hp → Prop), i < n → H p = none → Same H H2 → (∃ o, H2 p = some o) → Y i H2 x H' → (∀ y d H4, f i = some d → Same H2 H4 → Dp K (rs (· ≠ p) H4) y d → R y H4) → (∀ H3, f i = none → Same H2 H3 → R' H3) →
      g x (wipe σ vs) H' fun σ2 H2 => wipe σ2 vs = wipe σ vs ∧ tt σ2 H2 fun b H3 => if b = true then te σ2 H3 R else R' H3)
    (q : ∀ p H' vs, H p = none → Same H H' → H' p = some (.lst vs) → DpAll K (rs (· ≠ p) H') vs ((List.range n).filterMap f) → Qd p H') :
    ∀ D, H D = none → ∃ W : Nat → Nat → Hp → Prop, (∃ m, W 0 m (upd H D (.lst []))) ∧ ∀ i m H, W i m H →
      (J.stop i H ∧ Qd D H) ∨ (J.go i H ∧ ∃ Nx : Hp → Prop, (∀ H', Nx H' → ∃ m', m' < m ∧ W (i + 1) m' H') ∧ ∀ x H', J.yld i H x H' → g x (wipe σ vs) H' fun σ2 H2 => wipe σ2 vs = wipe σ vs ∧ tt σ2 H2 fun b H3 =>
        if b = true then te σ2 H3 fun y H4 => ∃ acc, H4 D = some (.lst acc) ∧ acc.length < sizeLine ∧ Nx (upd H4 D (.lst (acc ++ [y]))) else Nx H3) := by
  intro D hD
  refine lc_it w (fun i H2 => Same H H2 ∧ ∃ us, H2 D = some (.lst us) ∧ DpAll K (rs (· ≠ D) H2) us ((List.range i).filterMap f)) ⟨same_new hD, [], upd_same, .nil⟩ (fun i H2 _ p => hG H2 p.1) ?_ (fun H2 ⟨p1, us, p2, p3⟩ => q D H2 us hD p1 p2 p3)
  rintro i x H2 H' hi ⟨p1, us, p2, p3⟩ y
  refine hs i x D H2 H' _ _ hi hD p1 ⟨_, p2⟩ y (fun y d H4 e s dy => ?_) (fun H3 e s => ?_)
  · have e4 : Same (rs (· ≠ D) H2) (rs (· ≠ D) H4) := rs_same fun a o h1 h2 => ⟨h1, s _ _ h2⟩
    have e5 : Same (rs (· ≠ D) H4) (rs (· ≠ D) (upd H4 D (.lst (us ++ [y])))) := rs_same fun a o h1 h2 => ⟨h1, by rw [upd_ne h1]; exact h2⟩
    refine ⟨us, s _ _ p2, sz_lt (by have := p3.len; have := fm_len' f i; omega), same_mut (p1.trans s) hD, _, upd_same, ?_⟩
    rw [fm_succ', e]
    exact ((p3.same e4).same e5).snoc (dy.same e5)
  · refine ⟨p1.trans s, us, s _ _ p2, ?_⟩
    rw [fm_succ', e, List.append_nil]
    exact p3.same (rs_same fun a o h1 h2 => ⟨h1, s _ _ h2⟩)
end
/-! ### defs that may raise -/
structure MetX (P : Program) (w : World) (K : PySem.W.Frag) (mg : Str → Option Value) (base : Heap) (k : Nat) (C : Addr) (m : Str) (sp : Sp) : Prop where
  ex : ∃ (f : Addr) (fd : FuncData) (ps : List Str), Cls K C ∧ Meth K C m f ∧ FnOk P w K mg base (L2.CX P w) k f fd ps sp ∧ Binds K fd ps []
structure MakX (P : Program) (w : World) (K : PySem.W.Frag) (mg : Str → Option Value) (base : Heap) (k : Nat) (x : Str) (C : Addr) (sp : Sp) : Prop where
  ex : ∃ (f : Addr) (fd : FuncData) (ps : List Str), Mk K C f ∧ FnOk P w K mg base (L2.CX P w) k f fd ps sp ∧ mg x = some (.ref C) ∧ Binds K fd ps []
section
variable {P : Program} {w : World} {K : PySem.W.Frag} {mg : Str → Option Value} {base : Heap}
theorem MethAt.metX {C : Addr} {m qual : Str} {st : Stmt} {N ps : List Str} {k : Nat} {sp : Sp} (c : Cls K C) (d : MethAt K C m qual st ps) (S : FnScope N ps (defScope st)) (len : ∀ vs H Q E, sp vs H Q E → vs.length = ps.length)
    (hbody : ∀ (f : Addr) (cdv : Value) (A : Around) (outer : List Env) (s : Shared) (H : Hp) (vs : List V) (Q : VK) (E : XK), Room k (A.deeper (envOfC qual (defScope st) s.heap.objs.size f cdv)) → sp vs H Q E →
      ∃ t, PSs (cxOf (L2.CX P w) P w K mg base N qual (defScope st) f cdv A outer s H E) (defBody st) t ∧ t { nx := fun _ H' => Q .non H', rt := Q } (start N vs) H) : MetX P w K mg base (k + 1) C m sp := by
  obtain ⟨f, fd, F, hm, b⟩ := d.ex
  exact ⟨f, fd, ps, c, hm, F.okX S len (hbody f), b⟩
theorem InitAt.makX {x : Str} {C : Addr} {qual : Str} {st : Stmt} {N ps : List Str} {k : Nat} {sp : Sp} (hx : mg x = some (.ref C)) (d : InitAt K C qual st ps) (S : FnScope N ps (defScope st)) (len : ∀ vs H Q E, sp vs H Q E → vs.length = ps.length)
    (hbody : ∀ (f : Addr) (cdv : Value) (A : Around) (outer : List Env) (s : Shared) (H : Hp) (vs : List V) (Q : VK) (E : XK), Room k (A.deeper (envOfC qual (defScope st) s.heap.objs.size f cdv)) → sp vs H Q E →
      ∃ t, PSs (cxOf (L2.CX P w) P w K mg base N qual (defScope st) f cdv A outer s H E) (defBody st) t ∧ t { nx := fun _ H' => Q .non H', rt := Q } (start N vs) H) : MakX P w K mg base (k + 1) x C sp := by
  obtain ⟨f, fd, F, hm, b⟩ := d.ex
  exact ⟨f, fd, ps, hm, F.okX S len (hbody f), hx, b⟩
end
/-- where no exception is wanted -/
theorem passN {X : Cx} (σ : L2.St) : PassesAt (L2.CX X.prog X.w) X σ ((fun _ => E0) σ) := fun pins H s e s' I c => passL pins σ H s e s' I c
/-- x.m(..), C(..), where what is raised is wished for at the caller's slots -/
def tMethE (C : Addr) (m : Str) (sp : Sp) (E : L2.St → XK) (ta : TE) (t : TA) : TE := fun σ H Q => ta σ H fun x H1 => ∃ a dx fs, x = .ref a ∧ H1 a = some (.ins C dx fs) ∧ fs.lookup m = none ∧ t σ H1 fun vs H2 => sp (x :: vs) H2 Q (E σ)
def tMakeE (C : Addr) (sp : Sp) (E : L2.St → XK) (t : TA) : TE := fun σ H Q => t σ H fun vs H1 => ∀ x dx, H1 x = none → H1 dx = none → dx ≠ x →
  sp (.ref x :: vs) (upd (upd H1 dx (.own x)) x (.ins C dx [])) (fun v H2 => v = .non ∧ Q (.ref x) H2) (E σ)
section
variable {X : Cx} {CX : CXT} {k j : Nat} {f C : Addr} {fd : FuncData} {ps : List Str} {x m : Str} {sp : Sp} {p pos apos : Pos} {e o : Expr} {es : List Expr} {ta : TE} {t : TA} {E : L2.St → XK}
theorem run_makeS {pins : List (Addr × Obj)} {σ : L2.St} {H : Hp} {s : Shared} {Q : VK} {us : List Value} {vs : List V} (M : Mk X.K C f) (F : FnOk X.prog X.w X.K X.mg X.base CX k f fd ps sp) (hr : Room (k + 1) X.A) (hb : Binds X.K fd ps [])
    (hx : PassesAt CX X σ (E σ)) (I : Inv X pins σ H s) (r : Vals vs us)
    (h : ∀ x dx, H x = none → H dx = none → dx ≠ x → sp (.ref x :: vs) (upd (upd H dx (.own x)) x (.ins C dx [])) (fun v H2 => v = .non ∧ Q (.ref x) H2) (E σ)) :
    wpAny (model X.prog X.w) X.A (call (.ref C) us) (EP X pins σ Q) X.xe s := by
  -- the new object's place, its dict's place
  obtain ⟨dn, hdn⟩ : ∃ dn, dn = s.heap.objs.size := ⟨_, rfl⟩
  have fresh1 : H dn = none := I.hok.fresh (Nat.le_of_eq hdn.symm)
  have fresh2 : H (dn + 1) = none := I.hok.fresh (Nat.le_succ_of_le (Nat.le_of_eq hdn.symm))
  have asked := h (dn + 1) dn fresh2 fresh1 (Nat.ne_of_lt (Nat.lt_succ_self _))
  have J := Inv.made (C := C) I
  rw [← hdn] at J
  have args : Vals (V.ref (dn + 1) :: vs) (Value.ref (dn + 1) :: us) := .cons rfl r
  have many : (Value.ref (dn + 1) :: us).length = ps.length := args.length.symm.trans (F.len _ _ _ _ asked)
  have bound := hb _ (Value.ref (dn + 1) :: us) J.kIn (by rw [List.append_nil]; exact many)
  rw [List.append_nil] at bound
  subst hdn
  refine wpAny_call (make_map (f := f) I.kIn M.makes M.init (beq_iff_eq.mp M.fn) ?_)
  refine codeAny_mono (F.run _ X.stack _ _ ⟨_, []⟩ _ _ _ (E σ) (hr.make C us []) (J.env0.make C us []) bound args asked) fun out s' ho => ?_
  match out, ho with
  | .error e, ho => exact hx pins _ _ e s' J ho
  | .ok (.ret u), ho =>
    obtain ⟨v, H', J', rel, hv, rest⟩ := J.after ho
    cases hv
    exact ⟨rel, .ref (s.heap.objs.size + 1), H', J', rfl, rest⟩
  | .ok .next, ho => exact ho.elim
  | .ok .brk, ho => exact ho.elim
  | .ok .cont, ho => exact ho.elim
theorem pe_xS (c : CalX X.prog X.w X.K X.mg X.base k x sp) (hr : Room j X.A) (hk : k ≤ j) (hg : Gl X x) (hx : ∀ σ, PassesAt (L2.CX X.prog X.w) X σ (E σ)) (ha : PA X (e :: es) t)
    (hdb : (x == ("__debug__" : Str)) = false := by decide) (he : starEach (e :: es) X.env = (false, eval e X.env) :: starEach es X.env := by rfl) (hpl : (backTo pos (starEach es X.env)).any (·.1) = false := by rfl) :
    PE X (.Call (.Name x p) (e :: es) [] pos) (tCallS sp E t) := by
  obtain ⟨f, fd, ps, F, hm, kp, b⟩ := c.ex
  exact pe_callS F (hr.mono hk) hg hm kp b hx ha hdb he hpl
theorem pe_xMk (c : MakX X.prog X.w X.K X.mg X.base k x C sp) (hr : Room j X.A) (hk : k + 1 ≤ j) (hg : Gl X x) (hx : ∀ σ, PassesAt (L2.CX X.prog X.w) X σ (E σ)) (ha : PA X (e :: es) t)
    (hdb : (x == ("__debug__" : Str)) = false := by decide) (he : starEach (e :: es) X.env = (false, eval e X.env) :: starEach es X.env := by rfl) (hpl : (backTo pos (starEach es X.env)).any (·.1) = false := by rfl) :
    PE X (.Call (.Name x p) (e :: es) [] pos) (tMakeE C sp E t) := by
  obtain ⟨f, fd, ps, M, F, hm, hb⟩ := c.ex
  refine ⟨fun pins s σ H Q I h => ?_⟩
  refine wpAny_Call_Name_kw (ld_glob I hg hm ?_ hdb)
  refine PySem.W.callWith_K (h₀ := X.base) I.ok.mod.kin M.kp (thn (ha.run pos pins s σ H _ I h) fun us s1 ⟨vs, H1, I1, r, q⟩ => ⟨I1.kIn, ?_⟩) he hpl
  exact run_makeS M F (hr.mono hk) hb (hx σ) I1 r q
theorem pe_xMt {pl : Sem Bool} (c : MetX X.prog X.w X.K X.mg X.base k C m sp) (hr : Room j X.A) (hk : k ≤ j) (hx : ∀ σ, PassesAt (L2.CX X.prog X.w) X σ (E σ)) (he : PE X o ta) (ha : PA X (e :: es) t)
    (hst : starEach (e :: es) X.env = (false, eval e X.env) :: starEach es X.env := by rfl) (hpl : (backTo pos (starEach es X.env)).any (·.1) = false := by rfl)
    (ht : eval (.Call (.Attribute o m apos) (e :: es) [] pos) X.env = (do
      let ov ← eval o X.env
      standAt apos.atName
      let (f, first) ← holding [ov] (getMethod ov m pl)
      callWith pos f first (backTo pos (starEach (e :: es) X.env)) (backToKw pos (keywordEach [] X.env))) := by rfl) :
    PE X (.Call (.Attribute o m apos) (e :: es) [] pos) (tMethE C m sp E ta t) := by
  obtain ⟨f, fd, ps, hc, hm, F, hb⟩ := c.ex
  refine ⟨fun pins s σ H Q I h => ?_⟩
  refine PySem.W.methodCall_KW (pl := pl) (thn (he.run pins s σ H _ I h) fun u s1 ⟨x, H1, I1, rx, a, dx, fs, ex, ea, l, q⟩ => ?_) ht
  subst ex
  obtain rfl : u = Value.ref a := rx
  refine getmeth_ok I1 ea hc hm l ?_
  refine PySem.W.callWith_K (first := [.ref a]) (h₀ := X.base) I.ok.mod.kin hm.kp (thn (ha.run pos pins s1 σ H1 _ I1 q) fun us s2 ⟨vs, H2, I2, r, q2⟩ => ⟨I2.kIn, ?_⟩) hst hpl
  exact run_fnS (us := .ref a :: us) (vs := .ref a :: vs) F (hr.mono hk) hb (hx σ) I2 (.cons rfl r) q2
theorem pe_xMt0 {pl : Sem Bool} (c : MetX X.prog X.w X.K X.mg X.base k C m sp) (hr : Room j X.A) (hk : k ≤ j) (hx : ∀ σ, PassesAt (L2.CX X.prog X.w) X σ (E σ)) (he : PE X o ta)
    (ht : eval (.Call (.Attribute o m apos) [] [] pos) X.env = (do
      let ov ← eval o X.env
      standAt apos.atName
      let (f, first) ← holding [ov] (getMethod ov m pl)
      callWith pos f first (backTo pos (starEach [] X.env)) (backToKw pos (keywordEach [] X.env))) := by rfl) :
    PE X (.Call (.Attribute o m apos) [] [] pos) (tMethE C m sp E ta tNil) := by
  obtain ⟨f, fd, ps, hc, hm, F, hb⟩ := c.ex
  refine ⟨fun pins s σ H Q I h => ?_⟩
  refine PySem.W.methodCall_KW (pl := pl) (thn (he.run pins s σ H _ I h) fun u s1 ⟨x, H1, I1, rx, a, dx, fs, ex, ea, l, q⟩ => ?_) ht
  subst ex
  obtain rfl : u = Value.ref a := rx
  refine getmeth_ok I1 ea hc hm l ?_
  exact PySem.W.callWith_K0 (first := [.ref a]) I1.kIn hm.kp (run_fnS (us := [.ref a]) (vs := [.ref a]) F (hr.mono hk) hb (hx σ) I1 (.cons rfl .nil) q)
end
/-- an own exception class that is raised; one that is caught -/
structure ExcAt (K : PySem.W.Frag) (C : Addr) : Prop where
  x : PySem.W.excIn K C [.type "ValueError", .type "Exception", .type "BaseException", .type "object"] "ValueError.__new__" = true
  k : PySem.W.keepIn K (.ref C) = true
  b : PySem.W.subIn K (.ref C) (.type "BaseException") = some true
  t : PySem.W.typeIn K (.ref C) = some (.type "type")
structure ExcK (K : PySem.W.Frag) (C : Addr) : Prop where
  b : PySem.W.subIn K (.ref C) (.type "BaseException") = some true
  i : PySem.W.isClsIn K C = true
  t : PySem.W.typeIn K (.ref C) = some (.type "type")
theorem ExcK.exm {K : PySem.W.Frag} {C D : Addr} {r : Bool} (c : ExcK K C) (h : PySem.W.subIn K (.ref D) (.ref C) = some r) : PySem.W.exmOne K (.ref D) (.ref C) = some r := by
  have e1 : (PySem.W.subIn K (.ref C) (.type "BaseException") == some true) = true := by rw [c.b] <;> rfl
  have e2 : ((PySem.W.clsIn K C).isSome && PySem.W.typeIn K (.ref C) == some (.type "type")) = true := by
    have h2' : (PySem.W.clsIn K C).isSome = true := c.i
    rw [h2', c.t] <;> rfl
  show (if (PySem.W.subIn K (.ref C) (.type "BaseException") == some true) = true then (if ((PySem.W.clsIn K C).isSome && PySem.W.typeIn K (.ref C) == some (.type "type")) = true then PySem.W.subIn K (.ref D) (.ref C) else none) else none) = some r
  rw [if_pos e1, if_pos e2]
  exact h
/-- C() -/
theorem pmk_own0 {X : Cx} {C : Addr} {x : Str} {p pos : Pos} (c : ExcAt X.K C) (gC : X.mg x = some (.ref C)) (hg : Gl X x) (hdb : (x == ("__debug__" : Str)) = false := by decide) :
    PMk X (.Call (.Name x p) [] [] pos) (fun _ H Q => Q (.ref C) none H) := by
  intro pins s σ H Q I h
  refine wpAny_Call_Name_kw (ld_glob I hg gC ?_ hdb)
  refine PySem.W.callWith_K0 I.kIn c.k ?_
  obtain ⟨bm, N, nm, qn, bs, hdct, sn, sub, ab, col, dd, k0, k1, k2, k3, k5, mN, hC, hN, hni, T⟩ := exc_obj I.kIn c.x
  refine wpAny_call_exc_subT PySem.F.excBase_ValueError T hC hN hni (fun h' e hm => ?_) (Nat.zero_le _)
  exact mk_of I hm (raises_own c.b c.t) h (I.hok.gone hm.new)
section
variable {K : PySem.W.Frag} {σ : L2.St} {H : Hp} {ta : TE} {tr : TA} {Q : VK} {E : L2.St → XK} {C : Addr} {m : Str} {sp : Sp}
theorem L_callS (h : tr σ H fun vs H1 => sp vs H1 Q (E σ)) : tCallS sp E tr σ H Q := h
theorem L_methE (h : ta σ H fun x H1 => ∃ a dx fs, x = .ref a ∧ H1 a = some (.ins C dx fs) ∧ fs.lookup m = none ∧ tr σ H1 fun vs H2 => sp (x :: vs) H2 Q (E σ)) : tMethE C m sp E ta tr σ H Q := h
theorem L_makeE (h : tr σ H fun vs H1 => MakeP C sp (E σ) vs H1 Q) : tMakeE C sp E tr σ H Q := h
theorem L_meth {E : XK} (h : ta σ H fun x H1 => ∃ a dx fs, x = .ref a ∧ H1 a = some (.ins C dx fs) ∧ fs.lookup m = none ∧ tr σ H1 fun vs H2 => sp (x :: vs) H2 Q E) : tMeth C m sp [] E ta tr σ H Q := by
  unfold tMeth
  simp only [List.append_nil]
  exact h
theorem L_methv {a dx : Addr} {fs : List (Str × V)} {R : Prop} (h : H a = some (.ins C dx fs)) (l : fs.lookup m = none) (q : R) : ∃ a' dx fs, V.ref a = V.ref a' ∧ H a' = some (.ins C dx fs) ∧ fs.lookup m = none ∧ R := ⟨a, dx, fs, rfl, h, l, q⟩
theorem L_only {c : Value} {ts : Addr → Value → Option Addr → TS} {Wout : WX} {D : Ends} {cls : Value} {d : Option Addr} (h : PySem.W.exmOne K cls c = some true) (q : ∀ a, H a = none → ts a cls d D σ H) : wOnly K c ts Wout D cls d σ H := ⟨true, h, fun _ => q, fun z => nomatch z⟩
end
/-- no whole number: another kind of thing, or a truth -/
def NotW (K : PySem.W.Frag) (H : Hp) (v : V) : Prop := (∃ b, v = .bl b) ∨ ∃ a, TyX K H v (.type a) ∧ kitB a "int" = some false
/-- what is_whole denies -/
def BadW (K : PySem.W.Frag) (H : Hp) (v : V) (lo hi : Int) : Prop := NotW K H v ∨ ∃ t, v = .int t ∧ ¬ (lo ≤ t ∧ t ≤ hi)
section
variable {K : PySem.W.Frag} {H : Hp}
theorem notw_non : NotW K H .non := .inr ⟨_, .base .non, by decide +kernel⟩
theorem notw_bl {b : Bool} : NotW K H (.bl b) := .inl ⟨b, rfl⟩
theorem notw_str {z : Str} : NotW K H (.str z) := .inr ⟨_, .base (.str z), by decide +kernel⟩
theorem notw_lst {a : Addr} {xs : List V} (h : H a = some (.lst xs)) : NotW K H (.ref a) := .inr ⟨_, .base (.lst h), by decide +kernel⟩
theorem notw_tup {a : Addr} {xs : List V} (h : H a = some (.tup xs)) : NotW K H (.ref a) := .inr ⟨_, .base (.tup h), by decide +kernel⟩
theorem notw_dK {a : Addr} {xs : List (Key × V)} (h : H a = some (.dK xs)) : NotW K H (.ref a) := .inr ⟨_, .base (.dK h), by decide +kernel⟩
theorem badw_int {t lo hi : Int} (h : ¬ (lo ≤ t ∧ t ≤ hi)) : BadW K H (.int t) lo hi := .inr ⟨t, rfl, h⟩
theorem NotW.bad {v : V} {lo hi : Int} (h : NotW K H v) : BadW K H v lo hi := .inl h
end
section
variable {K : PySem.W.Frag} {H H' : Hp}
theorem tyx_T {a : Addr} {xs : List V} (h : SqT K H a xs) : TyX K H (.ref a) (.type "tuple") := by
  rcases h with (h | ⟨o, h⟩) | ⟨o, _, _, h, c, _⟩
  · exact .base (.tup h)
  · exact .fTuple h
  · exact .kTuple h c
theorem tyx_L {a : Addr} {xs : List V} (h : SqL K H a xs) : TyX K H (.ref a) (.type "list") := by
  rcases h with (h | ⟨o, h⟩) | ⟨o, _, _, h, c, _⟩
  · exact .base (.lst h)
  · exact .base (.frz h)
  · exact .kList h c
variable {σ : L2.St} {Q : VK}
theorem L_sort2 {a : Addr} {x y : Int} (h : SqL K H a [V.int x, V.int y]) (q : ∀ p, H p = none → Q (.ref p) (upd H p (.lst [V.int (min x y), V.int (max x y)]))) : rSorted K [.ref a] H Q := by
  refine ⟨a, [x, y], rfl, h, by simp, fun ns p hp hs hn => ?_⟩
  have hl := hp.length_eq
  match ns, hl with
  | [u, v], _ =>
    have hle : u ≤ v := by simpa using hs
    have hm : (u = x ∧ v = y) ∨ (u = y ∧ v = x) := by
      have h1 : u ∈ [x, y] := hp.mem_iff.mp (by simp)
      have h2 : v ∈ [x, y] := hp.mem_iff.mp (by simp)
      have h3 : x ∈ [u, v] := hp.mem_iff.mpr (by simp)
      have h4 : y ∈ [u, v] := hp.mem_iff.mpr (by simp)
      simp only [List.mem_cons, List.not_mem_nil, or_false] at h1 h2 h3 h4
      rcases h1 with h1 | h1 <;> rcases h2 with h2 | h2 <;> rcases h3 with h3 | h3 <;> rcases h4 with h4 | h4 <;> omega
    have e : [u, v] = [min x y, max x y] := by
      rcases hm with ⟨rfl, rfl⟩ | ⟨rfl, rfl⟩
      · rw [Int.min_eq_left hle, Int.max_eq_right hle]
      · rw [Int.min_eq_right hle, Int.max_eq_left hle]
    rw [e]
    exact q p hn
theorem L_list1 {a : Addr} {xs : List V} (h : SqL K H a xs) (q : ∀ l, H l = none → Q (.ref l) (upd H l (.lst xs))) : aList1 K [.ref a] H Q := ⟨a, xs, rfl, .inl h, q⟩
theorem L_tuple1 {a : Addr} {xs : List V} (h : SqL K H a xs) (q : ∀ l, H l = none → Q (.ref l) (upd H l (.tup xs))) : aTuple1 K [.ref a] H Q := ⟨a, xs, rfl, .inl ⟨h, q⟩⟩
theorem eqv_same {d : PyData} (h : SeqAt.shaped d = true) : PyData.eqv d d = true := SeqAt.eqv_refl d (SeqAt.canLay_of_shaped h)
theorem L_eqR {x y : V} {d : PyData} (hx : Dp K H x d) (hy : Dp K H y d) (s : SeqAt.shaped d = true) (q : Q (.bl true) H) : aEq K x y H Q := L_eqD hx hy s s (by rw [eqv_same s]; exact q)
theorem L_neR {x y : V} {d : PyData} (hx : Dp K H x d) (hy : Dp K H y d) (s : SeqAt.shaped d = true) (q : Q (.bl false) H) : aNe K x y H Q := L_neD hx hy s s (by rw [eqv_same s]; exact q)
theorem L_zipA {a b : Addr} {xs ys : List V} {R : Addr → Addr → Prop} (h1 : SqL K H a xs) (h2 : SqL K H b ys) (q : R a b) : ∃ a' b' xs ys, [V.ref a, V.ref b] = [.ref a', .ref b'] ∧ SqL K H a' xs ∧ SqL K H b' ys ∧ R a' b' := ⟨a, b, xs, ys, rfl, h1, h2, q⟩
end
/-- data that == may be asked of, at most n deep -/
structure Shp (n : Nat) (d : PyData) : Prop where
  c : d.canLay0 = true
  d : d.depth ≤ n
theorem Shp.ok {n : Nat} {d : PyData} (h : Shp n d) (hn : n ≤ 64 := by decide) : SeqAt.shaped d = true := by
  unfold SeqAt.shaped
  rw [h.c, decide_eq_true (Nat.le_trans h.d hn)]; rfl
theorem shp_int {n : Nat} {i : Int} : Shp n (.int i) := ⟨by simp [PyData.canLay0], by simp [PyData.depth]⟩
theorem shp_bl {n : Nat} {i : Bool} : Shp n (.bool i) := ⟨by simp [PyData.canLay0], by simp [PyData.depth]⟩
theorem shp_non {n : Nat} : Shp n .none := ⟨by simp [PyData.canLay0], by simp [PyData.depth]⟩
theorem shp_str {n : Nat} {z : Str} (h : PyData.strOk z = true) : Shp n (.str z) := ⟨by simpa [PyData.canLay0] using h, by simp [PyData.depth]⟩
theorem shp_all {n : Nat} : ∀ {ds : List PyData}, (∀ d ∈ ds, Shp n d) → PyData.canLayAll0 ds = true ∧ PyData.depthAll ds ≤ n
  | [], _ => ⟨by simp [PyData.canLayAll0], by simp [PyData.depthAll]⟩
  | d :: ds, h => by
    have h1 := h d (List.mem_cons_self ..)
    have h2 := shp_all fun x hx => h x (List.mem_cons_of_mem _ hx)
    exact ⟨by simp [PyData.canLayAll0, h1.c, h2.1], by simp only [PyData.depthAll]; exact Nat.max_le.mpr ⟨h1.d, h2.2⟩⟩
theorem shp_lst {n : Nat} {ds : List PyData} (h : ∀ d ∈ ds, Shp n d) : Shp (n + 1) (.list ds) := ⟨by simp only [PyData.canLay0]; exact (shp_all h).1, by simp only [PyData.depth]; have := (shp_all h).2; omega⟩
theorem shp_tup {n : Nat} {ds : List PyData} (h : ∀ d ∈ ds, Shp n d) : Shp (n + 1) (.tuple ds) := ⟨by simp only [PyData.canLay0]; exact (shp_all h).1, by simp only [PyData.depth]; have := (shp_all h).2; omega⟩
theorem shp_nil {n : Nat} : ∀ d ∈ ([] : List PyData), Shp n d := fun _ h => nomatch h
theorem shp_cons {n : Nat} {d : PyData} {ds : List PyData} (h : Shp n d) (t : ∀ d ∈ ds, Shp n d) : ∀ x ∈ d :: ds, Shp n x := fun x hx => by
  rcases List.mem_cons.mp hx with rfl | hx
  · exact h
  · exact t x hx
theorem shp_map {n : Nat} {α : Type} {f : α → PyData} {l : List α} (h : ∀ a ∈ l, Shp n (f a)) : ∀ d ∈ l.map f, Shp n d := fun d hd => by
  obtain ⟨a, ha, rfl⟩ := List.mem_map.mp hd
  exact h a ha
theorem shp_ints {n : Nat} {l : List Int} : Shp (n + 1) (.list (l.map .int)) := shp_lst (shp_map fun _ _ => shp_int)
theorem _root_.L2.Dp.ints {K : PySem.W.Frag} {H : Hp} {a : Addr} {ns : List Int} (h : SqL K H a (ns.map V.int)) : Dp K H (.ref a) (.list (ns.map .int)) := .lst h (dp_ints ns)
section
variable {K : PySem.W.Frag} {H : Hp} {Q : VK}
theorem L_powE {i j n : Int} (h : CPow i j) (e : i ^ j.toNat = n) (q : Q (.int n) H) : rI CPow (fun i j => .int (i ^ j.toNat)) (.int i) (.int j) H Q := ⟨i, j, rfl, rfl, h, by subst e; exact q⟩
/-- one of some ints -/
theorem L_menu {ns : List Int} {p : Addr} {i : Int} (h : SqL K H p (ns.map V.int)) (h0 : 0 ≤ i) (h1 : i < ns.length) (q : ∀ v ∈ ns, Q (.int v) H) : rIx K (.ref p) (.int i) H Q := by
  have hl : i.toNat < ns.length := by omega
  refine L_ixL h (atI_ints h0 h1) (q _ ?_)
  rw [List.getD_eq_getElem?_getD, List.getElem?_eq_getElem hl]
  exact List.getElem_mem hl
/-- an item of a list of ints, some property of all its items kept -/
theorem L_ixP {ns : List Int} {p : Addr} {i : Int} {P : Int → Prop} (h : SqL K H p (ns.map V.int)) (hP : ∀ v ∈ ns, P v) (h0 : 0 ≤ i) (h1 : i < ns.length) (q : ∀ v, P v → Q (.int v) H) : rIx K (.ref p) (.int i) H Q :=
  L_menu h h0 h1 fun v hv => q v (hP v hv)
end
theorem cdiv_lit {i j : Int} (h : 0 < j ∧ j < 1000000000000) : CDivW i j := (bd_64 (by omega)).cdiv h.1
theorem cpow_lit {i j : Int} (h : 0 ≤ j ∧ j ≤ 1000 ∧ -1000000 < i ∧ i < 1000000) : CPow i j := by
  have e : (2 : Nat) ^ 64 = 18446744073709551616 := by decide
  exact ⟨h.1, by omega, by omega⟩
theorem same_newE {H Hn : Hp} {p : Addr} {o : HO} (e : upd H p o = Hn) (h : H p = none) : Same H Hn := e ▸ same_new h
theorem upd_at {H Hn : Hp} {p : Addr} {o : HO} (e : upd H p o = Hn) : Hn p = some o := e ▸ upd_same
section
variable {K : PySem.W.Frag} {H H' : Hp} {p q : Addr} {us xs : List V} {ds : List PyData} {d : PyData} {y : V} {o : HO}
/-- a list grows: its things stand apart from it -/
theorem dp_grow (hdp : DpAll K (rs (· ≠ p) H) us ds) (s : Same H H') (hy : Dp K (rs (· ≠ p) H') y d) : DpAll K (rs (· ≠ p) (upd H' p o)) (us ++ [y]) (ds ++ [d]) :=
  (hdp.same (rs_same fun a u na ha => ⟨na, by rw [upd_ne na]; exact s _ _ ha⟩)).snoc (hy.same (rs_same fun a u na ha => ⟨na, by rw [upd_ne na]; exact ha⟩))
theorem dp_tupN (h : H q = some (.tup xs)) (n : q ≠ p) (ha : DpAll K (rs (· ≠ p) H) xs ds) : Dp K (rs (· ≠ p) H) (.ref q) (.tuple ds) := .tup (.of (rs_at n h)) ha
theorem dp_lstN (h : H q = some (.lst xs)) (n : q ≠ p) (ha : DpAll K (rs (· ≠ p) H) xs ds) : Dp K (rs (· ≠ p) H) (.ref q) (.list ds) := .lst (.of (rs_at n h)) ha
/-- data that stood ahead of p -/
theorem dp_old {H0 : Hp} (h : Dp K H0 y d) (n : H0 p = none) (s : Same H0 H) : Dp K (rs (· ≠ p) H) y d := h.same (rs_all fun a u ha => ⟨fun z => (by rw [z, n] at ha; cases ha), s _ _ ha⟩)
theorem dpA_old {H0 : Hp} (h : DpAll K H0 us ds) (n : H0 p = none) (s : Same H0 H) : DpAll K (rs (· ≠ p) H) us ds := h.same (rs_all fun a u ha => ⟨fun z => (by rw [z, n] at ha; cases ha), s _ _ ha⟩)
theorem dp_whole (h : DpAll K (rs (· ≠ p) H) us ds) (e : H p = some (.lst us)) : Dp K H (.ref p) (.list ds) := .lst (.of e) (h.same rs_sub)
theorem ne_new (h : H p = none) (h' : ∃ o, H q = some o) : p ≠ q := fun z => by
  obtain ⟨o, e⟩ := h'
  rw [z, e] at h; cases h
end
theorem fm_get {α β : Type} (g : α → β) : ∀ (l : List α), (List.range l.length).filterMap (fun i => l[i]?.map g) = l.map g
  | [] => rfl
  | a :: l => by
    have ih := fm_get g l
    rw [List.length_cons, List.range_succ_eq_map]
    simp only [List.filterMap_cons, List.getElem?_cons_zero, Option.map_some, List.filterMap_map, Function.comp_def, List.getElem?_cons_succ, List.map_cons]
    rw [ih]
theorem sum_take {α : Type} {l : List α} {f : α → Int} {i : Nat} {x : α} (h : l[i]? = some x) : ((l.take (i + 1)).map f).sum = ((l.take i).map f).sum + f x := by
  rw [List.take_succ, h]
  simp
theorem sum_takeAll {α : Type} {l : List α} {f : α → Int} {n : Nat} (h : l.length ≤ n) : ((l.take n).map f).sum = (l.map f).sum := by rw [List.take_of_length_le h]
/-! ### loops, the ends told one by one -/
section
variable {K : PySem.W.Frag} {σ : L2.St} {H : Hp} {g : TG} {tb : TS} {N : L2.St → Hp → Prop} {R : VK}
/-- what a for asks behind its iterable -/
abbrev ForT (J : It) (σ : L2.St) (H : Hp) (g : TG) (tb : TS) (N : L2.St → Hp → Prop) (R : VK) : Prop :=
  ∃ W : Nat → Nat → L2.St → Hp → Prop, (∃ m, W 0 m σ H) ∧ ∀ i m σ H, W i m σ H →
      (J.stop i H ∧ N σ H) ∨ (J.go i H ∧ ∃ M : L2.St → Hp → Prop, (∀ σ' H', M σ' H' → ∃ m', m' < m ∧ W (i + 1) m' σ' H') ∧ ∀ x H', J.yld i H x H' → g x σ H' fun σ2 H2 => tb ⟨M, R, N, M⟩ σ2 H2)
theorem f_it {J : It} {n : Nat} {G : Hp → Prop} {Y : Nat → Hp → V → Hp → Prop} (w : L2.Walk J n G Y) (Pv : Nat → L2.St → Hp → Prop) (h0 : Pv 0 σ H) (hG : ∀ i σ H, i ≤ n → Pv i σ H → G H)
    (hs : ∀ i x σ H H', i < n → Pv i σ H → Y i H x H' → g x σ H' fun σ2 H2 => tb ⟨Pv (i + 1), R, N, Pv (i + 1)⟩ σ2 H2) (hd : ∀ σ H, Pv n σ H → N σ H) : ForT J σ H g tb N R :=
  for_it (D := ⟨N, R, N, N⟩) w Pv h0 hG hs hd
theorem f_range {lo : Int} {n : Nat} (Pv : Nat → L2.St → Hp → Prop) (h0 : Pv 0 σ H)
    (hs : ∀ i σ H, i < n → Pv i σ H → g (.int (lo + i)) σ H fun σ2 H2 => tb ⟨Pv (i + 1), R, N, Pv (i + 1)⟩ σ2 H2) (hd : ∀ σ H, Pv n σ H → N σ H) : ForT (Itr lo n) σ H g tb N R :=
  for_range (D := ⟨N, R, N, N⟩) Pv h0 hs hd
theorem f_rangeC {lo c : Int} {n : Nat} (Pv : Nat → L2.St → Hp → Prop) (h0 : Pv 0 σ H)
    (hs : ∀ i σ H, i < n → Pv i σ H → g (.int (lo + (i : Nat) * c)) σ H fun σ2 H2 => tb ⟨Pv (i + 1), R, N, Pv (i + 1)⟩ σ2 H2) (hd : ∀ σ H, Pv n σ H → N σ H) : ForT (Itc lo c n) σ H g tb N R :=
  for_rangeC (D := ⟨N, R, N, N⟩) Pv h0 hs hd
theorem f_dp {a : Addr} {ds : List PyData} (h : Dp K H (.ref a) (.list ds)) (Pv : Nat → L2.St → Hp → Prop) (h0 : Pv 0 σ H) (hG : ∀ i σ' H', i ≤ ds.length → Pv i σ' H' → Same H H')
    (hs : ∀ i d x σ' H', i < ds.length → ds[i]? = some d → Pv i σ' H' → Dp K H' x d → g x σ' H' fun σ2 H2 => tb ⟨Pv (i + 1), R, N, Pv (i + 1)⟩ σ2 H2) (hd : ∀ σ' H', Pv ds.length σ' H' → N σ' H') : ForT (Itl K a) σ H g tb N R :=
  for_dp (D := ⟨N, R, N, N⟩) h Pv h0 hG hs hd
end
section
variable {σ σ' : L2.St} {H : Hp} {i : Nat} {v x : V} {B C : L2.St → Hp → Prop} {N : L2.St → Hp → Prop} {R : VK} {te : TE}
theorem L_gnameE {Q : L2.St → Hp → Prop} (e : σ.set i (some v) = σ') (h : Q σ' H) : gName i v σ H Q := by subst e; exact h
end
section
variable {K : PySem.W.Frag} {H H' : Hp} {σ : L2.St} {Q : VK} {te : TE} {tl th : TO}
theorem TyX_same {v : V} {t : Value} (e : Same H H') (h : TyX K H v t) : TyX K H' v t := by
  cases h with
  | base h =>
    refine .base ?_
    cases h with
    | non => exact .non
    | bl x => exact .bl x
    | int x => exact .int x
    | str x => exact .str x
    | flt x => exact .flt x
    | lst h => exact .lst (e _ _ h)
    | frz h => exact .frz (e _ _ h)
    | tup h => exact .tup (e _ _ h)
    | dK h => exact .dK (e _ _ h)
    | dT h => exact .dT (e _ _ h)
    | ins h cl ha hn htk hm => exact .ins (e _ _ h) cl ha hn htk hm
  | byt b => exact .byt b
  | set h => exact .set (e _ _ h)
  | kList h c => exact .kList h c
  | kTuple h c => exact .kTuple h c
  | kDict h c => exact .kDict h c
  | fTuple h => exact .fTuple (e _ _ h)
  | fDict h => exact .fDict (e _ _ h)
theorem NotW.same {v : V} (h : NotW K H v) (e : Same H H') : NotW K H' v := by
  rcases h with h | ⟨a, h1, h2⟩
  · exact .inl h
  · exact .inr ⟨a, TyX_same e h1, h2⟩
theorem BadW.same {v : V} {lo hi : Int} (h : BadW K H v lo hi) (e : Same H H') : BadW K H' v lo hi := by
  rcases h with h | h
  · exact .inl (h.same e)
  · exact .inr h
theorem L_sl {r : V → Option Int → Option Int → Hp → VK → Prop} (h : te σ H fun x H1 => tl σ H1 fun l H2 => th σ H2 fun u H3 => r x l u H3 Q) : L2.tSl r te tl th σ H Q := h
theorem L_noPart {R : Option Int → Hp → Prop} (h : R none H) : tNoPart σ H R := h
theorem L_part {t : TE} {R : Option Int → Hp → Prop} (h : t σ H fun x H1 => ∃ i, x = .int i ∧ R (some i) H1) : tPart t σ H R := h
theorem L_ki {i : Int} {R : Int → Prop} (h : R i) : ∃ j, V.int i = V.int j ∧ R j := ⟨i, rfl, h⟩
theorem L_slL {a : Addr} {xs : List V} {lo hi : Option Int} (h : SqL K H a xs) (q : ∀ p, H p = none → Q (.ref p) (upd H p (.lst (cutV xs lo hi)))) : rSlL K (.ref a) lo hi H Q := ⟨a, xs, rfl, h, q⟩
end
def cutG {α : Type} (xs : List α) (lo hi : Option Int) : List α := (xs.drop (HT.sIx xs.length 0 lo)).take (HT.sIx xs.length xs.length hi - HT.sIx xs.length 0 lo)
theorem cutV_map {α : Type} (f : α → V) (xs : List α) (lo hi : Option Int) : cutV (xs.map f) lo hi = (cutG xs lo hi).map f := by
  unfold cutV cutG
  rw [List.length_map, List.map_take, List.map_drop]
theorem cutG_mem {α : Type} {xs : List α} {lo hi : Option Int} {x : α} (h : x ∈ cutG xs lo hi) : x ∈ xs := List.mem_of_mem_drop (List.mem_of_mem_take h)
theorem cutG_len {α : Type} (xs : List α) (lo hi : Option Int) : (cutG xs lo hi).length ≤ xs.length := by
  unfold cutG
  rw [List.length_take, List.length_drop]
  omega
section
variable {K : PySem.W.Frag} {H : Hp} {Q : VK}
/-- one of some things -/
theorem L_menuV {xs : List V} {p : Addr} {i : Int} (h : SqL K H p xs) (h0 : 0 ≤ i) (h1 : i < xs.length) (q : ∀ v ∈ xs, Q v H) : rIx K (.ref p) (.int i) H Q := by
  have hl : i.toNat < xs.length := by omega
  exact L_ixL h (atI_int h0 (List.getElem?_eq_getElem hl)) (q _ (List.getElem_mem hl))
end
theorem hpL {K : PySem.W.Frag} {H : Hp} {a : Addr} {xs : List V} (h : H a = some (.lst xs)) : SqL K H a xs := .of h
theorem hpT {K : PySem.W.Frag} {H : Hp} {a : Addr} {xs : List V} (h : H a = some (.tup xs)) : SqT K H a xs := .of h
theorem bd_mod {x n : Int} (h : 0 < n ∧ n < 18446744073709551616) : Bd 64 (x % n) := bd_64 (by
  have h1 := Int.emod_nonneg x (show n ≠ 0 by omega)
  have h2 := Int.emod_lt_of_pos x h.1
  omega)
theorem hp_from {H0 H : Hp} {p : Addr} {o : HO} (h : H0 p = some o) (e : Same H0 H) : H p = some o := e _ _ h
theorem same_via {H H1 H2 : Hp} (b : Same H1 H2) (a : Same H H1) : Same H H2 := a.trans b
theorem same_upd' {H H' : Hp} {a : Addr} {o : HO} (h : H' a = none) (e : Same H H') : Same H (upd H' a o) := same_upd e h
theorem same_mut' {H H' : Hp} {a : Addr} {o : HO} (h : H a = none) (e : Same H H') : Same H (upd H' a o) := same_mut e h
section
variable {K : PySem.W.Frag} {H : Hp} {σ : L2.St} {Q : VK}
theorem L_clear {a : Addr} {xs : List V} (h : H a = some (.lst xs)) (q : Q .non (upd H a (.lst []))) : rClear (.ref a) [] H Q := ⟨a, xs, rfl, rfl, h, q⟩
theorem L_dnew (h : ∀ p, H p = none → Q (.ref p) (upd H p (.dK []))) : tDNewK σ H Q := h
/-- no list -/
def NotL (K : PySem.W.Frag) (H : Hp) (v : V) : Prop := ∃ a, TyX K H v (.type a) ∧ kitB a "list" = some false
theorem notl_tup {a : Addr} {xs : List V} (h : SqT K H a xs) : NotL K H (.ref a) := ⟨_, tyx_T h, by decide +kernel⟩
theorem notl_non : NotL K H .non := ⟨_, .base .non, by decide +kernel⟩
theorem notl_int {i : Int} : NotL K H (.int i) := ⟨_, .base (.int i), by decide +kernel⟩
theorem notl_bl {i : Bool} : NotL K H (.bl i) := ⟨_, .base (.bl i), by decide +kernel⟩
theorem notl_str {i : Str} : NotL K H (.str i) := ⟨_, .base (.str i), by decide +kernel⟩
theorem notl_dK {a : Addr} {xs : List (Key × V)} (h : H a = some (.dK xs)) : NotL K H (.ref a) := ⟨_, .base (.dK h), by decide +kernel⟩
theorem NotL.same {H' : Hp} {v : V} (h : NotL K H v) (e : Same H H') : NotL K H' v := by
  obtain ⟨a, h1, h2⟩ := h
  exact ⟨a, TyX_same e h1, h2⟩
end
theorem rep1 (x : Int) : ∀ n : Nat, (List.replicate n [V.int x]).flatten = (List.replicate n x).map V.int
  | 0 => rfl
  | n + 1 => by rw [List.replicate_succ, List.flatten_cons, rep1 x n]; rfl
section
variable {K : PySem.W.Frag} {H : Hp} {Q : VK}
theorem L_neB {i j : Bool} (q : Q (.bl (!decide (i = j))) H) : aNe K (.bl i) (.bl j) H Q := .inl ⟨rfl, by rw [show decide (V.bl i = V.bl j) = decide (i = j) by simp]; exact q⟩
end
/-! ### for x in xs: check(x) -/
section
variable {K : PySem.W.Frag} {σ : L2.St} {H : Hp} {N : L2.St → Hp → Prop} {R : VK} {a : Addr} {xs : List V} {sp : Sp} {ES : L2.St → XK} {i : Nat} {c : Value}
theorem set_self (σ : L2.St) (i : Nat) (hi : i < σ.length) : ∃ v, σ = σ.set i v := ⟨σ[i], by simp⟩
theorem L_forChk (hL : SqL K H a xs) (hi : i < σ.length) (hok : ∀ x ∈ xs, ∀ Q E, Q .non H → sp [x] H Q E) (q : ∀ v, N (σ.set i v) H) : ForT (Itl K a) σ H (gName i) (tDrop (tCallS sp ES (tCons (tVar i) tNil))) N R := by
  refine f_it walk_list (fun _ σ' H' => H' = H ∧ ∃ v, σ' = σ.set i v) ⟨rfl, set_self σ i hi⟩ (fun _ _ _ _ p => p.1 ▸ hL) ?_ ?_
  · rintro j x σ' H' H'' hj ⟨rfl, v, rfl⟩ ⟨rfl, e⟩
    refine L_gname (L_drop (L_callS (L_cons (L_var (v := x) ?_ (L_nil (hok x (List.mem_of_getElem? e) _ _ ?_))))))
    · simp [hi]
    · exact ⟨rfl, some x, by rw [List.set_set]⟩
  · rintro σ' H' ⟨rfl, v, rfl⟩
    exact q v
theorem L_forChkX (hL : SqL K H a xs) (hi : i < σ.length) (hx : ∀ x ∈ xs, (∀ Q E, Q .non H → sp [x] H Q E) ∨ ∀ Q E, E c none H → sp [x] H Q E) (hb : ∃ x ∈ xs, ∀ Q E, E c none H → sp [x] H Q E) (q : ∀ v, ES (σ.set i v) c none H) :
    ForT (Itl K a) σ H (gName i) (tDrop (tCallS sp ES (tCons (tVar i) tNil))) N R := by
  obtain ⟨x0, hx0, hb0⟩ := hb
  obtain ⟨j0, hj0⟩ := List.mem_iff_getElem?.mp hx0
  refine f_it walk_list (fun j σ' H' => H' = H ∧ (∃ v, σ' = σ.set i v) ∧ ∃ k x, j ≤ k ∧ xs[k]? = some x ∧ ∀ Q E, E c none H → sp [x] H Q E) ⟨rfl, set_self σ i hi, j0, x0, Nat.zero_le _, hj0, hb0⟩ (fun _ _ _ _ p => p.1 ▸ hL) ?_ ?_
  · rintro j x σ' H' H'' hj ⟨rfl, ⟨v, rfl⟩, k, y, hk, hy, hby⟩ ⟨rfl, e⟩
    refine L_gname (L_drop (L_callS (L_cons (L_var (v := x) ?_ (L_nil ?_)))))
    · simp [hi]
    · by_cases hc : ∀ Q E, E c none H'' → sp [x] H'' Q E
      · exact hc _ _ (by rw [List.set_set]; exact q _)
      · refine (hx x (List.mem_of_getElem? e)).resolve_right hc _ _ ⟨rfl, ⟨some x, by rw [List.set_set]⟩, k, y, ?_, hy, hby⟩
        rcases Nat.lt_or_eq_of_le hk with hlt | rfl
        · exact hlt
        · rw [e] at hy
          cases hy
          exact absurd hby hc
  · rintro σ' H' ⟨rfl, ⟨v, rfl⟩, k, y, hk, hy, hby⟩
    have := (List.getElem?_eq_some_iff.mp hy).1
    omega
end
theorem L_bm0 {K : PySem.W.Frag} {σ : L2.St} {H : Hp} {Q : VK} {te : TE} {T : String} {r : V → List V → Hp → VK → Prop} (h : te σ H fun x H1 => tyV K T x H1 ∧ r x [] H1 Q) : tBM0 K T r te σ H Q := h
/-- what an expression's ways have in common -/
theorem L_via {P : VK → Prop} {Q : VK} (R : V → Hp → Prop) (key : ∀ Q : VK, (∀ v H', R v H' → Q v H') → P Q) (q : ∀ v H', R v H' → Q v H') : P Q := key Q q
section
variable {K : PySem.W.Frag} {H : Hp} {σ : L2.St} {Q : VK} {ta tb : TE}
theorem L_disp1 (h : ∀ p, H p = none → ta σ (upd H p (.dK [])) fun k H1 => tb σ H1 fun v H2 => H2 p = some (.dK []) ∧ ∃ kvs : List (Key × V), [(k, v)] = kvs.map (fun kv => (kV kv.1, kv.2)) ∧ kvs.length ≤ 15 ∧ Q (.ref p) (upd H2 p (.dK (mergeK [] kvs)))) : tDisp [(ta, tb)] σ H Q := h
theorem L_dispE1 {p : Addr} {k v : V} (kk : Key) (e : k = kV kk) (h : H p = some (.dK [])) (q : Q (.ref p) (upd H p (.dK [(kk, v)]))) : H p = some (.dK []) ∧ ∃ kvs : List (Key × V), [(k, v)] = kvs.map (fun kv => (kV kv.1, kv.2)) ∧ kvs.length ≤ 15 ∧ Q (.ref p) (upd H p (.dK (mergeK [] kvs))) :=
  ⟨h, [(kk, v)], by rw [e]; rfl, by simp, q⟩
/-- a sign of a text -/
theorem L_ixSany {z : Str} {i : Int} (hz : z.length ≤ 1000000) (h0 : 0 ≤ i) (h1 : i < z.length) (q : ∀ a ∈ z.cps.toList, Q (.str ⟨#[a]⟩) H) : rIx K (.str z) (.int i) H Q := by
  have hl : i.toNat < z.cps.toList.length := by
    have e : z.cps.toList.length = z.length := by rw [Array.length_toList]; rfl
    omega
  have h3 : z.cps.toList[i.toNat]? = some z.cps.toList[i.toNat] := List.getElem?_eq_getElem hl
  refine L_ixS (sz_dec hz) (a := z.cps.toList[i.toNat]) ?_ (q _ (List.getElem_mem hl))
  obtain ⟨j, rfl⟩ : ∃ j : Nat, i = (j : Int) := ⟨i.toNat, by omega⟩
  exact atI_nat h3
theorem L_inR {i lo hi : Int} {a : Addr} (h : H a = some (.rng lo hi)) (q : Q (.bl (decide (lo ≤ i ∧ i < hi))) H) : (∃ i' a' lo hi, V.int i = V.int i' ∧ V.ref a = V.ref a' ∧ H a' = some (.rng lo hi) ∧ Q (.bl (decide (lo ≤ i' ∧ i' < hi))) H) := ⟨i, a, lo, hi, rfl, rfl, h, q⟩
theorem L_rng2 {i j : Int} (q : ∀ p, H p = none → Q (.ref p) (upd H p (.rng i j))) : (∃ i' j', [V.int i, V.int j] = [V.int i', V.int j'] ∧ ∀ p, H p = none → Q (.ref p) (upd H p (.rng i' j'))) := ⟨i, j, rfl, q⟩
/-- no text -/
def NotS (K : PySem.W.Frag) (H : Hp) (v : V) : Prop := ∃ a, TyX K H v (.type a) ∧ kitB a "str" = some false
theorem nots_tup {a : Addr} {xs : List V} (h : SqT K H a xs) : NotS K H (.ref a) := ⟨_, tyx_T h, by decide +kernel⟩
theorem nots_lst {a : Addr} {xs : List V} (h : SqL K H a xs) : NotS K H (.ref a) := ⟨_, tyx_L h, by decide +kernel⟩
theorem nots_non : NotS K H .non := ⟨_, .base .non, by decide +kernel⟩
theorem nots_int {i : Int} : NotS K H (.int i) := ⟨_, .base (.int i), by decide +kernel⟩
theorem nots_bl {i : Bool} : NotS K H (.bl i) := ⟨_, .base (.bl i), by decide +kernel⟩
theorem nots_dK {a : Addr} {xs : List (Key × V)} (h : H a = some (.dK xs)) : NotS K H (.ref a) := ⟨_, .base (.dK h), by decide +kernel⟩
theorem NotS.same {H' : Hp} {v : V} (h : NotS K H v) (e : Same H H') : NotS K H' v := by
  obtain ⟨a, h1, h2⟩ := h
  exact ⟨a, TyX_same e h1, h2⟩
end
theorem len1 (a : Nat) : (⟨#[a]⟩ : Str).length = 1 := rfl
theorem str_len_append (a b : Str) : (a ++ b).length = a.length + b.length := Array.size_append
theorem str_len {z : Str} : z.cps.toList.length = z.length := by rw [Array.length_toList]; rfl
theorem one_lt {c d : Nat} : ([c] : List Nat) < [d] ↔ c < d := by
  rw [List.cons_lt_cons_iff]
  constructor
  · rintro (h | ⟨_, h⟩)
    · exact h
    · exact absurd h (List.not_lt_nil _)
  · exact .inl
theorem str_app_list (a b : Str) : (a ++ b).cps.toList = a.cps.toList ++ b.cps.toList := Array.toList_append
theorem eqv_nil {ds : List PyData} : PyData.eqv (.list ds) (.list []) = ds.isEmpty := by
  cases ds <;> simp [PyData.eqv, PyData.eqvAll]
theorem strOk_of {z : Str} (h : ∀ c ∈ z.cps.toList, c < 1114112) : PyData.strOk z = true := by
  show (z.cps.all (· < 0x110000)) = true
  rw [← Array.all_toList, List.all_eq_true]
  intro c hc
  exact decide_eq_true (h c hc)
theorem L_nnT {A B : Prop} (a : A) : if (!!true) = true then A else B := L_T a
theorem L_nnF {A B : Prop} (b : B) : if (!!false) = true then A else B := L_F b
theorem bd_128 {i : Int} (h : -340282366920938463463374607431768211456 < i ∧ i < 340282366920938463463374607431768211456) : Bd 128 i := by
  unfold Bd
  have : (2 : Nat) ^ 128 = 340282366920938463463374607431768211456 := by decide
  omega
/-! ### an exception that was caught, held by a name beyond the clause -/
/-- an exception of the class cls at a, its own dict d -/
def ExI (cls : Value) (d : Option Addr) (a : Addr) : HO := .ext fun h => ∃ (oe : Obj) (vs : Array Value), h.get? a = some oe ∧ Zc cls d oe ∧ oe.data = .fields vs
section
variable {X : Cx} {pins : List (Addr × Obj)} {σ : L2.St} {H : Hp} {s : Shared}
theorem track {a : Addr} {d : Option Addr} {cls : Value} {oe : Obj} {vs : Array Value} (I : Inv X pins σ H s) (na : H a = none) (he : s.heap.get? a = some oe) (z : Zc cls d oe) (hd : oe.data = .fields vs) (n0 : X.s_0.heap.get? a = none)
    (nL : a ≠ X.env.locals) (np : ∀ p ∈ X.pn ++ pins, p.1 ≠ a) : Inv X pins σ (upd H a (ExI cls d a)) s where
  ok := I.ok
  os := I.os
  bare := I.bare
  base := {
    keep := I.base.keep
    slot := I.base.slot
    free := fun b o e n hx => by
      rw [upd_ne (fun z => by rw [z, n0] at e; cases e)]
      exact I.base.free b o e n hx
    there := I.base.there
    tups := fun b xs q => by
      have t := I.base.tups b xs q
      rw [upd_ne (ne_of_none t na)]; exact t
    frzs := fun b o u q => by
      have t := I.base.frzs b o u q
      rw [upd_ne (ne_of_none t na)]; exact t
    tbls := fun b ps q => by
      obtain ⟨more, t⟩ := I.base.tbls b ps q
      exact ⟨more, by rw [upd_ne (ne_of_none t na)]; exact t⟩ }
  loc := I.loc
  cell := I.cell
  free := by rw [upd_ne nL.symm]; exact I.free
  freeC := fun x c e => by
    obtain ⟨v, o, ho, hc⟩ := I.cell x c e
    rw [upd_ne (fun z => by rw [z, he] at ho; cases ho; rw [hd] at hc; cases hc)]
    exact I.freeC x c e
  pin := fun p hp => by
    obtain ⟨h1, h2, h3⟩ := I.pin p hp
    exact ⟨h1, by rw [upd_ne (np p hp)]; exact h2, h3⟩
  hok := fun b o e => by
    by_cases hb : b = a
    · cases hb
      rw [upd_same] at e
      cases e
      exact ⟨⟨oe, vs, he, z, hd⟩, ⟨oe, he⟩, fun _ _ ⟨o1, v1, q, r⟩ k => ⟨o1, v1, k o1 q, r⟩⟩
    · rw [upd_ne hb] at e
      exact (I.hok b o e).stay (fun _ _ _ q => q) (fun c q => by rw [upd_ne (ne_of_none q na)]; exact q) fun c xs q => by rw [upd_ne (ne_of_none q na)]; exact q
  len := I.len
end
/-- what 'except x as n' wishes of an exception, which is tracked behind the suite -/
def wAsT (K : PySem.W.Frag) (c : Value) (i : Nat) (ts : Addr → Value → Option Addr → TS) (Wout : WX) (D : Ends) : WX := fun cls d σ H =>
  ∃ b, PySem.W.exmOne K cls c = some b ∧
    (b = true → ∀ a, H a = none → ts a cls d ⟨fun σ' H' => H' a = none → D.nx (σ'.set i none) (upd H' a (ExI cls d a)), D.rt, fun σ' H' => D.bk (σ'.set i none) H', fun σ' H' => D.ct (σ'.set i none) H'⟩ (σ.set i (some (.ref a))) H) ∧
    (b = false → Wout cls d σ H)
section
variable {X : Cx} {x n : Str} {c : Value} {i : Nat} {body suite : List Stmt} {b₀ : Stmt} {np pos pos' : Pos} {tb : WX → TS} {ts : Addr → Value → Option Addr → TS} {Wout : WX}
theorem ps_try_asT (hs : X.stack = X.env :: X.outer) (hf : X.env.frame = some X.env.locals) (hN : X.N.Nodup) (hi : X.N[i]? = some n) (hln : X.env.kindOf n = some .local) (hex : X.ex = []) (hc : Names X x c) (tk : Takes X Wout)
    (hb : ∀ (W : WX) (pn : List (Addr × Obj)) (xe : Value → Shared → Prop), Takes (X.tr pn xe) W → PassesOwn (model X.prog X.w) X.A X.env xe → PSs (X.tr pn xe) body (tb W))
    (hsu : ∀ (a : Addr) (oe : Obj) (cls : Value) (d : Option Addr) (pn : List (Addr × Obj)), Zc cls d oe → (∃ vs, oe.data = .fields vs) → PSs (X.suite a ((a, oe) :: pn)) (b₀ :: suite) (ts a cls d)) :
    PS X (.Try body [.ExceptHandler (some (.Name x np)) (some n) (b₀ :: suite) pos'] [] [] pos) (fun D σ H => tb (wAsT X.K c i ts Wout D) D σ H) := by
  constructor
  intro pins s0 σ0 H0 D I0 start
  have okX := I0.ok
  have frames : X.A.frames = some (X.env :: X.outer) := by
    rw [okX.frames, hs]
  apply wpAny_Try_except
  -- what is raised in the body is looked at by the clause
  let look : Value → Shared → Prop := fun e t1 => wpAny (model X.prog X.w) X.A (noteFrame e X.env) (fun _ t2 => wpAny (model X.prog X.w) X.A (setFlight e none)
    (fun _ t3 => wpAny (model X.prog X.w) X.A (handleBy e X.env [.ExceptHandler (some (.Name x np)) (some n) (b₀ :: suite) pos']) (SP X pins D) X.xe t3) X.xe t2) X.xe t1
  have caught : Takes (X.tr (X.pn ++ pins) look) (wAsT X.K c i ts Wout D) := by
    intro u s' air
    obtain ⟨a, B, sI, pins', σ', H', cls, d, rfl, K', nb, up, sky, na, os, ag, b, exm, yes, no⟩ := air
    have K0 : Inv X pins σ' H' sI := K'.ofTry okX
    have sky1 : Sky B (X.env :: X.outer) a (Zc cls d) X.env.locals s'.heap := hs ▸ sky
    show wpAny (model X.prog X.w) X.A (noteFrame (.ref a) X.env) _ _ _
    apply Sky.land Zc.steady frames hf sky1
    intro h3 fl3 up3
    have J3 : Inv X pins σ' H' { s' with heap := h3 } := K0.landed nb fl3.1 (up.trans up3) os ag
    obtain ⟨oe3, vs3, at3, z3, data3⟩ := fl3.there
    have offFrames : a ∉ frs (X.env :: X.outer) := fun hm => by
      obtain ⟨_, o', there', hnf⟩ := fl3.2.2.1.mem hm
      rw [at3] at there'
      cases there'
      exact hnf _ data3
    have nL : a ≠ X.env.locals := fun e => offFrames (List.mem_filterMap.mpr ⟨X.env, List.mem_cons_self, by rw [hf, e]⟩)
    have nF : a ∉ X.fs := fun hm => by
      obtain ⟨e, he, q⟩ := List.mem_filterMap.mp hm
      exact offFrames (List.mem_filterMap.mpr ⟨e, List.mem_cons_of_mem _ he, q⟩)
    -- a is new: it stood neither at the try's entry nor at the def's
    have newB : B.get? a = none := fl3.2.1
    have newI : sI.heap.get? a = none := by
      cases q : sI.heap.get? a with
      | none => rfl
      | some o =>
        have := nb a o q (by rw [hs]; exact offFrames)
        rw [newB] at this
        cases this
    have new0 : X.s_0.heap.get? a = none := by
      cases q : X.s_0.heap.get? a with
      | none => rfl
      | some o =>
        obtain ⟨o', q'⟩ := K0.base.there a o q (by rw [hex]; exact List.not_mem_nil)
        rw [newI] at q'
        cases q'
    have apart : ∀ p ∈ X.pn ++ pins, p.1 ≠ a := fun p hp e => by
      have := (K0.pin p hp).1
      rw [e, newI] at this
      cases this
    have S3 := J3.suite at3 data3 na nL nF
    apply wpAny_handleBy_cons _ (by intro q; cases q)
    apply codeAny_handlers_test
    have tyA : PySem.W.Looks (model X.prog X.w) h3 (typeOf (.ref a)) cls := fun A Q E t k q => wpAny_typeOf_ref (k _ _ at3) (by rw [z3.1]; exact q)
    have matched := PySem.W.exm_one (M := model X.prog X.w) (J3.kIn) tyA exm
    have named : ∀ {Q : Value → Shared → Prop} {E : Value → Shared → Prop}, Q c { s' with heap := h3 } → wpAny (model X.prog X.w) (X.A.mark (some (.ref a))) (eval (.Name x np) X.env) Q E { s' with heap := h3 } := by
      intro Q E q
      obtain ⟨hg, hdbg, hm⟩ := hc
      rcases hm with hm | ⟨hm, hv, hnn⟩
      · exact ld_glob (X := X.suite a ((a, oe3) :: (X.pn ++ pins))) S3 hg hm q hdbg
      · exact ld_blt (X := X.suite a ((a, oe3) :: (X.pn ++ pins))) S3 hg hm hv q hnn hdbg
    apply named
    apply matched.here
    cases b with
    | true =>
      apply codeAny_handlers_suite_as
      apply HandSPX.lands_againZ fl3
      intro h4 fl4 up4
      have J4 : Inv X pins σ' H' { s' with heap := h4 } := K0.landed nb fl4.1 ((up.trans up3).trans up4) os ag
      obtain ⟨oe4, vs4, at4, z4, data4⟩ := fl4.there
      have S4 := J4.suite at4 data4 na nL nF
      refine store_ok (X := X.suite a ((a, oe4) :: (X.pn ++ pins))) (v := .ref a) S4 hN hi (.inl hln) rfl (fun s5 S5 => ?_) (.inr hln)
      refine wpAny_mono ((hsu a oe4 cls d (X.pn ++ pins) z4 ⟨_, data4⟩).run [] s5 _ H' _ S5 (yes rfl a na)) (fun f s6 hsp => ?_) (fun _ _ z => z.elim)
      -- out of the suite, the exception still pinned
      have out : ∀ {σ6 : L2.St} {H6 : Hp} {Q : Shared → Prop}, Inv (X.suite a ((a, oe4) :: (X.pn ++ pins))) [] σ6 H6 s6 → (∀ s7, Inv X pins (σ6.set i none) H6 s7 → H6 a = none → s7.heap.get? a = some oe4 → Q s7) →
          wpAny (model X.prog X.w) X.A (do bindName X.env n .none; unbindBehindTheSuite X.env n pos') (fun _ s7 => Q s7) X.xe s6 := fun {σ6 H6 Q} S6 hq => by
        have P6 : Inv X ((a, oe4) :: pins) σ6 H6 s6 := { S6.unsuite okX with
          pin := fun p hp => S6.pin p (by
            rcases List.mem_append.mp hp with hp | hp
            · exact List.mem_append_left _ (List.mem_cons_of_mem _ (List.mem_append_left _ hp))
            · rcases List.mem_cons.mp hp with e | hp
              · rw [e]; exact List.mem_append_left _ List.mem_cons_self
              · exact List.mem_append_left _ (List.mem_cons_of_mem _ (List.mem_append_right _ hp))) }
        refine gone_ok P6 hN hi hln fun s7 P7 => ?_
        have pinned := P7.pin (a, oe4) (List.mem_append_right _ List.mem_cons_self)
        refine hq s7 { P7 with pin := fun p hp => P7.pin p ?_ } pinned.2.1 pinned.1
        rcases List.mem_append.mp hp with hp | hp
        · exact List.mem_append_left _ hp
        · exact List.mem_append_right _ (List.mem_cons_of_mem _ hp)
      match f, hsp with
      | .next, ⟨σ6, H6, S6, q6⟩ => exact out S6 fun s7 J7 n6 a6 => ⟨_, _, track J7 n6 a6 z4 data4 new0 nL apart, q6 n6⟩
      | .brk, ⟨σ6, H6, S6, q6⟩ => exact out S6 fun s7 J7 _ _ => ⟨_, _, J7, q6⟩
      | .cont, ⟨σ6, H6, S6, q6⟩ => exact out S6 fun s7 J7 _ _ => ⟨_, _, J7, q6⟩
      | .ret u, ⟨v6, σ6, H6, S6, r6, q6⟩ => exact out S6 fun s7 J7 _ _ => ⟨_, _, _, J7, r6, q6⟩
    | false =>
      show wpAny _ X.A (handleBy (.ref a) X.env []) _ _ _
      apply wpAny_handleBy_nil
      obtain ⟨_, _, _, oe, vs, T, oT, ts', he, hz, hd, h1, hr⟩ := id fl3
      unfold PySem.passOn
      refine wpAny_bind (wpAny_field he hd h1 ?_)
      rw [if_neg (show ¬ ((Value.ref T == Value.none) = true) from by simp)]
      have on : wpAny (model X.prog X.w) X.A (setFlight (.ref a) X.env.frame) (fun _ s4 => wpAny (model X.prog X.w) X.A (throw (.ref a) : Sem Flow) (SP X pins D) X.xe s4) X.xe { s' with heap := h3 } := by
        rw [hf]
        apply HandSPX.setFlight_upZ fl3
        intro h4 held4 up4
        apply wpAny_throw
        apply tk
        exact ⟨a, B, sI, pins, σ', H', cls, d, rfl, K0, nb, (up.trans up3).trans up4, .inr (.inr (by rw [hs]; exact held4)), na, os, ag, no rfl⟩
      first
        | exact wpAny_bind (wpAny_pure (wpAny_bind on))
        | exact wpAny_bind on
  refine wpAny_mono ((hb (wAsT X.K c i ts Wout D) (X.pn ++ pins) look caught PassesOwn.looking).run [] s0 σ0 H0 D (I0.toTry _) start) (fun f s1 hsp => ?_) (fun e s1 he => he)
  match f, hsp with
  | .next, ⟨σ1, H1, J1, q⟩ => exact wpAny_execs_nil ⟨σ1, H1, J1.ofTry okX, q⟩
  | .brk, ⟨σ1, H1, J1, q⟩ => exact ⟨σ1, H1, J1.ofTry okX, q⟩
  | .cont, ⟨σ1, H1, J1, q⟩ => exact ⟨σ1, H1, J1.ofTry okX, q⟩
  | .ret u, ⟨v, σ1, H1, J1, r, q⟩ => exact ⟨v, σ1, H1, J1.ofTry okX, r, q⟩
end
/-- isinstance of a caught exception that a name holds -/
def rIsX (K : PySem.W.Frag) : List V → Hp → VK → Prop := fun xs H Q => ∃ (a D : Addr) (c : V) (u : Value) (b : Bool), xs = [.ref a, c] ∧ H a = some (ExI (.ref D) none a) ∧ L2.ExcC K D ∧ ClsV c u ∧ PySem.W.kitOne K (.ref D) u = some b ∧ Q (.bl b) H
def rIsXT (K : PySem.W.Frag) : List V → Hp → VK → Prop := fun xs H Q => ∃ (a D tp : Addr) (cs : List V) (us : List Value) (b : Bool), xs = [.ref a, .ref tp] ∧ H a = some (ExI (.ref D) none a) ∧ L2.ExcC K D ∧ H tp = some (.tup cs) ∧ Paired ClsV cs us ∧ PySem.W.kitAny K (.ref D) us = some b ∧ Q (.bl b) H
section
variable {X : Cx} {pins : List (Addr × Obj)} {σ : L2.St} {H : Hp} {s : Shared}
theorem exI_at {a D : Addr} (I : Inv X pins σ H s) (h : H a = some (ExI (.ref D) none a)) : ∃ oe, PySem.W.InstAt s.heap a oe D none := by
  obtain ⟨⟨oe, vs, q1, ⟨q2, q3⟩, q4⟩, _⟩ := I.hok a _ h
  obtain ⟨oc, od, oda, osl⟩ := oe
  dsimp only at q2 q3 q4
  subst q2 q3 q4
  exact ⟨_, q1, rfl, rfl, trivial⟩
theorem call_isX : CallR X (.builtin "isinstance") (rIsX X.K) := by
  intro pins s σ H xs us Q I r h
  obtain ⟨a, D, c, u, b, rfl, hx, C, k, e, q⟩ := h
  obtain ⟨u1, u2, rfl, r1, r2⟩ := vals2 r
  cases r1
  cases k.eq r2
  obtain ⟨oe, J⟩ := exI_at I hx
  exact PySem.W.kia_one (PySem.W.handS_kitx_exc C.hg C.hk C.hs C.hd C.ha C.hn C.ht C.hm) I.kIn J e (fun z => nomatch z) fun tk => ⟨.bl b, H, I.tok tk, rfl, q⟩
theorem call_isXT : CallR X (.builtin "isinstance") (rIsXT X.K) := by
  intro pins s σ H xs us Q I r h
  obtain ⟨a, D, tp, cs, ws, b, rfl, hx, C, hT, k, e, q⟩ := h
  obtain ⟨u1, u2, rfl, r1, r2⟩ := vals2 r
  cases r1
  cases (show u2 = Value.ref tp from r2)
  obtain ⟨oe, J⟩ := exI_at I hx
  obtain ⟨_, its, rv, o, h1, h2, n, h3⟩ := (show ObjOk X.prog X.w H s.heap tp (.tup cs) from I.hok tp _ hT)
  have e3 := ClsV.all k rv
  subst e3
  obtain ⟨oc, od, dt, sl⟩ := o
  simp only at h2 h3
  subst h2 h3
  exact PySem.W.kia_tup (PySem.W.handS_kitx_exc C.hg C.hk C.hs C.hd C.ha C.hn C.ht C.hm) I.kIn J h1 e (fun z => nomatch z) fun tk => ⟨.bl b, H, I.tok tk, rfl, q⟩
end
section
variable {K : PySem.W.Frag} {H : Hp} {Q : VK} {C D : Addr} {b : Bool}
theorem kit_ref (hD : PySem.W.subIn K (.ref D) (.ref D) = some true) (k : ExcK K C) (h : PySem.W.subIn K (.ref D) (.ref C) = some b) : PySem.W.kitOne K (.ref D) (.ref C) = some b := by
  unfold PySem.W.kitOne
  by_cases e : D = C
  · subst e
    rw [hD] at h
    cases h
    rw [if_pos (by simp)]
  · rw [if_neg (by simpa using e)]
    have h2 : (PySem.W.clsIn K C).isSome = true := k.i
    show (if ((PySem.W.clsIn K C).isSome && PySem.W.typeIn K (.ref C) == some (.type "type")) = true then PySem.W.subIn K (.ref D) (.ref C) else none) = some b
    rw [if_pos (by rw [h2, k.t]; rfl)]
    exact h
theorem kit_typ {T : String} (hm : PySem.W.kitMeta T = true) (h : PySem.W.subIn K (.ref D) (.type T) = some b) : PySem.W.kitOne K (.ref D) (.type T) = some b := by
  unfold PySem.W.kitOne
  rw [if_neg (by simp)]
  show (if PySem.W.kitMeta T = true then PySem.W.subIn K (.ref D) (.type T) else none) = some b
  rw [if_pos hm]
  exact h
theorem L_isX {a : Addr} {c : V} {u : Value} (h : H a = some (ExI (.ref D) none a)) (C : L2.ExcC K D) (k : ClsV c u) (e : PySem.W.kitOne K (.ref D) u = some b) (q : Q (.bl b) H) : rIsX K [.ref a, c] H Q := ⟨a, D, c, u, b, rfl, h, C, k, e, q⟩
theorem L_isXT {a tp : Addr} {cs : List V} {us : List Value} (h : H a = some (ExI (.ref D) none a)) (C : L2.ExcC K D) (hT : H tp = some (.tup cs)) (k : Paired ClsV cs us) (e : PySem.W.kitAny K (.ref D) us = some b) (q : Q (.bl b) H) : rIsXT K [.ref a, .ref tp] H Q := ⟨a, D, tp, cs, us, b, rfl, h, C, hT, k, e, q⟩
theorem kit_none : ∀ {us : List Value}, (∀ u ∈ us, PySem.W.kitOne K (.ref D) u = some false) → PySem.W.kitAny K (.ref D) us = some false
  | [], _ => rfl
  | u :: us, h => by
    unfold PySem.W.kitAny
    rw [h u (List.mem_cons_self ..)]
    exact kit_none fun x hx => h x (List.mem_cons_of_mem _ hx)
theorem L_asT {c : Value} {i : Nat} {ts : Addr → Value → Option Addr → TS} {Wout : WX} {D : Ends} {σ : L2.St} {cls : Value} {d : Option Addr} (h : PySem.W.exmOne K cls c = some true)
    (q : ∀ a, H a = none → ts a cls d ⟨fun σ' H' => H' a = none → D.nx (σ'.set i none) (upd H' a (ExI cls d a)), D.rt, fun σ' H' => D.bk (σ'.set i none) H', fun σ' H' => D.ct (σ'.set i none) H'⟩ (σ.set i (some (.ref a))) H) : wAsT K c i ts Wout D cls d σ H :=
  ⟨true, h, fun _ => q, fun z => nomatch z⟩
end
/-! ### lists of numbers, and what is none -/
def BadNs (K : PySem.W.Frag) (H : Hp) (v : V) (lo hi : Int) : Prop := NotL K H v ∨ ∃ a xs, v = .ref a ∧ SqL K H a xs ∧ (24 < xs.length ∨ ((∀ x ∈ xs, (∃ t, x = .int t ∧ lo ≤ t ∧ t ≤ hi) ∨ BadW K H x lo hi) ∧ ∃ x ∈ xs, BadW K H x lo hi))
def GoodNs (K : PySem.W.Frag) (H : Hp) (v : V) (ts : List Int) (lo hi : Int) : Prop := ∃ a, v = .ref a ∧ SqL K H a (ts.map V.int) ∧ ts.length ≤ 24 ∧ ∀ t ∈ ts, lo ≤ t ∧ t ≤ hi
section
variable {K : PySem.W.Frag} {H H' : Hp} {v : V} {lo hi : Int} {ts : List Int}
theorem BadNs.same (h : BadNs K H v lo hi) (e : Same H H') : BadNs K H' v lo hi := by
  rcases h with h | ⟨a, xs, h1, h2, h3⟩
  · exact .inl (h.same e)
  · refine .inr ⟨a, xs, h1, e.seq h2, ?_⟩
    rcases h3 with h3 | ⟨h3, x, h4, h5⟩
    · exact .inl h3
    · exact .inr ⟨fun x hx => (h3 x hx).imp id fun b => b.same e, x, h4, h5.same e⟩
theorem GoodNs.same (h : GoodNs K H v ts lo hi) (e : Same H H') : GoodNs K H' v ts lo hi := by
  obtain ⟨a, h1, h2, h3, h4⟩ := h
  exact ⟨a, h1, e.seq h2, h3, h4⟩
theorem bad_one {a : Addr} {x : V} (h : H a = some (.lst [x])) (b : BadW K H x lo hi) : BadNs K H (.ref a) lo hi := .inr ⟨a, _, rfl, .of h, .inr ⟨fun y hy => by rw [List.mem_singleton.mp hy]; exact .inr b, x, List.mem_singleton.mpr rfl, b⟩⟩
theorem good_ns {a : Addr} (h : H a = some (.lst (ts.map V.int))) (hl : ts.length ≤ 24) (hb : ∀ t ∈ ts, lo ≤ t ∧ t ≤ hi) : GoodNs K H (.ref a) ts lo hi := ⟨a, rfl, .of h, hl, hb⟩
theorem int_of_mem {x : V} (h : x ∈ ts.map V.int) : ∃ t ∈ ts, x = .int t := by
  obtain ⟨t, h1, h2⟩ := List.mem_map.mp h
  exact ⟨t, h1, h2.symm⟩
theorem getD_of {i : Nat} {t : Int} (h : ts[i]? = some t) : ts.getD i 0 = t := by rw [List.getD_eq_getElem?_getD, h]; rfl
theorem fm_int {f : Nat → Option Int} {n : Nat} : (List.range n).filterMap (fun i => (f i).map V.int) = ((List.range n).filterMap f).map V.int := by
  rw [List.map_filterMap]
end
/-- pairs of ints as data -/
def d2 (r : Int × Int) : PyData := .tuple [.int r.1, .int r.2]
section
variable {K : PySem.W.Frag} {H : Hp} {v : V} {us : List V} {rows : List (Int × Int)}
theorem of_d2 {r : Int × Int} (h : Dp K H v (d2 r)) : ∃ a, v = .ref a ∧ SqT K H a [.int r.1, .int r.2] := by
  obtain ⟨a, x, y, rfl, h1, h2, h3⟩ := of_t2 h
  rw [of_int h2, of_int h3] at h1
  exact ⟨a, rfl, h1⟩
theorem hit2 (hA : DpAll K H us (rows.map d2)) {i : Nat} {x : V} (hx : us[i]? = some x) : ∃ r t, rows[i]? = some r ∧ x = V.ref t ∧ SqT K H t [.int r.1, .int r.2] := by
  obtain ⟨d, h1, h2⟩ := hA.of hx
  rw [List.getElem?_map] at h1
  obtain ⟨r, h3, rfl⟩ := Option.map_eq_some_iff.mp h1
  obtain ⟨t, rfl, h4⟩ := of_d2 h2
  exact ⟨r, t, h3, rfl, h4⟩
theorem shp_d2s : SeqAt.shaped (.list (rows.map d2)) = true := (shp_lst (n := 1) (shp_map fun r _ => shp_tup (n := 0) (shp_cons shp_int (shp_cons shp_int shp_nil)))).ok
end
theorem cutG_take {α : Type} (xs : List α) (n : Nat) : cutG xs none (some (n : Int)) = xs.take n := by
  unfold cutG
  rw [HT.sIx_none, HT.sIx_nat, List.drop_zero, Nat.sub_zero]
  rcases Nat.le_total n xs.length with h | h
  · rw [Nat.min_eq_left h]
  · rw [Nat.min_eq_right h, List.take_of_length_le (Nat.le_refl _), List.take_of_length_le h]
theorem cutG_drop {α : Type} (xs : List α) (n : Nat) : cutG xs (some (n : Int)) none = xs.drop n := by
  unfold cutG
  rw [HT.sIx_none, HT.sIx_nat]
  rcases Nat.le_total n xs.length with h | h
  · rw [Nat.min_eq_left h, List.take_of_length_le (by rw [List.length_drop]; exact Nat.le_refl _)]
  · rw [Nat.min_eq_right h, List.drop_of_length_le (Nat.le_refl _), List.drop_of_length_le h, List.take_nil]
theorem strOk_lit {z : Str} (h : PyData.strOk z = true) : PyData.strOk z = true := h
theorem dpa_app {K : PySem.W.Frag} {H : Hp} : ∀ {ds es : List PyData} {vs us : List V}, DpAll K H (vs ++ us) (ds ++ es) → vs.length = ds.length → DpAll K H vs ds ∧ DpAll K H us es
  | [], _, [], _, h, _ => ⟨.nil, h⟩
  | [], _, _ :: _, _, _, e => by simp at e
  | _ :: _, _, [], _, _, e => by simp at e
  | d :: ds, _, v :: vs, _, h, e => by
    cases h with
    | cons h1 h2 =>
      obtain ⟨a, b⟩ := dpa_app h2 (by simpa using e)
      exact ⟨.cons h1 a, b⟩
theorem nn_ints_or {K : PySem.W.Frag} {H : Hp} {x : V} {ts : List Int} {lo hi : Int} (hb : ∀ t ∈ ts, lo ≤ t ∧ t ≤ hi) (h : x ∈ ts.map V.int) : (∃ t, x = .int t ∧ lo ≤ t ∧ t ≤ hi) ∨ BadW K H x lo hi := by
  obtain ⟨t, ht, e⟩ := int_of_mem h
  exact .inl ⟨t, e, hb t ht⟩
theorem rep_len {α : Type} (xs : List α) : ∀ n : Nat, (List.replicate n xs).flatten.length = n * xs.length
  | 0 => by simp
  | n + 1 => by rw [List.replicate_succ, List.flatten_cons, List.length_append, rep_len xs n, Nat.succ_mul, Nat.add_comm]
/-! ### exceptions whose own __init__ asks their base's by its name -/
/-- S.__init__, S an own class, is ValueError's -/
structure BaseI (K : PySem.W.Frag) (S : Addr) : Prop where
  rd : PySem.W.readsIn K S (.type "type") = true
  ga : PySem.W.specialIn K (.ref S) "__getattribute__" = some (some (.builtin "type.__getattribute__"))
  vi : PySem.W.findCls K (.ref S) (.type "type") "__init__" = some (.val (.builtin "ValueError.__init__"))
structure XIniAt (K : PySem.W.Frag) (C : Addr) (qual : Str) (st : Stmt) (ps : List Str) : Prop where
  ex : ∃ (f : Addr) (fd : FuncData), Fun K "__init__" qual st f fd ∧ PySem.W.findIn K (.ref C) "__init__" = some (some (.ref f)) ∧ PySem.W.isFn K (.ref f) = true ∧ Binds K fd ps []
/-- an exception that may be made by its class's name -/
structure XMak (P : Program) (w : World) (K : PySem.W.Frag) (mg : Str → Option Value) (base : Heap) (k : Nat) (x : Str) (C : Addr) (sp : Sp) : Prop where
  ex : ∃ (f : Addr) (fd : FuncData) (ps : List Str), FnOk P w K mg base CX0 k f fd ps sp ∧ PySem.W.findIn K (.ref C) "__init__" = some (some (.ref f)) ∧ PySem.W.typeIn K (.ref f) = some (.type "function") ∧ mg x = some (.ref C) ∧ Binds K fd ps []
section
variable {P : Program} {w : World} {K : PySem.W.Frag} {mg : Str → Option Value} {base : Heap}
theorem XIniAt.xmak {x : Str} {C : Addr} {qual : Str} {st : Stmt} {N ps : List Str} {k : Nat} {sp : Sp} (hx : mg x = some (.ref C)) (d : XIniAt K C qual st ps) (S : FnScope N ps (defScope st)) (len : ∀ vs H Q E, sp vs H Q E → vs.length = ps.length)
    (hbody : ∀ (f : Addr) (cdv : Value) (A : Around) (outer : List Env) (s : Shared) (H : Hp) (vs : List V) (Q : VK) (E : XK), Room k (A.deeper (envOfC qual (defScope st) s.heap.objs.size f cdv)) → sp vs H Q E →
      ∃ t, PSs (cxOf CX0 P w K mg base N qual (defScope st) f cdv A outer s H E).nox (defBody st) t ∧ t { nx := fun _ H' => Q .non H', rt := Q } (start N vs) H) : XMak P w K mg base (k + 1) x C sp := by
  obtain ⟨f, fd, F, h1, h2, b⟩ := d.ex
  exact ⟨f, fd, ps, F.ok S len (hbody f), h1, beq_iff_eq.mp h2, hx, b⟩
end
section
variable {X : Cx} {k j : Nat} {C S : Addr} {x : Str} {sp : Sp} {p p1 p2 pos : Pos} {e : Expr} {es : List Expr} {ta : TA}
theorem pmk_x (c : XMak X.prog X.w X.K X.mg X.base k x C sp) (T : OexC X.K C) (hr : Room j X.A) (hk : k + 1 ≤ j) (hg : Gl X x) (ha : PA X (e :: es) ta)
    (hdb : (x == ("__debug__" : Str)) = false := by decide) (he : starEach (e :: es) X.env = (false, eval e X.env) :: starEach es X.env := by rfl) (hpl : (backTo pos (starEach es X.env)).any (·.1) = false := by rfl) :
    PMk X (.Call (.Name x p) (e :: es) [] pos) (tMkO C sp [] ta) := by
  obtain ⟨f, fd, ps, F, h1, h2, hm, b⟩ := c.ex
  exact pmk_oex T h1 h2 F (hr.mono hk) b .nil pass0 hg hm ha hdb he hpl
theorem pe_baseI {pl : Sem Bool} (hg : Gl X x) (hm : X.mg x = some (.ref S)) (B : BaseI X.K S) (ha : PA X (e :: es) ta)
    (hc : eval (.Call (.Attribute (.Name x p1) "__init__" p2) (e :: es) [] pos) X.env = (do
      let ov ← eval (.Name x p1) X.env
      standAt p2.atName
      let (f, first) ← holding [ov] (getMethod ov "__init__" pl)
      callWith pos f first (backTo pos (starEach (e :: es) X.env)) (backToKw pos (keywordEach [] X.env))) := by rfl)
    (hdb : (x == ("__debug__" : Str)) = false := by decide) (he : starEach (e :: es) X.env = (false, eval e X.env) :: starEach es X.env := by rfl) (hpl : (backTo pos (starEach es X.env)).any (·.1) = false := by rfl) :
    PE X (.Call (.Attribute (.Name x p1) "__init__" p2) (e :: es) [] pos) (tVeI X.K ta) := by
  constructor
  intro pins s σ H Q I h
  have asked : ∀ s1, Inv X pins σ H s1 → wpAny (model X.prog X.w) X.A (callWith pos (Value.builtin "ValueError.__init__") [] (backTo pos (starEach (e :: es) X.env)) []) (EP X pins σ Q) X.xe s1 := fun s1 I1 =>
    PyProof.Rows.callWith_method1 (thn (ha.run pos pins s1 σ H _ I1 h) fun us s2 ⟨vs, H2, I2, r, a, D, ws, evs, few, T, atA, q⟩ => by
      subst evs
      cases r with
      | @cons _ u0 _ ur r0 rr =>
        obtain rfl : u0 = Value.ref a := r0
        have few' : ur.length ≤ sizeLine := by
          have := Paired.length rr
          have := sizeLine_eq
          omega
        exact oinit_ok T I2 atA few' fun s3 I3 => ⟨.non, H2, I3, rfl, q⟩) he hpl
  refine PySem.W.methodCall_KW (ld_glob I hg hm ?_ hdb) hc
  refine PySem.W.method_cls I.kIn B.ga (PySem.W.cls_value I.kIn B.rd B.vi (by decide +kernel) ?_)
  exact asked _ (I.tok _)
end
section
variable {K : PySem.W.Frag} {σ : L2.St} {H : Hp} {D : Ends} {C a : Addr} {f : Str} {y : V} {ta : TA} {te to : TE}
theorem L_veI {R : Hp → Prop} {ws : List V} (T : OexC K C) (h : H a = some (exo a C none)) (l : ws.length ≤ 1000) (q : R H) : ∃ (a' C : Addr) (ws' : List V), V.ref a :: ws = .ref a' :: ws' ∧ ws'.length ≤ 1000 ∧ OexC K C ∧ H a' = some (exo a' C none) ∧ R H := ⟨a, C, ws, rfl, l, T, h, q⟩
theorem L_tveI {Q : VK} (h : ta σ H fun vs H1 => ∃ (a C : Addr) (ws : List V), vs = .ref a :: ws ∧ ws.length ≤ 1000 ∧ OexC K C ∧ H1 a = some (exo a C none) ∧ Q .non H1) : tVeI K ta σ H Q := h
theorem L_ost (h : te σ H fun y H1 => to σ H1 fun x H2 => ∃ a C : Addr, x = .ref a ∧ OexC K C ∧ PySem.W.findIn K (.ref C) f = some none ∧
  ((H2 a = some (exo a C none) ∧ ∀ dx, H2 dx = none → dx ≠ a → D.nx σ (upd (upd H2 dx (exd dx [(f, y)])) a (exo a C (some dx)))) ∨
    ∃ (dx : Addr) (fs : List (Str × V)), H2 a = some (exo a C (some dx)) ∧ H2 dx = some (exd dx fs) ∧ fs.length ≤ 900 ∧ D.nx σ (upd H2 dx (exd dx ((f, y) :: fs))))) : tOst K f to te D σ H := h
theorem L_ost1 {R : Hp → Prop} (T : OexC K C) (nf : PySem.W.findIn K (.ref C) f = some none) (h : H a = some (exo a C none)) (q : ∀ dx, H dx = none → dx ≠ a → R (upd (upd H dx (exd dx [(f, y)])) a (exo a C (some dx)))) :
    ∃ a' C : Addr, V.ref a = .ref a' ∧ OexC K C ∧ PySem.W.findIn K (.ref C) f = some none ∧
  ((H a' = some (exo a' C none) ∧ ∀ dx, H dx = none → dx ≠ a' → R (upd (upd H dx (exd dx [(f, y)])) a' (exo a' C (some dx)))) ∨
    ∃ (dx : Addr) (fs : List (Str × V)), H a' = some (exo a' C (some dx)) ∧ H dx = some (exd dx fs) ∧ fs.length ≤ 900 ∧ R (upd H dx (exd dx ((f, y) :: fs)))) := ⟨a, C, rfl, T, nf, .inl ⟨h, q⟩⟩
/-- what an __init__ with one field keeps -/
def XIni1 (C : Addr) (f : Str) (a : Addr) (v : V) (H : Hp) (Q : VK) : Prop := H a = some (exo a C none) ∧ ∀ d, H d = none → d ≠ a → Q .non (upd (upd H d (exd d [(f, v)])) a (exo a C (some d)))
/-- C(v) is raised -/
theorem L_mkO1 {sp : Sp} {E : XK} {v : V} (hs : ∀ a H Q E, XIni1 C f a v H Q → sp [.ref a, v] H Q E) (q : ∀ d, H d = none → E (.ref C) (some d) (upd H d (.xd [(f, v)]))) : [v].length ≤ 1000 ∧ ∀ a, H a = none → sp (.ref a :: ([v] ++ [])) (upd H a (exo a C none))
  (fun v H2 => v = .non ∧ ∃ (d : Addr) (fs : List (Str × V)), H2 a = some (exo a C (some d)) ∧ H2 d = some (exd d fs) ∧ H d = none ∧ E (.ref C) (some d) (upd (del H2 a) d (.xd fs))) (fun _ _ _ => False) := by
  refine ⟨by rw [List.length_singleton]; decide, fun a na => hs a _ _ _ ⟨upd_same, fun d nd ne => ⟨rfl, d, [(f, v)], upd_same, ?_, ?_, ?_⟩⟩⟩
  · rw [upd_ne ne, upd_same]
  · rw [upd_ne ne] at nd
    exact nd
  · rw [upd_ne ne] at nd
    have z : upd (del (upd (upd (upd H a (exo a C none)) d (exd d [(f, v)])) a (exo a C (some d))) a) d (.xd [(f, v)]) = upd H d (.xd [(f, v)]) := by
      funext b
      by_cases hb : b = d
      · rw [hb, upd_same, upd_same]
      · rw [upd_ne hb, upd_ne hb]
        by_cases ha : b = a
        · rw [ha, del_same, na]
        · rw [del_ne ha, upd_ne ha, upd_ne hb, upd_ne ha]
    rw [z]
    exact q d nd
theorem L_mkO {sp : Sp} {dvs : List V} {Q : XK} (h : ta σ H fun vs H1 => vs.length ≤ 1000 ∧ ∀ a, H1 a = none → sp (.ref a :: (vs ++ dvs)) (upd H1 a (exo a C none))
  (fun v H2 => v = .non ∧ ∃ (d : Addr) (fs : List (Str × V)), H2 a = some (exo a C (some d)) ∧ H2 d = some (exd d fs) ∧ H1 d = none ∧ Q (.ref C) (some d) (upd (del H2 a) d (.xd fs))) (fun _ _ _ => False)) : tMkO C sp dvs ta σ H Q := h
end
/-- isinstance(e, c) in e's own suite, whatever its dict -/
def rIsS (K : PySem.W.Frag) (a : Addr) (cls : Value) (d : Option Addr) : List V → Hp → VK → Prop := fun xs H Q => ∃ (D : Addr) (c : V) (u : Value) (b : Bool), xs = [.ref a, c] ∧ cls = .ref D ∧ (∀ dd, d = some dd → ∃ fs, H dd = some (.xd fs)) ∧ L2.ExcC K D ∧ ClsV c u ∧ PySem.W.kitOne K (.ref D) u = some b ∧ Q (.bl b) H
theorem call_isS {X : Cx} {a : Addr} {cls : Value} {d : Option Addr} {oe : Obj} {pn : List (Addr × Obj)} (hz : Zc cls d oe) (hf : ∃ vs, oe.data = .fields vs) : CallR (X.suite a ((a, oe) :: pn)) (.builtin "isinstance") (rIsS X.K a cls d) := by
  intro pins s σ H xs us Q I r h
  obtain ⟨D, c, u, b, rfl, rfl, hd, C, k, e, q⟩ := h
  obtain ⟨u1, u2, rfl, r1, r2⟩ := vals2 r
  cases r1
  cases k.eq r2
  obtain ⟨there, _⟩ := I.pin (a, oe) (List.mem_append_left _ List.mem_cons_self)
  obtain ⟨vs, data⟩ := hf
  have J : ∃ od, PySem.W.InstAt s.heap a oe D od := by
    have nc : PySem.W.notCls oe = true := by unfold PySem.W.notCls; rw [data] <;> rfl
    cases d with
    | none => exact ⟨none, there, hz.1, nc, by rw [hz.2]; exact True.intro⟩
    | some dd =>
      obtain ⟨fs, hdd⟩ := hd dd rfl
      obtain ⟨mA, ⟨o, es, ep, ho, _⟩, _⟩ := (show ObjOk X.prog X.w H s.heap dd (.xd fs) from I.hok dd _ hdd)
      exact ⟨some o, there, hz.1, nc, by rw [hz.2]; exact ho⟩
  obtain ⟨od, J⟩ := J
  obtain ⟨cd, hcd, _⟩ := PySem.W.any_some C.hd
  exact PySem.W.kia_one (PySem.W.kitx_exc (show (PySem.W.clsIn _ D).isSome = true by rw [hcd]; rfl) C.hg C.hk C.hs C.ha C.hn C.ht C.hm) I.kIn J e (fun z => nomatch z) fun tk => ⟨.bl b, H, I.tok tk, rfl, q⟩
theorem L_isS {K : PySem.W.Frag} {H : Hp} {Q : VK} {a D : Addr} {d : Option Addr} {c : V} {u : Value} {b : Bool} (hd : ∀ dd, d = some dd → ∃ fs, H dd = some (.xd fs)) (C : L2.ExcC K D) (k : ClsV c u) (e : PySem.W.kitOne K (.ref D) u = some b) (q : Q (.bl b) H) : rIsS K a (.ref D) d [.ref a, c] H Q := ⟨D, c, u, b, rfl, rfl, hd, C, k, e, q⟩
/-- the same, of some classes -/
def rIsST (K : PySem.W.Frag) (a : Addr) (cls : Value) (d : Option Addr) : List V → Hp → VK → Prop := fun xs H Q => ∃ (D tp : Addr) (cs : List V) (ws : List Value) (b : Bool), xs = [.ref a, .ref tp] ∧ cls = .ref D ∧ (∀ dd, d = some dd → ∃ fs, H dd = some (.xd fs)) ∧ L2.ExcC K D ∧ H tp = some (.tup cs) ∧ Paired ClsV cs ws ∧ PySem.W.kitAny K (.ref D) ws = some b ∧ Q (.bl b) H
theorem call_isST {X : Cx} {a : Addr} {cls : Value} {d : Option Addr} {oe : Obj} {pn : List (Addr × Obj)} (hz : Zc cls d oe) (hf : ∃ vs, oe.data = .fields vs) : CallR (X.suite a ((a, oe) :: pn)) (.builtin "isinstance") (rIsST X.K a cls d) := by
  intro pins s σ H xs us Q I r h
  obtain ⟨D, tp, cs, ws, b, rfl, rfl, hd, C, hT, k, e, q⟩ := h
  obtain ⟨u1, u2, rfl, r1, r2⟩ := vals2 r
  cases r1
  cases (show u2 = Value.ref tp from r2)
  obtain ⟨there, _⟩ := I.pin (a, oe) (List.mem_append_left _ List.mem_cons_self)
  obtain ⟨vs, data⟩ := hf
  have J : ∃ od, PySem.W.InstAt s.heap a oe D od := by
    have nc : PySem.W.notCls oe = true := by unfold PySem.W.notCls; rw [data] <;> rfl
    cases d with
    | none => exact ⟨none, there, hz.1, nc, by rw [hz.2]; exact True.intro⟩
    | some dd =>
      obtain ⟨fs, hdd⟩ := hd dd rfl
      obtain ⟨mA, ⟨o, es, ep, ho, _⟩, _⟩ := (show ObjOk X.prog X.w H s.heap dd (.xd fs) from I.hok dd _ hdd)
      exact ⟨some o, there, hz.1, nc, by rw [hz.2]; exact ho⟩
  obtain ⟨od, J⟩ := J
  obtain ⟨_, its, rv, o, h1, h2, n, h3⟩ := (show ObjOk X.prog X.w H s.heap tp (.tup cs) from I.hok tp _ hT)
  have e3 := ClsV.all k rv
  subst e3
  obtain ⟨oc, od2, dt, sl⟩ := o
  simp only at h2 h3
  subst h2 h3
  obtain ⟨cd, hcd, _⟩ := PySem.W.any_some C.hd
  exact PySem.W.kia_tup (PySem.W.kitx_exc (show (PySem.W.clsIn _ D).isSome = true by rw [hcd]; rfl) C.hg C.hk C.hs C.ha C.hn C.ht C.hm) I.kIn J h1 e (fun z => nomatch z) fun tk => ⟨.bl b, H, I.tok tk, rfl, q⟩
theorem L_isST {K : PySem.W.Frag} {H : Hp} {Q : VK} {a D tp : Addr} {d : Option Addr} {cs : List V} {ws : List Value} {b : Bool} (hd : ∀ dd, d = some dd → ∃ fs, H dd = some (.xd fs)) (C : L2.ExcC K D) (hT : H tp = some (.tup cs)) (k : Paired ClsV cs ws) (e : PySem.W.kitAny K (.ref D) ws = some b) (q : Q (.bl b) H) : rIsST K a (.ref D) d [.ref a, .ref tp] H Q := ⟨D, tp, cs, ws, b, rfl, rfl, hd, C, hT, k, e, q⟩
/-- one of two derivations -/
def tOrE (t1 t2 : TE) : TE := fun σ H Q => t1 σ H Q ∨ t2 σ H Q
theorem PE.or {X : Cx} {e : Expr} {t1 t2 : TE} (h1 : PE X e t1) (h2 : PE X e t2) : PE X e (tOrE t1 t2) :=
  ⟨fun pins s σ H Q I h => h.elim (fun h => h1.run pins s σ H Q I h) (fun h => h2.run pins s σ H Q I h)⟩
/-- what isinstance asks of an instance's own class; of the class it is asked of -/
structure InsC (K : PySem.W.Frag) (C : Addr) : Prop where
  ha : PySem.W.findIn K (.ref C) "__class__" = some (some (.builtin "object.__class__"))
  hn : PySem.W.specialIn K (.builtin "object.__class__") "__get__" = some (some (.builtin "getset_descriptor.__get__"))
  ht : PySem.W.takesIn K (.builtin "object.__class__") = some true
  hm : PySem.W.mroIn K C (.type "object") = some true
structure ClsT (K : PySem.W.Frag) (C : Addr) : Prop where
  i : PySem.W.isClsIn K C = true
  t : PySem.W.typeIn K (.ref C) = some (.type "type")
theorem tyx_I {K : PySem.W.Frag} {H : Hp} {a C dx : Addr} {fs : List (Str × V)} (h : H a = some (.ins C dx fs)) (cl : Cls K C) (c : InsC K C) : TyX K H (.ref a) (.ref C) := .base (.ins h cl c.ha c.hn c.ht c.hm)
theorem kit_own {K : PySem.W.Frag} {C D : Addr} {b : Bool} (hD : PySem.W.subIn K (.ref D) (.ref D) = some true) (k : ClsT K C) (h : PySem.W.subIn K (.ref D) (.ref C) = some b) : PySem.W.kitOne K (.ref D) (.ref C) = some b := by
  unfold PySem.W.kitOne
  by_cases e : D = C
  · subst e
    rw [hD] at h
    cases h
    rw [if_pos (by simp)]
  · rw [if_neg (by simpa using e)]
    have h2 : (PySem.W.clsIn K C).isSome = true := k.i
    show (if ((PySem.W.clsIn K C).isSome && PySem.W.typeIn K (.ref C) == some (.type "type")) = true then PySem.W.subIn K (.ref D) (.ref C) else none) = some b
    rw [if_pos (by rw [h2, k.t]; rfl)]
    exact h
theorem kit_not {K : PySem.W.Frag} {T : String} {C : Addr} {b : Bool} (k : ClsT K C) (h : PySem.W.subIn K (.type T) (.ref C) = some b) : PySem.W.kitOne K (.type T) (.ref C) = some b := by
  unfold PySem.W.kitOne
  rw [if_neg (by simp)]
  have h2 : (PySem.W.clsIn K C).isSome = true := k.i
  show (if ((PySem.W.clsIn K C).isSome && PySem.W.typeIn K (.ref C) == some (.type "type")) = true then PySem.W.subIn K (.type T) (.ref C) else none) = some b
  rw [if_pos (by rw [h2, k.t]; rfl)]
  exact h
theorem L_orl {t1 t2 : TE} {σ : L2.St} {H : Hp} {Q : VK} (h : t1 σ H Q) : tOrE t1 t2 σ H Q := .inl h
theorem L_orr {t1 t2 : TE} {σ : L2.St} {H : Hp} {Q : VK} (h : t2 σ H Q) : tOrE t1 t2 σ H Q := .inr h
theorem L_xf {a C : Addr} {cls : Value} {d : Option Addr} {f : Str} {te : TE} {σ : L2.St} {H : Hp} {Q : VK} (h : te σ H fun x H1 => x = .ref a ∧ cls = .ref C ∧ ∃ (dd : Addr) (fs : List (Str × V)) (v : V), d = some dd ∧ H1 dd = some (.xd fs) ∧ fs.lookup f = some v ∧ Q v H1) : tXf a cls d C f te σ H Q := h
theorem ExcC.xf {K : PySem.W.Frag} {C : Addr} (c : L2.ExcC K C) : XfC K C := ⟨c.hg, c.hk, c.hs, c.hd⟩
theorem L_isC {K : PySem.W.Frag} {H : Hp} {Q : VK} {x : V} {T : Value} {C : Addr} {b : Bool} (ty : TyX K H x T) (e : PySem.W.kitOne K T (.ref C) = some b) (q : Q (.bl b) H) : rIsi K [x, .ref C] H Q := ⟨x, .ref C, T, .ref C, b, rfl, .own C, ty, e, q⟩
theorem L_str1 {H : Hp} {Q : VK} {t : Int} (h : 0 ≤ t ∧ t ≤ 1000) (q : Q (.str (toString t)) H) : aStr1 [.int t] H Q := ⟨t, rfl, by have := Nat.log2_le_self t.natAbs; omega, q⟩
theorem str_short : ∀ t : Int, 0 ≤ t → t ≤ 100 → (↑(toString t) : Str).length ≤ 3 := by
  have h : ∀ n ∈ List.range 101, (↑(toString ((n : Nat) : Int)) : Str).length ≤ 3 := by decide +kernel
  intro t h0 h1
  have := h t.toNat (List.mem_range.mpr (by omega))
  rwa [Int.toNat_of_nonneg h0] at this

/-! ### exceptions held as values -/
/-- at a: an exception of the own class D, not raised; fs: its own fields -/
def XVal (H : Hp) (a D : Addr) (fs : List (Str × V)) : Prop := (fs = [] ∧ H a = some (ExI (.ref D) none a)) ∨ ∃ d, H a = some (exo a D (some d)) ∧ H d = some (exd d fs)
theorem XVal.same {H H' : Hp} {a D : Addr} {fs : List (Str × V)} (h : XVal H a D fs) (s : Same H H') : XVal H' a D fs := by
  rcases h with ⟨h1, h2⟩ | ⟨d, h1, h2⟩
  · exact .inl ⟨h1, s _ _ h2⟩
  · exact .inr ⟨d, s _ _ h1, s _ _ h2⟩
theorem xval_inst {X : Cx} {pins : List (Addr × Obj)} {σ : L2.St} {H : Hp} {s : Shared} {a D : Addr} {fs : List (Str × V)} (I : Inv X pins σ H s) (h : XVal H a D fs) : ∃ oe od, PySem.W.InstAt s.heap a oe D od := by
  rcases h with ⟨_, h⟩ | ⟨d, h1, h2⟩
  · obtain ⟨oe, J⟩ := exI_at I h
    exact ⟨oe, none, J⟩
  · obtain ⟨t1, ho⟩ := exo_at I.hok h1
    obtain ⟨mA, ⟨o, _, _, hd, _⟩, _⟩ := exd_at I.hok h2
    exact ⟨_, some o, ho, rfl, rfl, hd⟩
def rIsV (K : PySem.W.Frag) : List V → Hp → VK → Prop := fun xs H Q => ∃ (a D : Addr) (fs : List (Str × V)) (c : V) (u : Value) (b : Bool), xs = [.ref a, c] ∧ XVal H a D fs ∧ L2.ExcC K D ∧ ClsV c u ∧ PySem.W.kitOne K (.ref D) u = some b ∧ Q (.bl b) H
theorem call_isV {X : Cx} : CallR X (.builtin "isinstance") (rIsV X.K) := by
  intro pins s σ H xs us Q I r h
  obtain ⟨a, D, fs, c, u, b, rfl, hx, C, k, e, q⟩ := h
  obtain ⟨u1, u2, rfl, r1, r2⟩ := vals2 r
  cases r1
  cases k.eq r2
  obtain ⟨oe, od, J⟩ := xval_inst I hx
  obtain ⟨cd, hcd, _⟩ := PySem.W.any_some C.hd
  exact PySem.W.kia_one (PySem.W.kitx_exc (show (PySem.W.clsIn _ D).isSome = true by rw [hcd]; rfl) C.hg C.hk C.hs C.ha C.hn C.ht C.hm) I.kIn J e (fun z => nomatch z) fun tk => ⟨.bl b, H, I.tok tk, rfl, q⟩
theorem L_isV {K : PySem.W.Frag} {H : Hp} {Q : VK} {a D : Addr} {fs : List (Str × V)} {c : V} {u : Value} {b : Bool} (h : XVal H a D fs) (C : L2.ExcC K D) (k : ClsV c u) (e : PySem.W.kitOne K (.ref D) u = some b) (q : Q (.bl b) H) : rIsV K [.ref a, c] H Q := ⟨a, D, fs, c, u, b, rfl, h, C, k, e, q⟩
/-- e.f, e such a value -/
def tXv (K : PySem.W.Frag) (f : Str) (te : TE) : TE := fun σ H Q => te σ H fun x H1 => ∃ (a D d : Addr) (fs : List (Str × V)) (v : V), x = .ref a ∧ L2.ExcC K D ∧ PySem.W.findIn K (.ref D) f = some none ∧ H1 a = some (exo a D (some d)) ∧ H1 d = some (exd d fs) ∧ fs.lookup f = some v ∧ Q v H1
theorem L_xv {K : PySem.W.Frag} {f : Str} {te : TE} {σ : L2.St} {H : Hp} {Q : VK} (h : te σ H fun x H1 => ∃ (a D d : Addr) (fs : List (Str × V)) (v : V), x = .ref a ∧ L2.ExcC K D ∧ PySem.W.findIn K (.ref D) f = some none ∧ H1 a = some (exo a D (some d)) ∧ H1 d = some (exd d fs) ∧ fs.lookup f = some v ∧ Q v H1) : tXv K f te σ H Q := h
theorem pe_xv {X : Cx} {e : Expr} {te : TE} {f : Str} {pos : Pos} (he : PE X e te) (hb : attributeBase e f X.env (eval e X.env) = eval e X.env := by rfl) : PE X (.Attribute e f pos) (tXv X.K f te) := by
  constructor
  intro pins s σ H Q I h
  refine attr_of hb (thn (he.run pins s σ H _ I h) fun u s1 ⟨x, H1, I1, rx, a, D, d, fs, v, ex, C, nf, h1, h2, l, q⟩ => ?_)
  subst ex
  cases rx
  obtain ⟨t1, ho⟩ := exo_at I1.hok h1
  obtain ⟨mA, hns, rel⟩ := exd_at I1.hok h2
  obtain ⟨od, hod, hlk⟩ := lookIn_ns hns
  obtain ⟨w, hw, rw'⟩ := RelO.some_of (v := v) (o := mA f) (by rw [← l]; exact rel f)
  have J : PySem.W.InstAt s1.heap a _ D (some od) := ⟨ho, rfl, rfl, hod⟩
  exact HandSPX.exc_get I1.kIn J C.hg C.hk C.hs (PySem.W.findObj_own C.hd nf rfl (by rw [hlk, hw])) (handed_of rw') ⟨v, H1, I1.tok _, rw', q⟩
/-- C(), C without an own __init__ -/
def tMk0V (C : Addr) : TE := fun _ H Q => ∀ a, H a = none → Q (.ref a) (upd H a (ExI (.ref C) none a))
theorem pe_mk0V {X : Cx} {C : Addr} {x : Str} {p pos : Pos} (c : ExcAt X.K C) (gC : X.mg x = some (.ref C)) (hg : Gl X x) (hdb : (x == ("__debug__" : Str)) = false := by decide) : PE X (.Call (.Name x p) [] [] pos) (tMk0V C) := by
  constructor
  intro pins s σ H Q I h
  refine wpAny_Call_Name_kw (ld_glob I hg gC ?_ hdb)
  refine PySem.W.callWith_K0 I.kIn c.k ?_
  obtain ⟨bm, N, nm, qn, bs, hdct, sn, sub, ab, col, dd, k0, k1, k2, k3, k5, mN, hC, hN, hni, T⟩ := exc_obj I.kIn c.x
  refine wpAny_call_exc_subT PySem.F.excBase_ValueError T hC hN hni (fun h' a hm => ?_) (Nat.zero_le _)
  have na : H a = none := I.hok.gone hm.new
  obtain ⟨t, at_, _, _⟩ := hm.there
  refine ⟨.ref a, _, I.laidN (o := ExI (.ref C) none a) hm.keeps hm.new na ⟨⟨_, _, at_, ⟨rfl, rfl⟩, rfl⟩, ⟨_, at_⟩, fun _ _ ⟨o1, v1, z, r⟩ k => ⟨o1, v1, k o1 z, r⟩⟩, rfl, h a na⟩
/-- C(..), C with an own __init__ -/
def tMkV (C : Addr) (sp : Sp) (ta : TA) : TE := fun σ H Q => ta σ H fun vs H1 => vs.length ≤ 1000 ∧ ∀ a, H1 a = none → sp (.ref a :: vs) (upd H1 a (exo a C none)) (fun v H2 => v = .non ∧ Q (.ref a) H2) E0
theorem L_mkV {C : Addr} {sp : Sp} {ta : TA} {σ : L2.St} {H : Hp} {Q : VK} (h : ta σ H fun vs H1 => vs.length ≤ 1000 ∧ ∀ a, H1 a = none → sp (.ref a :: vs) (upd H1 a (exo a C none)) (fun v H2 => v = .non ∧ Q (.ref a) H2) E0) : tMkV C sp ta σ H Q := h
theorem L_mk0V {C : Addr} {σ : L2.St} {H : Hp} {Q : VK} (h : ∀ a, H a = none → Q (.ref a) (upd H a (ExI (.ref C) none a))) : tMk0V C σ H Q := h
theorem pe_mkV {X : Cx} {k j : Nat} {C : Addr} {x : Str} {sp : Sp} {p pos : Pos} {e : Expr} {es : List Expr} {ta : TA} (c : XMak X.prog X.w X.K X.mg X.base k x C sp) (T : OexC X.K C) (hr : Room j X.A) (hk : k + 1 ≤ j) (hg : Gl X x) (ha : PA X (e :: es) ta)
    (hdb : (x == ("__debug__" : Str)) = false := by decide) (he : starEach (e :: es) X.env = (false, eval e X.env) :: starEach es X.env := by rfl) (hpl : (backTo pos (starEach es X.env)).any (·.1) = false := by rfl) :
    PE X (.Call (.Name x p) (e :: es) [] pos) (tMkV C sp ta) := by
  obtain ⟨f, fd, ps, F, iC, tI, hm, hb⟩ := c.ex
  have room := hr.mono hk
  obtain ⟨nm, q, N, bs, bm, sn, sub, ab, col, dd, k0, k1, k2, k3, k5, hC, hbm⟩ := T.cls
  constructor
  intro pins s σ H Q I h
  refine wpAny_Call_Name_kw (ld_glob I hg hm ?_ hdb)
  refine PySem.W.callWith_K (h₀ := X.base) I.ok.mod.kin T.kC (thn (ha.run pos pins s σ H _ I h) fun us s1 ⟨vs, H1, I1, r1, hz, q1⟩ => ⟨I1.kIn, ?_⟩) he hpl
  show wpAny _ _ (call (.ref C) us) _ _ _
  have r1 : Vals vs us := r1
  have few : us.length ≤ sizeLine := by
    have z1 := Paired.length r1
    have z2 := sizeLine_eq
    omega
  obtain ⟨hp, g, dr, tk, os⟩ := s1
  -- the arguments' tuple and the exception's own place
  have old : ∀ b o, hp.get? b = some o → ((hp.push (PySem.W.kdv_tup us)).push (PySem.HandSPX.excO C hp.objs.size)).get? b = some o := fun b o z => Heap.get?_push_of_some _ (Heap.get?_push_of_some _ z)
  have here : ((hp.push (PySem.W.kdv_tup us)).push (PySem.HandSPX.excO C hp.objs.size)).get? (hp.objs.size + 1) = some (PySem.HandSPX.excO C hp.objs.size) := by heap_get
  have free : H1 (hp.objs.size + 1) = none := I1.hok.fresh (Nat.le_succ _)
  have J : Inv X pins σ (upd H1 (hp.objs.size + 1) (exo (hp.objs.size + 1) C none)) ⟨(hp.push (PySem.W.kdv_tup us)).push (PySem.HandSPX.excO C hp.objs.size), g, dr, tk, os⟩ :=
    I1.laid (t' := tk) old (Nat.le_succ _) (exo_ok here)
  have asked := q1 _ free
  have args : Vals (V.ref (hp.objs.size + 1) :: vs) (Value.ref (hp.objs.size + 1) :: us) := .cons rfl r1
  have many : (Value.ref (hp.objs.size + 1) :: us).length = ps.length := args.length.symm.trans (F.len _ _ _ _ asked)
  have bound := hb _ (Value.ref (hp.objs.size + 1) :: us) J.kIn (by rw [List.append_nil]; exact many)
  rw [List.append_nil] at bound
  refine wpAny_call (PySem.HandSPX.call_own PySem.F.excBase_ValueError (fun Y => PySem.HandSPX.refsVE_contains Y bm hbm) (I1.kIn _ _ hC) (PySem.W.looks_findIn I1.kIn iC) (fun self => PySem.W.bind_fn I1.kIn self tI) few ?_)
  refine codeAny_mono (F.run _ X.stack _ _ ⟨_, []⟩ _ _ _ E0 (room.make C us []) (J.env0.make C us []) bound args asked) fun out s' ho => ?_
  match out, ho with
  | .error e, ho => exact pass0 pins σ _ _ e s' J ho
  | .ok (.ret u), ho =>
    obtain ⟨v, H', J', rel, hv, rest⟩ := J.after ho
    cases hv
    exact ⟨rel, .ref (hp.objs.size + 1), H', J', rfl, rest⟩
  | .ok .next, ho => exact ho.elim
  | .ok .brk, ho => exact ho.elim
  | .ok .cont, ho => exact ho.elim
theorem L_dsetd {td ty tx : TE} {σ : L2.St} {H : Hp} {Q : VK} (h : td σ H fun x H1 => ∃ a, x = .ref a ∧ IsD H1 a ∧ ty σ H1 fun y H2 => tx σ H2 fun z H3 => ∃ (kvs : List (Key × V)) (k : Key), H3 a = some (.dK kvs) ∧ y = kV k ∧ kvs.length < sizeLine ∧
  (∀ v, valV kvs k = some v → Q v H3) ∧ (valV kvs k = none → Q z (upd H3 a (.dK (putK kvs k z))))) : tDSetd td ty tx σ H Q := h
/-! ### the tuples of a heap; fields changed by += -/
noncomputable def tp (H : Hp) : Hp := rs (fun b => ∃ xs, H b = some (.tup xs)) H
theorem tp_same {H H' : Hp} (h : ∀ b xs, H b = some (.tup xs) → H' b = some (.tup xs)) : Same (tp H) (tp H') := rs_same fun b o ⟨xs, e⟩ z => ⟨⟨xs, h b xs e⟩, by rw [e] at z; cases z; exact h b xs e⟩
theorem tp_upd {H : Hp} {a : Addr} {o : HO} (h : ∀ xs, H a ≠ some (.tup xs)) : Same (tp H) (tp (upd H a o)) := tp_same fun b xs e => by rw [upd_ne fun z => h xs (by rw [← z]; exact e)]; exact e
theorem tp_at {H : Hp} {b : Addr} {xs : List V} (h : H b = some (.tup xs)) : tp H b = some (.tup xs) := rs_at ⟨xs, h⟩ h
theorem tp_of {H H' : Hp} (e : Same H H') : Same (tp H) (tp H') := tp_same fun b xs z => e _ _ z
theorem L_fldaug {K : PySem.W.Frag} {σ : L2.St} {H : Hp} {N B C' : L2.St → Hp → Prop} {R : VK} {f : Str} {ta tv : TE} {rd : V → V → Hp → VK → Prop} (h : ta σ H fun x H1 => ∃ a C dx fs v, x = .ref a ∧ H1 a = some (.ins C dx fs) ∧ Cls K C ∧ NoAttr K C f ∧ fs.lookup f = some v ∧
  tv σ H1 fun y H2 => rd v y H2 fun z H3 => ∃ dx' fs', H3 a = some (.ins C dx' fs') ∧ fs'.length < 1000 ∧ N σ (upd H3 a (.ins C dx' (putF f z fs')))) : sFldAug K ta tv rd f ⟨N, R, B, C'⟩ σ H := h
theorem L_rAdd {H : Hp} {Q : VK} {i j : Int} (h : Q (.int (i + j)) H) : rAdd (.int i) (.int j) H Q := ⟨i, j, rfl, rfl, h⟩
theorem fm_flt {α β : Type} (c : α → Bool) (g : α → β) : ∀ l : List α, (List.range l.length).filterMap (fun i => (l[i]?).bind fun x => if c x = true then some (g x) else none) = (l.filter c).map g
  | [] => rfl
  | a :: l => by
    have ih := fm_flt c g l
    rw [List.length_cons, List.range_succ_eq_map]
    simp only [List.filterMap_cons, List.getElem?_cons_zero, Option.bind_some, List.filterMap_map, Function.comp_def, List.getElem?_cons_succ]
    rw [ih]
    cases h : c a
    · rw [List.filter_cons_of_neg (by simp [h])]; simp
    · rw [List.filter_cons_of_pos h]; simp
/-- t * n, t a text -/
def rRepS : R2 := fun x y H Q => ∃ (z : Str) (k : Int), x = .str z ∧ y = .int k ∧ MulOk z k ∧ Q (.str (Txt.mul z k)) H
theorem op_repS {X : Cx} : OpR X (binaryOp .Mult) rRepS := by
  intro pins s σ H x y v u Q I rx ry h
  obtain ⟨z, k, rfl, rfl, hz, q⟩ := h
  obtain ⟨t, rfl⟩ := rx
  obtain ⟨t', rfl⟩ := ry
  exact SB.mul hz fun t' tk => ⟨.str (Txt.mul z k), H, I.tok _, ⟨_, rfl⟩, q⟩
theorem L_repS0 {H : Hp} {Q : VK} {z : Str} {k : Int} (h : k = 0) (q : Q (.str Str.empty) H) : rRepS (.str z) (.int k) H Q := by
  subst h
  exact ⟨z, 0, rfl, rfl, ⟨by decide, fun h => absurd (by decide) h, fun h => absurd (by decide) h⟩, q⟩
theorem sqT_upd {K : PySem.W.Frag} {H : Hp} {p a : Addr} {us xs : List V} {o : HO} (hp : H p = some (.lst us)) (h : SqT K H a xs) : SqT K (upd H p o) a xs := by
  rcases h with (h | ⟨o', h⟩) | h
  · exact .inl (.inl (by rw [upd_ne fun z => by rw [z, hp] at h; cases h]; exact h))
  · exact .inl (.inr ⟨o', by rw [upd_ne fun z => by rw [z, hp] at h; cases h]; exact h⟩)
  · exact .inr h
theorem rep_map {α : Type} (f : α → V) (xs : List α) (n : Nat) : (List.replicate n (xs.map f)).flatten = ((List.replicate n xs).flatten).map f := by
  induction n with
  | zero => rfl
  | succ n ih => rw [List.replicate_succ, List.flatten_cons, List.replicate_succ, List.flatten_cons, List.map_append, ih]
theorem cutG_both {α : Type} (xs : List α) {a b : Nat} (h1 : a ≤ b) (h2 : b ≤ xs.length) : cutG xs (some (a : Int)) (some (b : Int)) = (xs.drop a).take (b - a) := by
  unfold cutG
  rw [HT.sIx_nat, HT.sIx_nat, Nat.min_eq_left h2, Nat.min_eq_left (Nat.le_trans h1 h2)]
/-! ### looks at a question's form, ahead of steps that show something -/
section
variable {K : PySem.W.Frag} {σ : L2.St} {H : Hp} {Q : VK} {x y v : V}
theorem G_mul (h : aMul x y H Q) : aMul x y H Q := h
theorem G_mod {g : Int → Int → V} (h : rI (fun _ j => 0 < j) g x y H Q) : rI (fun _ j => 0 < j) g x y H Q := h
theorem G_div {g : Int → Int → V} (h : rI CDivW g x y H Q) : rI CDivW g x y H Q := h
theorem G_pow {g : Int → Int → V} (h : rI CPow g x y H Q) : rI CPow g x y H Q := h
theorem G_ix {p : Addr} {i : Int} (h : rIx K (.ref p) (.int i) H Q) : rIx K (.ref p) (.int i) H Q := h
theorem G_len {p : Addr} (h : aLen K [.ref p] H Q) : aLen K [.ref p] H Q := h
theorem G_meth {a : Addr} {C : Addr} {m : Str} {R : Addr → Addr → List (Str × V) → Prop} (h : ∃ a' dx fs, V.ref a = V.ref a' ∧ H a' = some (.ins C dx fs) ∧ fs.lookup m = none ∧ R a' dx fs) : ∃ a' dx fs, V.ref a = V.ref a' ∧ H a' = some (.ins C dx fs) ∧ fs.lookup m = none ∧ R a' dx fs := h
theorem G_isi {i : Int} {n : String} (h : rIsi K [.int i, .ty n] H Q) : rIsi K [.int i, .ty n] H Q := h
theorem G_d {p : Prop} [Decidable p] {A B : Prop} (h : if decide p = true then A else B) : if decide p = true then A else B := h
theorem G_nd {p : Prop} [Decidable p] {A B : Prop} (h : if (!decide p) = true then A else B) : if (!decide p) = true then A else B := h
theorem G_gn {i : Nat} {N : L2.St → Hp → Prop} (h : gName i v σ H N) : gName i v σ H N := h
end
theorem inV_strs (n : Str) : ∀ ns : List Str, inV (.str n) (ns.map V.str) = decide (n ∈ ns)
  | [] => by simp [inV]
  | k :: ns => by
    have ih := inV_strs n ns
    unfold inV at ih ⊢
    rw [List.map_cons, List.any_cons, ih]
    by_cases e : n = k
    · subst e
      simp [eqV]
    · have e' : ¬ k = n := fun z => e z.symm
      simp [eqV, e, e']
theorem flat_strs : ∀ ns : List Str, (ns.map V.str).all flatV = true
  | [] => rfl
  | _ :: ns => by rw [List.map_cons, List.all_cons, flat_strs ns]; rfl
section
variable {K : PySem.W.Frag} {H : Hp} {Q : VK} {p : Addr} {z : Str} {ns : List Str}
theorem L_notInSs (h : SqL K H p (ns.map V.str)) (q : Q (.bl (!decide (z ∈ ns))) H) : aNotIn K (.str z) (.ref p) H Q := .inr ⟨p, _, rfl, .inl h, rfl, flat_strs _, by rw [if_pos rfl, inV_strs]; exact q⟩
theorem L_inSs (h : SqL K H p (ns.map V.str)) (q : Q (.bl (decide (z ∈ ns))) H) : aIn K (.str z) (.ref p) H Q := .inr ⟨p, _, rfl, .inl h, rfl, flat_strs _, by rw [if_neg (by decide), inV_strs]; exact q⟩
end
/-! ### dicts: in, not in, d[k] = v -/
section
variable {K : PySem.W.Frag} {σ : L2.St} {H : Hp} {Q : VK} {ty td tv : TE} {y v : V} {a : Addr} {k : Key} {kvs : List (Key × V)}
theorem L_din (h : ty σ H fun y H1 => td σ H1 fun x H2 => ∃ a o, x = .ref a ∧ DGet H2 a y o ∧ Q (.bl o.isSome) H2) : tDIn ty td σ H Q := h
theorem L_dnin (h : ty σ H fun y H1 => td σ H1 fun x H2 => ∃ a o, x = .ref a ∧ DGet H2 a y o ∧ Q (.bl (!o.isSome)) H2) : tDNotIn ty td σ H Q := h
theorem L_dget (h : td σ H fun x H1 => ty σ H1 fun y H2 => ∃ a v, x = .ref a ∧ DGet H2 a y (some v) ∧ Q v H2) : tDGet td ty σ H Q := h
theorem L_dinv {R : Option V → Prop} (e : y = kV k) (h : H a = some (.dK kvs)) (q : R (valV kvs k)) : ∃ a' o, V.ref a = .ref a' ∧ DGet H a' y o ∧ R o := ⟨a, _, rfl, by rw [e]; exact DGet.k h, q⟩
theorem L_dgetv {R : V → Prop} (e : y = kV k) (h : H a = some (.dK kvs)) (hv : valV kvs k = some v) (q : R v) : ∃ a' v, V.ref a = .ref a' ∧ DGet H a' y (some v) ∧ R v := ⟨a, v, rfl, by rw [e, ← hv]; exact DGet.k h, q⟩
theorem L_dput {N B C : L2.St → Hp → Prop} {R : VK} (h : tv σ H fun v H1 => td σ H1 fun x H2 => ty σ H2 fun y H3 => ∃ a H4, x = .ref a ∧ DPut H3 a y v H4 ∧ N σ H4) : sDPut td ty tv ⟨N, R, B, C⟩ σ H := h
theorem L_dputv {R : Hp → Prop} (e : y = kV k) (h : H a = some (.dK kvs)) (hl : kvs.length < 1000000) (q : R (upd H a (.dK (putK kvs k v)))) : ∃ a' H4, V.ref a = .ref a' ∧ DPut H a' y v H4 ∧ R H4 := ⟨a, _, rfl, by rw [e]; exact DPut.k h (sz_lt hl), q⟩
end
theorem putK_len {kvs : List (Key × V)} {k : Key} {v : V} : (putK kvs k v).length ≤ kvs.length + 1 := by
  unfold putK
  split
  · rw [List.length_map]; omega
  · rw [List.length_append, List.length_singleton]; omega
/-! ### a comprehension of new pairs of ints -/
def T2 (H : Hp) (v : V) (p : Int × Int) : Prop := ∃ t, v = .ref t ∧ H t = some (.tup [.int p.1, .int p.2])
theorem paired_imp2 {α β : Type} {F G : α → β → Prop} (h : ∀ a b, F a b → G a b) : ∀ {xs : List α} {ys : List β}, Paired F xs ys → Paired G xs ys
  | [], _, p => by cases p; exact .nil
  | x :: xs, _, p => by cases p with | cons h1 h2 => exact .cons (h _ _ h1) (paired_imp2 h h2)
theorem paired_app {α β : Type} {F : α → β → Prop} : ∀ {xs us : List α} {ys ws : List β}, Paired F xs ys → Paired F us ws → Paired F (xs ++ us) (ys ++ ws)
  | [], _, _, _, p, q => by cases p; exact q
  | x :: xs, _, _, _, p, q => by cases p with | cons h1 h2 => exact .cons h1 (paired_app h2 q)
section
variable {σ : L2.St} {H : Hp} {g : TG} {tt : TT} {te : TE}
theorem lc_pr {J : It} {n : Nat} {G : Hp → Prop} {Y : Nat → Hp → V → Hp → Prop} (w : L2.Walk J n G Y) {vs : List Nat} {Qd : Addr → Hp → Prop} (f : Nat → Option (Int × Int)) (hn : n ≤ 1000000) (hG : ∀ H', Same H H' → G H')
    (hs : ∀ i x H2 H' (R : V → Hp → Prop) (R' : Hp → Prop), i < n → Same H H2 → Y i H2 x H' → (∀ t p H4, f i = some p → Same H2 H4 → H4 t = some (.tup [.int p.1, .int p.2]) → R (.ref t) H4) → (∀ H3, f i = none → Same H2 H3 → R' H3) →
      g x (wipe σ vs) H' fun σ2 H2 => wipe σ2 vs = wipe σ vs ∧ tt σ2 H2 fun b H3 => if b = true then te σ2 H3 R else R' H3)
    (q : ∀ p H' vs, H p = none → Same H H' → H' p = some (.lst vs) → Paired (T2 H') vs ((List.range n).filterMap f) → Qd p H') :
    ∀ D, H D = none → ∃ W : Nat → Nat → Hp → Prop, (∃ m, W 0 m (upd H D (.lst []))) ∧ ∀ i m H, W i m H →
      (J.stop i H ∧ Qd D H) ∨ (J.go i H ∧ ∃ Nx : Hp → Prop, (∀ H', Nx H' → ∃ m', m' < m ∧ W (i + 1) m' H') ∧ ∀ x H', J.yld i H x H' → g x (wipe σ vs) H' fun σ2 H2 => wipe σ2 vs = wipe σ vs ∧ tt σ2 H2 fun b H3 =>
        if b = true then te σ2 H3 fun y H4 => ∃ acc, H4 D = some (.lst acc) ∧ acc.length < sizeLine ∧ Nx (upd H4 D (.lst (acc ++ [y]))) else Nx H3) := by
  intro D hD
  refine lc_it w (fun i H2 => Same H H2 ∧ ∃ us, H2 D = some (.lst us) ∧ Paired (T2 H2) us ((List.range i).filterMap f)) ⟨same_new hD, [], upd_same, .nil⟩ (fun i H2 _ p => hG H2 p.1) ?_ (fun H2 ⟨p1, us, p2, p3⟩ => q D H2 us hD p1 p2 p3)
  rintro i x H2 H' hi ⟨p1, us, p2, p3⟩ y
  refine hs i x H2 H' _ _ hi p1 y (fun t d H4 e s et => ?_) (fun H3 e s => ?_)
  · have e4 := s _ _ p2
    have ne : ∀ t o, H4 t = some o → (∀ l, o ≠ .lst l) → t ≠ D := fun t o h h' z => by rw [z, e4] at h; injection h with h; exact h' _ h.symm
    refine ⟨us, e4, sz_lt (by have := Paired.length p3; have := fm_len' f i; omega), same_mut (p1.trans s) hD, _, upd_same, ?_⟩
    rw [fm_succ', e]
    have up : ∀ v p, T2 H4 v p → T2 (upd H4 D (.lst (us ++ [.ref t]))) v p := fun v p h => by
      obtain ⟨t', h1, h2⟩ := h
      exact ⟨t', h1, by rw [upd_ne (ne t' _ h2 (fun _ z => by cases z))]; exact h2⟩
    exact paired_app (paired_imp2 (fun v p h => up v p (by obtain ⟨t', h1, h2⟩ := h; exact ⟨t', h1, s _ _ h2⟩)) p3) (.cons (up _ _ ⟨t, rfl, et⟩) .nil)
  · refine ⟨p1.trans s, us, s _ _ p2, ?_⟩
    rw [fm_succ', e, List.append_nil]
    exact paired_imp2 (fun v p ⟨t, h1, h2⟩ => ⟨t, h1, s _ _ h2⟩) p3
end
end Kt
set_option Elab.async false
set_option linter.all false
set_option maxRecDepth 100000
set_option maxHeartbeats 4000000
namespace My
open PySem PySem.Spec PyProof.Rows L2 Kt
/-! one step of a reading; a look at the heap -/
local macro_rules | `(tactic| walk_at "hp") => `(tactic| first
  | assumption
  | exact upd_same
  | (with_reducible apply hp_from; assumption; walk_at "sm"))
local macro_rules | `(tactic| walk_at "hpL") => `(tactic| first | assumption | (with_reducible apply hpL; walk_at "hp"))
local macro_rules | `(tactic| walk_at "hpT") => `(tactic| first | assumption | (with_reducible apply hpT; walk_at "hp"))
local macro_rules | `(tactic| walk_at "st1") => `(tactic| with_reducible first
  | refine L_var rfl ?_
  | refine L_cons ?_
  | refine L_nil ?_
  | refine L_c ?_
  | refine L_op ?_
  | refine L_seq ?_
  | refine L_asg ?_
  | (refine G_gn ?_; refine L_gnameE (by dsimp only [L2.wipe, List.foldl, List.set] <;> rfl) ?_)
  | refine L_k ?_
  | refine L_I0 ?_
  | refine L_addI ?_
  | refine L_tTest ?_
  | refine L_ifS ?_
  | refine L_next ?_
  | refine L_call ?_
  | refine L_callS ?_
  | refine L_T ?_
  | refine L_F ?_
  | refine L_nT ?_
  | refine L_nF ?_
  | refine L_cb ?_
  | refine L_ret ?_
  | refine L_eqI ?_
  | refine L_neI ?_
  | refine L_leI ?_
  | refine L_ltI ?_
  | refine L_or ?_
  | refine L_and ?_
  | refine L_not ?_
  | refine L_tB ?_
  | refine L_drop ?_
  | refine L_bm ?_
  | refine L_tup ?_
  | refine L_lst ?_
  | refine L_fld ?_
  | refine L_chain ?_
  | refine L_gname ?_
  | refine L_eqS ?_
  | refine L_neS ?_
  | refine L_eqB ?_
  | refine L_leS ?_
  | refine L_isN ?_
  | refine L_notN ?_
  | refine L_inC ?_
  | refine L_notInC ?_
  | refine L_un ?_
  | refine L_rU ?_
  | refine L_andV ?_
  | refine L_orV ?_
  | refine L_notV ?_
  | refine L_par ?_
  | refine L_par3 ?_
  | refine L_vs2 ?_
  | refine L_vs3 ?_
  | refine L_aug rfl ?_
  | refine L_ipI ?_
  | refine L_retN ?_
  | refine L_brk ?_
  | refine L_cont ?_
  | refine L_tru ?_
  | refine L_truB ?_
  | refine L_truI ?_
  | refine L_abs ?_
  | refine L_max2 ?_
  | refine L_min2 ?_
  | refine L_int1 ?_
  | refine L_int1B ?_
  | refine L_for ?_
  | refine L_iRng1 ?_
  | refine L_iRng2 ?_
  | refine L_iList ?_
  | refine L_iTup ?_
  | refine L_yes ?_
  | refine L_iZip ?_
  | refine L_iEnum ?_
  | refine L_iStr ?_
  | refine L_iRng3 ?_
  | refine L_lc ?_
  | refine L_make ?_
  | refine L_nnT ?_
  | refine L_nnF ?_
  | refine L_disp1 ?_
  | refine L_rng2 ?_
  | refine L_bm0 ?_
  | refine L_neB ?_
  | refine L_dnew ?_
  | refine L_sl ?_
  | refine L_noPart ?_
  | refine L_part ?_
  | refine L_ki ?_
  | refine L_methE ?_
  | refine L_meth ?_
  | refine L_makeE ?_
  | refine L_gCons ?_
  | refine L_gNil ?_
  | refine L_sub ?_
  | refine L_sFld ?_
  | refine L_din ?_
  | refine L_dnin ?_
  | refine L_dget ?_
  | refine L_dput ?_)
local macro_rules | `(tactic| walk_at "st") => `(tactic| first | walk_at "st1" | walk_at "op" | with_reducible refine L_ifE ?_)
local macro_rules | `(tactic| walk_at "stn") => `(tactic| repeat first | walk_at "st1" | walk_at "op")
local macro_rules | `(tactic| walk_at "sts") => `(tactic| repeat walk_at "st")
/-! the same, and what is shown by itself: sizes, bounds, what stands in the heap -/
local macro_rules | `(tactic| walk_at "bd") => `(tactic| first | exact bd_mod (by decide) | exact bd_64 (by decide) | exact bd_64 (by omega))
local macro_rules | `(tactic| walk_at "sa1") => `(tactic| first
  | walk_at "st"
  | (with_reducible refine G_mod ?_; with_reducible refine L_I (show _ < _ by first | decide | omega) ?_)
  | (with_reducible refine G_mul ?_; with_reducible refine L_mulI (Bd.cmul (n := 64) (m := 64) (by walk_at "bd") (by walk_at "bd")) ?_)
  | (with_reducible refine G_div ?_; with_reducible refine L_I (cdiv_lit (by first | decide | omega)) ?_)
  | (with_reducible refine G_pow ?_; with_reducible first
    | refine L_powE (i := 10) (j := 9) (n := 1000000000) (cpow_lit (by decide)) (by decide) ?_
    | refine L_powE (i := 10) (j := 6) (n := 1000000) (cpow_lit (by decide)) (by decide) ?_
    | refine L_powE (i := 10) (j := 10) (n := 10000000000) (cpow_lit (by decide)) (by decide) ?_
    | refine L_powE (i := 10) (j := 12) (n := 1000000000000) (cpow_lit (by decide)) (by decide) ?_
    | refine L_powE (i := 10) (j := 13) (n := 10000000000000) (cpow_lit (by decide)) (by decide) ?_
    | refine L_powE (i := 10) (j := 20) (n := 100000000000000000000) (cpow_lit (by decide)) (by decide) ?_
    | refine L_powE (i := 10) (j := 29) (n := 100000000000000000000000000000) (cpow_lit (by decide)) (by decide) ?_
    | refine L_powE (i := 10) (j := 30) (n := 1000000000000000000000000000000) (cpow_lit (by decide)) (by decide) ?_
    | refine L_powE (i := 10) (j := 39) (n := 1000000000000000000000000000000000000000) (cpow_lit (by decide)) (by decide) ?_
    | refine L_powE (i := 10) (j := 40) (n := 10000000000000000000000000000000000000000) (cpow_lit (by decide)) (by decide) ?_
    | refine L_powE (i := 10) (j := 60) (n := 1000000000000000000000000000000000000000000000000000000000000) (cpow_lit (by decide)) (by decide) ?_
    | refine L_powE (i := 2) (j := 3) (n := 8) (cpow_lit (by decide)) (by decide) ?_
    | refine L_powE (i := 2) (j := 40) (n := 1099511627776) (cpow_lit (by decide)) (by decide) ?_)
  | (with_reducible refine G_ix ?_; with_reducible first | refine L_ixT (by walk_at "hpT") (by with_unfolding_all rfl) ?_ | refine L_ixL (by walk_at "hpL") (by with_unfolding_all rfl) ?_)
  | (with_reducible refine G_len ?_; with_reducible first | refine L_lenL (by walk_at "hpL") ?_ | refine L_lenT (by walk_at "hpT") ?_)
  | walk_at "fd"
  | (with_reducible refine G_meth ?_; with_reducible refine L_methv (by walk_at "hp") (by with_unfolding_all rfl) ?_)
  | (with_reducible refine G_isi ?_; with_reducible first | refine L_isi (.base (.int _)) (b := true) (by decide +kernel) ?_ | refine L_isi (.base (.int _)) (b := false) (by decide +kernel) ?_)
  | (with_reducible refine G_d ?_; with_reducible first | refine L_dT (by first | assumption | omega) ?_ | refine L_dF (by first | assumption | omega) ?_)
  | (with_reducible refine G_nd ?_; with_reducible first | refine L_ndT (by first | assumption | omega) ?_ | refine L_ndF (by first | assumption | omega) ?_))
local macro_rules | `(tactic| walk_at "sa") => `(tactic| repeat walk_at "sa1")
/-! what stood stands -/
local macro_rules | `(tactic| walk_at "sm") => `(tactic| first
  | assumption
  | exact Same.refl _
  | (with_reducible apply same_upd'; assumption; walk_at "sm")
  | (with_reducible apply same_mut'; assumption; walk_at "sm")
  | (with_reducible apply same_via; assumption; walk_at "sm"))
/-! a new list or tuple: its place p, hp : H p = none, the heap behind it Hn, that all stands, what stands at p -/
local macro_rules | `(tactic| walk_at "nw") => `(tactic| (
  (refine L_new (by first | decide | exact sz_dec (by simp)) ?_)
  (intro p hp)
  (generalize hg : upd _ p _ = Hn)
  (have sn := same_newE hg hp)
  (have en := upd_at hg)
  (clear hg)))
/-! plain things as data -/
local macro_rules | `(tactic| walk_at "dpa") => `(tactic| first
  | exact .nil
  | (refine .cons (by first | exact .int _ | exact .str _ | exact .bl _ | exact .non | assumption) ?_; walk_at "dpa"))
local macro_rules | `(tactic| walk_at "nwp") => `(tactic| (
  (intro p hp)
  (generalize hg : upd _ p _ = Hn)
  (have sn := same_newE hg hp)
  (have en := upd_at hg)
  (clear hg)))

def top (i : Nat) : Stmt := PySem.Challenge.pw_fewspeak_k04_lines_refused.main.body.getD i (.Pass ⟨0, 0, 0, 0⟩)
abbrev s__law_cell : Stmt := top 23
abbrev s__law_mixed : Stmt := top 24
abbrev s_are_figures : Stmt := top 10
abbrev s_number_of : Stmt := top 11
abbrev s_is_name : Stmt := top 9
abbrev s_is_path : Stmt := top 17
abbrev s__law_names : Stmt := top 25
abbrev s__law_units : Stmt := top 26
abbrev s_path_of : Stmt := top 18
abbrev s_thing_of : Stmt := top 19
abbrev s_NoListing___init__ : Stmt := inClass (top 2) 0
abbrev s_NoPlan___init__ : Stmt := inClass (top 4) 0
abbrev s_unit_of : Stmt := top 20
abbrev s_listing_of : Stmt := top 21
abbrev s__law_line : Stmt := top 27
abbrev s__law_is_name : Stmt := top 30
abbrev s__law_is_number : Stmt := top 31
abbrev s__law_depth : Stmt := top 32
abbrev s__law_odd_word : Stmt := top 28
abbrev s__law_odd_line : Stmt := top 29
abbrev s__law_wrong_word : Stmt := top 33
abbrev s__law_due : Stmt := top 34
abbrev s__law_told : Stmt := top 35
abbrev s__law_no_units : Stmt := top 36
abbrev s_law : Stmt := top 37
theorem sc__law_cell : FnScope ["_law_script", "_law_k"] ["_law_script", "_law_k"] (defScope s__law_cell) := ⟨rfl, rfl, rfl, by decide +kernel, rfl, by decide +kernel, by decide +kernel⟩
theorem sc__law_mixed : FnScope ["_law_cell_here", "_law_k", "_law_number"] ["_law_cell_here", "_law_k"] (defScope s__law_mixed) := ⟨rfl, rfl, rfl, by decide +kernel, rfl, by decide +kernel, by decide +kernel⟩
theorem sc_are_figures : FnScope ["text", "sign"] ["text"] (defScope s_are_figures) := ⟨rfl, rfl, rfl, by decide +kernel, rfl, by decide +kernel, by decide +kernel⟩
theorem sc_number_of : FnScope ["text", "low", "high", "number"] ["text", "low", "high"] (defScope s_number_of) := ⟨rfl, rfl, rfl, by decide +kernel, rfl, by decide +kernel, by decide +kernel⟩
theorem sc_is_name : FnScope ["thing", "sign"] ["thing"] (defScope s_is_name) := ⟨rfl, rfl, rfl, by decide +kernel, rfl, by decide +kernel, by decide +kernel⟩
theorem sc_is_path : FnScope ["thing", "name"] ["thing"] (defScope s_is_path) := ⟨rfl, rfl, rfl, by decide +kernel, rfl, by decide +kernel, by decide +kernel⟩
theorem sc__law_names : FnScope ["_law_cell_here", "_law_many", "_law_letters", "_law_place", "_law_first", "_law_stem", "_law_j", "_law_names_here", "_law_k", "_law_size", "_law_sign"] ["_law_cell_here", "_law_many"] (defScope s__law_names) := ⟨rfl, rfl, rfl, by decide +kernel, rfl, by decide +kernel, by decide +kernel⟩
theorem sc__law_units : FnScope ["_law_cell_here", "_law_many", "_law_deep", "_law_names_here", "_law_units_here", "_law_k", "_law_number", "_law_value", "_law_size", "_law_turn", "_law_path", "_law_j"] ["_law_cell_here"] (defScope s__law_units) := ⟨rfl, rfl, rfl, by decide +kernel, rfl, by decide +kernel, by decide +kernel⟩
theorem sc_path_of : FnScope ["word", "path"] ["word"] (defScope s_path_of) := ⟨rfl, rfl, rfl, by decide +kernel, rfl, by decide +kernel, by decide +kernel⟩
theorem sc_thing_of : FnScope ["word", "place"] ["word", "place"] (defScope s_thing_of) := ⟨rfl, rfl, rfl, by decide +kernel, rfl, by decide +kernel, by decide +kernel⟩
theorem sc_NoListing___init__ : FnScope ["self", "line", "word"] ["self", "line", "word"] (defScope s_NoListing___init__) := ⟨rfl, rfl, rfl, by decide +kernel, rfl, by decide +kernel, by decide +kernel⟩
theorem sc_NoPlan___init__ : FnScope ["self", "place"] ["self", "place"] (defScope s_NoPlan___init__) := ⟨rfl, rfl, rfl, by decide +kernel, rfl, by decide +kernel, by decide +kernel⟩
theorem sc_unit_of : FnScope ["line", "number", "units", "words", "found", "place", "word", "thing", "unit"] ["line", "number", "units"] (defScope s_unit_of) := ⟨rfl, rfl, rfl, by decide +kernel, rfl, by decide +kernel, by decide +kernel⟩
theorem sc_listing_of : FnScope ["lines", "units", "number", "line"] ["lines"] (defScope s_listing_of) := ⟨rfl, rfl, rfl, by decide +kernel, rfl, by decide +kernel, by decide +kernel⟩
theorem sc__law_line : FnScope ["_law_unit", "_law_path"] ["_law_unit"] (defScope s__law_line) := ⟨rfl, rfl, rfl, by decide +kernel, rfl, by decide +kernel, by decide +kernel⟩
theorem sc__law_is_name : FnScope ["_law_text", "_law_sign"] ["_law_text"] (defScope s__law_is_name) := ⟨rfl, rfl, rfl, by decide +kernel, rfl, by decide +kernel, by decide +kernel⟩
theorem sc__law_is_number : FnScope ["_law_text", "_law_low", "_law_high", "_law_bare", "_law_sign"] ["_law_text", "_law_low", "_law_high"] (defScope s__law_is_number) := ⟨rfl, rfl, rfl, by decide +kernel, rfl, by decide +kernel, by decide +kernel⟩
theorem sc__law_depth : FnScope ["_law_word", "_law_names_here", "_law_name"] ["_law_word"] (defScope s__law_depth) := ⟨rfl, rfl, rfl, by decide +kernel, rfl, by decide +kernel, by decide +kernel⟩
theorem sc__law_odd_word : FnScope ["_law_words", "_law_at", "_law_number", "_law_odd", "_law_some"] ["_law_words", "_law_at", "_law_number"] (defScope s__law_odd_word) := ⟨rfl, rfl, rfl, by decide +kernel, rfl, by decide +kernel, by decide +kernel⟩
theorem sc__law_odd_line : FnScope ["_law_lines", "_law_at", "_law_cell_here", "_law_number", "_law_way", "_law_odd", "_law_words"] ["_law_lines", "_law_at", "_law_cell_here"] (defScope s__law_odd_line) := ⟨rfl, rfl, rfl, by decide +kernel, rfl, by decide +kernel, by decide +kernel⟩
theorem sc__law_wrong_word : FnScope ["_law_line_here", "_law_names_here", "_law_deep", "_law_words", "_law_at", "_law_good"] ["_law_line_here", "_law_names_here", "_law_deep"] (defScope s__law_wrong_word) := ⟨rfl, rfl, rfl, by decide +kernel, rfl, by decide +kernel, by decide +kernel⟩
theorem sc__law_due : FnScope ["_law_lines", "_law_names_here", "_law_deep", "_law_number", "_law_line_here", "_law_at", "_law_words"] ["_law_lines"] (defScope s__law_due) := ⟨rfl, rfl, rfl, by decide +kernel, rfl, by decide +kernel, by decide +kernel⟩
theorem sc__law_told : FnScope ["_law_lines", "_law_told_here", "e"] ["_law_lines"] (defScope s__law_told) := ⟨rfl, rfl, rfl, by decide +kernel, rfl, by decide +kernel, by decide +kernel⟩
theorem sc__law_no_units : FnScope ["_law_thing", "_law_error", "e"] ["_law_thing"] (defScope s__law_no_units) := ⟨rfl, rfl, rfl, by decide +kernel, rfl, by decide +kernel, by decide +kernel⟩
theorem sc_law : FnScope ["_law_script", "_law_lines", "_law_k", "_law_cell_here", "_law_spoiled", "_law_j", "_law_at", "_law_handed", "_law_thing", "_law_unit"] ["_law_script"] (defScope s_law) := ⟨rfl, rfl, rfl, by decide +kernel, rfl, by decide +kernel, by decide +kernel⟩
/-- what the top has written -/
structure Txt (K : PySem.W.Frag) (mg : Str → Option Value) : Prop where
  n_len : mg "len" = none
  g_FIGURES : ∃ u, mg "FIGURES" = some u ∧ RelV (.str "0123456789") u
  n_int : mg "int" = none
  n_isinstance : mg "isinstance" = none
  n_str : mg "str" = none
  g_LETTERS : ∃ u, mg "LETTERS" = some u ∧ RelV (.str "abcdefghijklmnopqrstuvwxyz") u
  n_tuple : mg "tuple" = none
  g_DEEPEST : ∃ u, mg "DEEPEST" = some u ∧ RelV (.int 3) u
  n_range : mg "range" = none
  g_MOST_SIZE : ∃ u, mg "MOST_SIZE" = some u ∧ RelV (.int 1000000) u
  g_MOST_VALUE : ∃ u, mg "MOST_VALUE" = some u ∧ RelV (.int 1000000000) u
  m_SpeakError : mg "SpeakError" = some (.ref (cA mg "SpeakError"))
  b_SpeakError : BaseI K (cA mg "SpeakError")
  m_NoListing : mg "NoListing" = some (.ref (cA mg "NoListing"))
  o_NoListing : OexC K (cA mg "NoListing")
  na_NoListing_line : PySem.W.findIn K (.ref (cA mg "NoListing")) "line" = some none
  na_NoListing_word : PySem.W.findIn K (.ref (cA mg "NoListing")) "word" = some none
  m_NoPlan : mg "NoPlan" = some (.ref (cA mg "NoPlan"))
  o_NoPlan : OexC K (cA mg "NoPlan")
  na_NoPlan_place : PySem.W.findIn K (.ref (cA mg "NoPlan")) "place" = some none
  n_enumerate : mg "enumerate" = none
  n_min : mg "min" = none
  n_list : mg "list" = none
  g_MOST_UNITS : ∃ u, mg "MOST_UNITS" = some u ∧ RelV (.int 24) u
  m_NoUnits : mg "NoUnits" = some (.ref (cA mg "NoUnits"))
  x_NoUnits : ExcAt K (cA mg "NoUnits")
  n_ValueError : mg "ValueError" = none
  m_NoLevel : mg "NoLevel" = some (.ref (cA mg "NoLevel"))
  y_NoListing : ExcK K (cA mg "NoListing")
  z_NoListing : L2.ExcC K (cA mg "NoListing")
  y_SpeakError : ExcK K (cA mg "SpeakError")
  n_max : mg "max" = none
  z_NoUnits : L2.ExcC K (cA mg "NoUnits")
  z_NoPlan : L2.ExcC K (cA mg "NoPlan")
  y_NoUnits : ExcK K (cA mg "NoUnits")
  y_NoPlan : ExcK K (cA mg "NoPlan")
  y_NoLevel : ExcK K (cA mg "NoLevel")
  e_NoUnits_NoUnits : PySem.W.subIn K (.ref (cA mg "NoUnits")) (.ref (cA mg "NoUnits")) = some true
  e_NoUnits_SpeakError : PySem.W.subIn K (.ref (cA mg "NoUnits")) (.ref (cA mg "SpeakError")) = some true
  e_NoUnits_NoListing : PySem.W.subIn K (.ref (cA mg "NoUnits")) (.ref (cA mg "NoListing")) = some false
  e_NoListing_NoListing : PySem.W.subIn K (.ref (cA mg "NoListing")) (.ref (cA mg "NoListing")) = some true
  e_NoListing_NoUnits : PySem.W.subIn K (.ref (cA mg "NoListing")) (.ref (cA mg "NoUnits")) = some false
  e_NoListing_NoPlan : PySem.W.subIn K (.ref (cA mg "NoListing")) (.ref (cA mg "NoPlan")) = some false
  e_NoListing_NoLevel : PySem.W.subIn K (.ref (cA mg "NoListing")) (.ref (cA mg "NoLevel")) = some false
  et_NoListing_ValueError : PySem.W.subIn K (.ref (cA mg "NoListing")) (.type "ValueError") = some true
  d__law_cell : DefAt K mg "_law_cell" s__law_cell ["_law_script", "_law_k"]
  d__law_mixed : DefAt K mg "_law_mixed" s__law_mixed ["_law_cell_here", "_law_k"]
  d_are_figures : DefAt K mg "are_figures" s_are_figures ["text"]
  d_number_of : DefAt K mg "number_of" s_number_of ["text", "low", "high"]
  d_is_name : DefAt K mg "is_name" s_is_name ["thing"]
  d_is_path : DefAt K mg "is_path" s_is_path ["thing"]
  d__law_names : DefAt K mg "_law_names" s__law_names ["_law_cell_here", "_law_many"]
  d__law_units : DefAt K mg "_law_units" s__law_units ["_law_cell_here"]
  d_path_of : DefAt K mg "path_of" s_path_of ["word"]
  d_thing_of : DefAt K mg "thing_of" s_thing_of ["word", "place"]
  xi_NoListing : XIniAt K (cA mg "NoListing") "NoListing.__init__" s_NoListing___init__ ["self", "line", "word"]
  xi_NoPlan : XIniAt K (cA mg "NoPlan") "NoPlan.__init__" s_NoPlan___init__ ["self", "place"]
  d_unit_of : DefAt K mg "unit_of" s_unit_of ["line", "number", "units"]
  d_listing_of : DefAt K mg "listing_of" s_listing_of ["lines"]
  d__law_line : DefAt K mg "_law_line" s__law_line ["_law_unit"]
  d__law_is_name : DefAt K mg "_law_is_name" s__law_is_name ["_law_text"]
  d__law_is_number : DefAt K mg "_law_is_number" s__law_is_number ["_law_text", "_law_low", "_law_high"]
  d__law_depth : DefAt K mg "_law_depth" s__law_depth ["_law_word"]
  d__law_odd_word : DefAt K mg "_law_odd_word" s__law_odd_word ["_law_words", "_law_at", "_law_number"]
  d__law_odd_line : DefAt K mg "_law_odd_line" s__law_odd_line ["_law_lines", "_law_at", "_law_cell_here"]
  d__law_wrong_word : DefAt K mg "_law_wrong_word" s__law_wrong_word ["_law_line_here", "_law_names_here", "_law_deep"]
  d__law_due : DefAt K mg "_law_due" s__law_due ["_law_lines"]
  d__law_told : DefAt K mg "_law_told" s__law_told ["_law_lines"]
  d__law_no_units : DefAt K mg "_law_no_units" s__law_no_units ["_law_thing"]
  d_law : DefAt K mg "law" s_law ["_law_script"]
section
variable {P : Program} {w : World} {K : PySem.W.Frag} {mg : Str → Option Value} {base : Heap}
def sp__law_cell (K : PySem.W.Frag) (mg : Str → Option Value) : Sp := fun vs H Q _ => match vs with | [.ref a, .int k] => ∃ ns : List Int, SqL K H a (ns.map V.int) ∧ 0 ≤ k ∧ k < 1000000 ∧ ∀ c, Q (.int c) H | _ => False
theorem q__law_cell {H : Hp} {Q : VK} {E : XK} {a : Addr} {k : Int} (q : ∃ ns : List Int, SqL K H a (ns.map V.int) ∧ 0 ≤ k ∧ k < 1000000 ∧ ∀ c, Q (.int c) H) : sp__law_cell K mg [.ref a, .int k] H Q E := q
local macro_rules | `(tactic| walk_at "op") => `(tactic| with_reducible refine q__law_cell ?_)
theorem c__law_cell (T : Txt K mg) : Cal P w K mg base 1 "_law_cell" (sp__law_cell K mg) := by
  refine T.d__law_cell.cal (k := 0) sc__law_cell (by intro vs H Q E h; unfold sp__law_cell at h; split at h <;> first | rfl | exact h.elim) fun f cdv A outer s H vs Q E hr h => ?_
  refine ⟨_, (pss_cons (ps_if (pt_cmpR op_ltA (pv 1) (pe_callB call_lenA (by rfl) T.n_len (by decide +kernel) (pa_cons (pv 0) pa_nil)) (nomark _))
    (pss_one (ps_ret (pe_ix ix_seq (pv 0) (pv 1) (fun _ _ => rfl))))
    pss_nil)
    (pss_one (ps_ret (pe_op op_addA (pe_op op_mulA pe_int (pv 1)) pe_int)))), ?_⟩
  try simp only [cxOf_K, cxOf_K', cxOf_mg, cxOf_mg']
  unfold sp__law_cell at h
  split at h
  case h_2 => exact h.elim
  rename_i a k
  rw [show L2.start ["_law_script", "_law_k"] [V.ref a, V.int k] = [some (V.ref a), some (V.int k)] from rfl]
  obtain ⟨ns, hS, hk, hk2, q⟩ := h
  walk_at "sts"
  refine L_lenL hS ?_
  walk_at "sts"
  refine L_d (fun c => ?_) (fun c => ?_)
  · walk_at "sts"
    exact L_ixL hS (atI_ints hk (by rw [List.length_map] at c; exact c)) (q _)
  · walk_at "sa"
    exact q _
def sp__law_mixed (K : PySem.W.Frag) (mg : Str → Option Value) : Sp := fun vs H Q _ => match vs with | [.int c, .int k] => 0 ≤ k ∧ k < 1000000 ∧ ∀ r, 0 ≤ r → r < 1099511627776 → Q (.int r) H | _ => False
theorem q__law_mixed {H : Hp} {Q : VK} {E : XK} {c : Int} {k : Int} (q : 0 ≤ k ∧ k < 1000000 ∧ ∀ r, 0 ≤ r → r < 1099511627776 → Q (.int r) H) : sp__law_mixed K mg [.int c, .int k] H Q E := q
local macro_rules | `(tactic| walk_at "op") => `(tactic| with_reducible refine q__law_mixed ?_)
theorem c__law_mixed (T : Txt K mg) : Cal P w K mg base 1 "_law_mixed" (sp__law_mixed K mg) := by
  refine T.d__law_mixed.cal (k := 0) sc__law_mixed (by intro vs H Q E h; unfold sp__law_mixed at h; split at h <;> first | rfl | exact h.elim) fun f cdv A outer s H vs Q E hr h => ?_
  refine ⟨_, (pss_cons (ps_if (pt_cmpR (op_eqA hr) (pe_op op_mod (pv 0) pe_int) pe_int (nomark _))
    (pss_one (ps_ret (pe_op op_mod (pe_op op_shr (pv 0) (pe_op op_addA pe_int (pe_op op_mulA pe_int (pv 1)))) (pe_op op_pow pe_int pe_int))))
    pss_nil)
    (pss_cons (ps_set (i := 2) sc__law_mixed.nd rfl (.inl rfl) (pe_op op_mod (pe_op op_addA (pv 0) (pe_op op_mulA pe_int (pv 1))) pe_int))
    (pss_cons (ps_set (i := 2) sc__law_mixed.nd rfl (.inl rfl) (pe_op op_mod (pe_op op_addA (pe_op op_mulA (pv 2) pe_int) (pv 1)) pe_int))
    (pss_cons (ps_set (i := 2) sc__law_mixed.nd rfl (.inl rfl) (pe_op op_mod (pe_op op_mulA (pv 2) (pe_op op_addA (pv 2) pe_int)) pe_int))
    (pss_one (ps_ret (pe_op op_mod (pe_op op_mulA (pv 2) (pe_op op_addA (pv 2) pe_int)) pe_int))))))), ?_⟩
  try simp only [cxOf_K, cxOf_K', cxOf_mg, cxOf_mg']
  unfold sp__law_mixed at h
  split at h
  case h_2 => exact h.elim
  rename_i c k
  rw [show L2.start ["_law_cell_here", "_law_k", "_law_number"] [V.int c, V.int k] = [some (V.int c), some (V.int k), none] from rfl]
  obtain ⟨hk, hk2, q⟩ := h
  walk_at "sts"
  refine L_I (by decide) ?_
  walk_at "sts"
  refine L_d (fun c => ?_) (fun c => ?_)
  · walk_at "sts"
    refine L_mulI ((bd_64 (by decide)).cmul (bd_64 (by omega))) ?_
    walk_at "sts"
    refine L_I (show 0 ≤ _ by omega) ?_
    walk_at "sa"
    exact q _ (Int.emod_nonneg _ (by decide)) (Int.emod_lt_of_pos _ (by decide))
  · walk_at "sa"
    exact q _ (Int.emod_nonneg _ (by decide)) (Int.lt_of_lt_of_le (Int.emod_lt_of_pos _ (by decide)) (by decide))
/-! numbers as texts -/
open PySem.NumText (AllDigits digitsVal)
def dg (m : Nat) : List Nat := (Nat.toDigits 10 m).map Char.toNat
theorem sgn_nat (m : Nat) : (Str.ofString (toString ((m : Nat) : Int))).cps.toList = dg m := PySem.W.KIN.signs_num m
theorem dg_all (m : Nat) : AllDigits (dg m) := by
  intro c hc
  obtain ⟨ch, hch, e⟩ := List.mem_map.mp hc
  have r := Nat.isDigit_of_mem_toDigits (by decide) (by decide) hch
  rw [← e]
  unfold Char.isDigit at r
  rw [Bool.and_eq_true, decide_eq_true_eq, decide_eq_true_eq] at r
  have h1 : (48 : UInt32).toNat ≤ ch.val.toNat := r.1
  have h2 : ch.val.toNat ≤ (57 : UInt32).toNat := r.2
  exact ⟨h1, h2⟩
theorem dg_val (m : Nat) : digitsVal (dg m) = m := PySem.W.KIN.val_back m
theorem dg_lt {m : Nat} (h : m < 10) : dg m = [48 + m] := by
  have : ∀ m, m < 10 → dg m = [48 + m] := by decide
  exact this m h
theorem dg_ge {m : Nat} (h : 10 ≤ m) : dg m = dg (m / 10) ++ dg (m % 10) := by
  unfold dg
  rw [← List.map_append, Nat.toDigits_append_toDigits (by decide) (by omega) (Nat.mod_lt m (by decide)), Nat.div_add_mod]
theorem dg_ne (m : Nat) : dg m ≠ [] := by
  by_cases h : m < 10
  · rw [dg_lt h]; simp
  · rw [dg_ge (by omega), dg_lt (Nat.mod_lt m (by decide))]; simp
theorem dg_len : ∀ (k m : Nat), m < 10 ^ (k + 1) → (dg m).length ≤ k + 1
  | 0, m, h => by rw [dg_lt (by simpa using h)]; simp
  | k + 1, m, h => by
    by_cases h10 : m < 10
    · rw [dg_lt h10]; simp
    · have := dg_len k (m / 10) (by rw [Nat.pow_succ] at h; omega)
      rw [dg_ge (by omega), List.length_append, dg_lt (Nat.mod_lt m (by decide)), List.length_singleton]
      omega
theorem dg_head : ∀ (m : Nat), 0 < m → ∃ c r, dg m = c :: r ∧ 49 ≤ c := by
  intro m
  induction m using Nat.strongRecOn with
  | _ m ih =>
    intro h0
    by_cases h : m < 10
    · exact ⟨48 + m, [], dg_lt h, by omega⟩
    · obtain ⟨c, r, e, hc⟩ := ih (m / 10) (by omega) (by omega)
      exact ⟨c, r ++ dg (m % 10), by rw [dg_ge (by omega), e]; rfl, hc⟩
theorem ofNat_toNat {c : Nat} (h : c ≤ 57) : (Char.ofNat c).toNat = c := by
  have : ∀ c, c < 58 → (Char.ofNat c).toNat = c := by decide
  exact this c (by omega)
/-- digits without a nought ahead are a number's own -/
theorem dg_canon {cs : List Nat} (h : AllDigits cs) (hh : cs.length = 1 ∨ ∃ c r, cs = c :: r ∧ 49 ≤ c) : dg (digitsVal cs) = cs := by
  have hl : cs.length = (cs.length - 1) + 1 := by
    rcases hh with h | ⟨c, r, rfl, _⟩
    · omega
    · rw [List.length_cons]; omega
  have := PySem.NumText.toDigits_digitsVal (cs.length - 1) cs hl h (by
    rcases hh with h | h
    · exact .inl (by omega)
    · exact .inr h)
  unfold dg
  rw [this, List.map_map]
  refine (List.map_congr_left fun c hc => ?_).trans (List.map_id _)
  exact ofNat_toNat (h c hc).2
theorem sgn_neg {m : Nat} (h : 0 < m) : (Str.ofString (toString (0 - (m : Int)))).cps.toList = 45 :: dg m := by
  obtain ⟨k, rfl⟩ : ∃ k, m = k + 1 := ⟨m - 1, by omega⟩
  have e : (0 : Int) - ((k + 1 : Nat) : Int) = Int.negSucc k := by omega
  rw [e]
  show (Str.ofString ("-" ++ Nat.repr (k + 1))).cps.toList = _
  rw [signs_ofString]
  show ("-" ++ Nat.repr (k + 1)).toList.map Char.toNat = _
  rw [String.toList_append, List.map_append, Nat.toList_repr]
  rfl
def isFig (c : Nat) : Bool := decide (48 ≤ c ∧ c ≤ 57)
/-- a number without a sign, written plainly -/
def figs (cs : List Nat) : Bool := decide (1 ≤ cs.length ∧ cs.length ≤ 12) && (!(decide (cs.head? = some 48) && decide (1 < cs.length)) && cs.all isFig)
def num (cs : List Nat) : Option Int := if cs.head? = some 45 then (if figs cs.tail = true ∧ cs.tail ≠ [48] then some (0 - ((digitsVal cs.tail : Nat) : Int)) else none) else if figs cs = true then some ((digitsVal cs : Nat) : Int) else none
theorem all_figs {cs : List Nat} : cs.all isFig = true ↔ AllDigits cs := by
  rw [List.all_eq_true]
  unfold isFig AllDigits
  simp only [decide_eq_true_eq]
theorem figs_iff {cs : List Nat} : figs cs = true ↔ 1 ≤ cs.length ∧ cs.length ≤ 12 ∧ AllDigits cs ∧ dg (digitsVal cs) = cs := by
  unfold figs
  rw [Bool.and_eq_true, Bool.and_eq_true, all_figs, decide_eq_true_eq, Bool.not_eq_true', Bool.and_eq_false_iff, decide_eq_false_iff_not, decide_eq_false_iff_not]
  constructor
  · rintro ⟨⟨h1, h2⟩, h3, h4⟩
    refine ⟨h1, h2, h4, dg_canon h4 ?_⟩
    rcases h3 with h3 | h3
    · cases cs with
      | nil => simp at h1
      | cons c r =>
        have := h4.head
        refine .inr ⟨c, r, rfl, ?_⟩
        have : c ≠ 48 := fun z => h3 (by rw [z]; rfl)
        omega
    · exact .inl (by omega)
  · rintro ⟨h1, h2, h3, h4⟩
    refine ⟨⟨h1, h2⟩, ?_, h3⟩
    by_cases hz : digitsVal cs = 0
    · rw [hz, dg_lt (by decide)] at h4
      right
      rw [← h4]
      simp
    · obtain ⟨c, r, e, hc⟩ := dg_head (digitsVal cs) (by omega)
      rw [h4] at e
      left
      rw [e]
      simp
      omega
/-- what the law reads: the number whose text it is -/
def lread (cs : List Nat) : Option Int :=
  let bare := if cs.head? = some 45 then cs.tail else cs
  if bare = [] ∨ 12 < bare.length ∨ bare.all isFig = false then none
  else
    let v : Int := if bare = cs then ((digitsVal bare : Nat) : Int) else 0 - ((digitsVal bare : Nat) : Int)
    if (Str.ofString (toString v)).cps.toList = cs then some v else none
theorem lread_num (cs : List Nat) : lread cs = num cs := by
  unfold lread num
  by_cases h : cs.head? = some 45
  · rw [if_pos h, if_pos h]
    obtain ⟨r, rfl⟩ : ∃ r, cs = 45 :: r := by
      cases cs with
      | nil => simp at h
      | cons c r => simp at h; exact ⟨r, by rw [h]⟩
    dsimp only
    rw [List.tail_cons]
    have hne : ¬ r = 45 :: r := fun z => by have := congrArg List.length z; simp at this
    by_cases hb : r = [] ∨ 12 < r.length ∨ r.all isFig = false
    · rw [if_pos hb, if_neg]
      rintro ⟨z, _⟩
      obtain ⟨z1, z2, z3, _⟩ := figs_iff.mp z
      rcases hb with hb | hb | hb
      · rw [hb] at z1; simp at z1
      · omega
      · rw [all_figs.mpr z3] at hb; cases hb
    · rw [if_neg hb, if_neg hne]
      obtain ⟨b1, b2, b3⟩ : r ≠ [] ∧ r.length ≤ 12 ∧ AllDigits r := ⟨fun z => hb (.inl z), Nat.le_of_not_lt fun z => hb (.inr (.inl z)), all_figs.mp (by cases e : List.all _ isFig with | true => rfl | false => exact absurd (.inr (.inr e)) hb)⟩
      have b4 : 1 ≤ r.length := List.length_pos_iff.mpr b1
      by_cases hz : digitsVal r = 0
      · rw [hz, if_neg, if_neg]
        · rintro ⟨z, z2⟩
          have := (figs_iff.mp z).2.2.2
          rw [hz, dg_lt (by decide)] at this
          exact z2 this.symm
        · have : (Str.ofString (toString (0 - ((0 : Nat) : Int)))).cps.toList = [48] := by decide +kernel
          rw [this]
          intro z
          cases z
      · rw [sgn_neg (by omega)]
        by_cases hd : dg (digitsVal r) = r
        · rw [if_pos (by rw [hd]), if_pos]
          refine ⟨figs_iff.mpr ⟨b4, b2, b3, hd⟩, fun z => hz ?_⟩
          rw [z]; rfl
        · rw [if_neg, if_neg]
          · exact fun z => hd (figs_iff.mp z.1).2.2.2
          · exact fun z => hd (List.cons.inj z).2
  · rw [if_neg h, if_neg h]
    dsimp only
    rw [if_pos rfl]
    by_cases hb : cs = [] ∨ 12 < cs.length ∨ cs.all isFig = false
    · rw [if_pos hb, if_neg]
      intro z
      obtain ⟨z1, z2, z3, _⟩ := figs_iff.mp z
      rcases hb with hb | hb | hb
      · rw [hb] at z1; simp at z1
      · omega
      · rw [all_figs.mpr z3] at hb; cases hb
    · rw [if_neg hb]
      obtain ⟨b1, b2, b3⟩ : cs ≠ [] ∧ cs.length ≤ 12 ∧ AllDigits cs := ⟨fun z => hb (.inl z), Nat.le_of_not_lt fun z => hb (.inr (.inl z)), all_figs.mp (by cases e : List.all _ isFig with | true => rfl | false => exact absurd (.inr (.inr e)) hb)⟩
      have b4 : 1 ≤ cs.length := List.length_pos_iff.mpr b1
      rw [sgn_nat]
      by_cases hd : dg (digitsVal cs) = cs
      · rw [if_pos hd, if_pos (figs_iff.mpr ⟨b4, b2, b3, hd⟩)]
      · rw [if_neg hd, if_neg fun z => hd (figs_iff.mp z).2.2.2]
theorem val_lt : ∀ (cs : List Nat) (a : Nat), AllDigits cs → cs.foldl (fun acc c => acc * 10 + (c - 48)) a < (a + 1) * 10 ^ cs.length
  | [], a, _ => by simp
  | c :: cs, a, h => by
    have ih := val_lt cs (a * 10 + (c - 48)) h.tail
    have hc := h.head
    rw [List.foldl_cons, List.length_cons, Nat.pow_succ]
    refine Nat.lt_of_lt_of_le ih ?_
    have : a * 10 + (c - 48) + 1 ≤ (a + 1) * 10 := by omega
    calc (a * 10 + (c - 48) + 1) * 10 ^ cs.length ≤ (a + 1) * 10 * 10 ^ cs.length := Nat.mul_le_mul_right _ this
      _ = (a + 1) * (10 ^ cs.length * 10) := by rw [Nat.mul_assoc, Nat.mul_comm 10]
theorem dv_lt {cs : List Nat} (h : AllDigits cs) {n : Nat} (hl : cs.length ≤ n) : digitsVal cs < 10 ^ n := by
  have := val_lt cs 0 h
  rw [Nat.zero_add, Nat.one_mul] at this
  exact Nat.lt_of_lt_of_le this (Nat.pow_le_pow_right (by decide) hl)
theorem num_bd {cs : List Nat} {n : Int} (h : num cs = some n) : -1000000000000 < n ∧ n < 1000000000000 := by
  unfold num at h
  split at h
  · split at h
    · rename_i hf
      obtain ⟨h1, h2, h3, _⟩ := figs_iff.mp hf.1
      have := dv_lt h3 h2
      have h := Option.some.inj h
      have e : (10 : Nat) ^ 12 = 1000000000000 := by decide
      omega
    · cases h
  · split at h
    · rename_i hf
      obtain ⟨h1, h2, h3, _⟩ := figs_iff.mp hf
      have := dv_lt h3 h2
      have h := Option.some.inj h
      have e : (10 : Nat) ^ 12 = 1000000000000 := by decide
      omega
    · cases h
def optV : Option Int → V
  | none => .non
  | some n => .int n
def within (lo hi : Int) (o : Option Int) : Option Int := o.bind fun n => if lo ≤ n ∧ n ≤ hi then some n else none
theorem figures_is : (Str.ofString "0123456789").cps.toList = List.range' 48 10 := by decide +kernel
theorem mem_figures {c : Nat} : c ∈ (Str.ofString "0123456789").cps.toList ↔ 48 ≤ c ∧ c ≤ 57 := by
  rw [figures_is, List.mem_range'_1]
  omega
theorem str1_eq {a b : Nat} : (⟨#[a]⟩ : Str) = ⟨#[b]⟩ ↔ a = b := by
  constructor
  · intro h
    have := congrArg (fun z : Str => z.cps.toList) h
    simpa using this
  · rintro rfl; rfl
theorem L_tyS {K : PySem.W.Frag} {H : Hp} {z : Str} {R : Prop} (q : R) : tyV K "str" (.str z) H ∧ R := ⟨rfl, q⟩
theorem starts1 {z : Str} : Txt.startswith z "-" = decide (z.cps.toList.head? = some 45) := by
  unfold Txt.startswith Builtin.Str.subAt
  have hl : z.length = z.cps.toList.length := by rw [Array.length_toList]; rfl
  rw [show (Str.ofString "-").length = 1 from rfl, show (Str.ofString "-").cps = #[45] from rfl, hl]
  have he : z.cps.extract 0 (0 + 1) = (z.cps.toList.take 1).toArray := by
    rw [← Array.toList_inj, Array.toList_extract]
    simp
  rw [he]
  cases z.cps.toList with
  | nil => rfl
  | cons c r =>
    rw [show (c :: r).take 1 = [c] from rfl]
    by_cases h : c = 45
    · subst h
      simp
    · have h2 : ¬ (some c = some 45) := fun z => h (Option.some.inj z)
      rw [List.head?_cons, decide_eq_false h2]
      have : (([c] : List Nat).toArray == #[45]) = false := by
        rw [beq_eq_false_iff_ne]
        intro z
        have := congrArg Array.toList z
        simp at this
        exact h this
      rw [this, Bool.and_false]
theorem cut_tail {z : Str} : (cutS z (some 1) none).cps.toList = z.cps.toList.tail := by
  unfold cutS
  have hl : z.length = z.cps.toList.length := by rw [Array.length_toList]; rfl
  rw [HT.sIx_none, show (some (1 : Int)) = some ((1 : Nat) : Int) from rfl, HT.sIx_nat, hl]
  cases z.cps.toList with
  | nil => rfl
  | cons c r =>
    rw [List.length_cons, Nat.min_eq_left (by omega)]
    simp
theorem cut_len (z : Str) (lo hi : Option Int) : (cutS z lo hi).length ≤ z.length := by
  have h1 : (cutS z lo hi).length = (cutS z lo hi).cps.toList.length := by rw [Array.length_toList]; rfl
  have h2 : z.length = z.cps.toList.length := by rw [Array.length_toList]; rfl
  rw [h1, h2]
  unfold cutS
  rw [List.toList_toArray, List.length_take, List.length_drop]
  omega
theorem cut_mem {z : Str} {lo hi : Option Int} {c : Nat} (h : c ∈ (cutS z lo hi).cps.toList) : c ∈ z.cps.toList := by
  unfold cutS at h
  rw [List.toList_toArray] at h
  exact List.mem_of_mem_drop (List.mem_of_mem_take h)
def sp_are_figures (K : PySem.W.Frag) (mg : Str → Option Value) : Sp := fun vs H Q _ => match vs with | [.str z] => z.length ≤ 1000 ∧ Q (.bl (figs z.cps.toList)) H | _ => False
theorem q_are_figures {H : Hp} {Q : VK} {E : XK} {z : Str} (q : z.length ≤ 1000 ∧ Q (.bl (figs z.cps.toList)) H) : sp_are_figures K mg [.str z] H Q E := q
local macro_rules | `(tactic| walk_at "op") => `(tactic| with_reducible refine q_are_figures ?_)
theorem c_are_figures (T : Txt K mg) : Cal P w K mg base 1 "are_figures" (sp_are_figures K mg) := by
  refine T.d_are_figures.cal (k := 0) sc_are_figures (by intro vs H Q E h; unfold sp_are_figures at h; split at h <;> first | rfl | exact h.elim) fun f cdv A outer s H vs Q E hr h => ?_
  refine ⟨_, (pss_cons (ps_if (PW.pt (pw_or (pt_not (pt_chain op_leA op_leA pe_int (pe_callB call_lenA (by rfl) T.n_len (by decide +kernel) (pa_cons (pv 0) pa_nil)) pe_int)) (pw_or1 (PW.pt (pw_and (pt_cmpR (op_eqA hr) (pe_ix ix_seq (pv 0) pe_int (fun _ _ => rfl)) pe_str (nomark _)) (pw_and1 (pt_cmpR op_gt (pe_callB call_lenA (by rfl) T.n_len (by decide +kernel) (pa_cons (pv 0) pa_nil)) pe_int (nomark _))))))))
    (pss_one (ps_ret pe_bl))
    pss_nil)
    (pss_cons (ps_for PassesOwn.never rfl (pi_str (pv 0)) (pg_name (i := 1) sc_are_figures.nd rfl (.inl rfl))
    (pss_one (ps_if (pt_cmpR op_notInA (pv 1) (pe_gc (by rfl) T.g_FIGURES) (by rfl))
    (pss_one (ps_ret pe_bl))
    pss_nil)))
    (pss_one (ps_ret pe_bl)))), ?_⟩
  try simp only [cxOf_K, cxOf_K', cxOf_mg, cxOf_mg']
  unfold sp_are_figures at h
  split at h
  case h_2 => exact h.elim
  rename_i z
  rw [show L2.start ["text", "sign"] [V.str z] = [some (V.str z), none] from rfl]
  obtain ⟨hz, q⟩ := h
  have hl : z.length = z.cps.toList.length := str_len.symm
  walk_at "sts"
  refine L_lenS (sz_dec (by omega)) ?_
  walk_at "sts"
  have hF1 : ¬ (1 ≤ z.cps.toList.length ∧ z.cps.toList.length ≤ 12) → figs z.cps.toList = false := fun h => by unfold figs; rw [decide_eq_false h, Bool.false_and]
  refine L_d (fun c1 => ?_) (fun c1 => ?_)
  · walk_at "sts"
    refine L_nd (fun c2 => ?_) (fun c2 => ?_)
    · rw [hF1 (by omega)] at q
      walk_at "sts"
      exact q
    · obtain ⟨a, r, ha⟩ : ∃ a r, z.cps.toList = a :: r := by
        cases e : z.cps.toList with
        | nil => rw [e] at hl; simp at hl; omega
        | cons a r => exact ⟨a, r, rfl⟩
      walk_at "sts"
      refine L_ixS (sz_dec (by omega)) (a := a) (by rw [ha]; exact atI_nat (j := 0) rfl) ?_
      walk_at "sts"
      have loop : ¬ (a = 48 ∧ 1 < z.length) → figs z.cps.toList = z.cps.toList.all isFig := fun h => by
        unfold figs
        rw [decide_eq_true (show 1 ≤ z.cps.toList.length ∧ z.cps.toList.length ≤ 12 by omega), Bool.true_and]
        have : (decide (z.cps.toList.head? = some 48) && decide (1 < z.cps.toList.length)) = false := by
          rw [Bool.and_eq_false_iff, decide_eq_false_iff_not, decide_eq_false_iff_not, ha]
          by_cases h48 : a = 48
          · right
            rw [← ha, ← hl]
            exact fun z => h ⟨h48, z⟩
          · left
            exact fun z => h48 (Option.some.inj z)
        rw [this]
        rfl
      have body : ∀ (N : L2.St → Hp → Prop) (v : Option V), (∀ v', z.cps.toList.all isFig = true → N [some (.str z), v'] H) → (z.cps.toList.all isFig = false → Q (.bl false) H) → ForT (Its z) [some (.str z), v] H (gName 1) (tIfS (tTest (tOp (aNotIn K) (tVar 1) (tC (.str "0123456789")))) (tRet (tC (.bl false))) tNext) N Q := fun N v h1 h2 => by
        refine f_it walk_str (fun i σ' H' => (∃ v, σ' = [some (.str z), v]) ∧ H' = H ∧ (z.cps.toList.take i).all isFig = true) ⟨⟨_, rfl⟩, rfl, rfl⟩ (fun _ _ _ _ _ => True.intro) ?_ ?_
        · rintro i x σ' H' H'' hi ⟨⟨v, rfl⟩, rfl, hall⟩ ⟨rfl, c, hc, rfl⟩
          have hc' : z.cps.toList[i]? = some c := by rw [Array.getElem?_toList]; exact hc
          walk_at "sts"
          refine L_nd (fun c3 => ?_) (fun c3 => ?_)
          · walk_at "sts"
            refine h2 ?_
            rw [List.all_eq_false]
            exact ⟨c, List.mem_of_getElem? hc', fun h => c3 (mem_figures.mpr (of_decide_eq_true h))⟩
          · walk_at "sts"
            refine ⟨⟨_, rfl⟩, rfl, ?_⟩
            rw [List.take_succ, hc', List.all_append, hall]
            have : isFig c = true := decide_eq_true (mem_figures.mp c3)
            simp [this]
        · rintro σ' H' ⟨⟨v, rfl⟩, rfl, hall⟩
          rw [List.take_of_length_le (by rw [Array.length_toList]; exact Nat.le_refl _)] at hall
          exact h1 _ hall
      refine L_d (fun c4 => ?_) (fun c4 => ?_)
      · have c4 : a = 48 := str1_eq.mp c4
        walk_at "sts"
        refine L_lenS (sz_dec (by omega)) ?_
        walk_at "sts"
        refine L_d (fun c5 => ?_) (fun c5 => ?_)
        · walk_at "sts"
          rw [show figs z.cps.toList = false by
            unfold figs
            rw [ha, List.head?_cons, c4, decide_eq_true (show some 48 = some 48 from rfl), Bool.true_and, ← c4, ← ha, ← hl, decide_eq_true (show 1 < z.length by omega)]
            simp] at q
          exact q
        · have hz2 := loop (by omega)
          rw [hz2] at q
          walk_at "sts"
          refine L_rs ?_
          exact body _ _ (fun v' h => by walk_at "sts"; rw [h] at q; exact q) (fun h => by rw [h] at q; exact q)
      · have c4 : ¬ a = 48 := fun z => c4 (str1_eq.mpr z)
        have hz2 := loop (by omega)
        rw [hz2] at q
        walk_at "sts"
        refine L_rs ?_
        exact body _ _ (fun v' h => by walk_at "sts"; rw [h] at q; exact q) (fun h => by rw [h] at q; exact q)
  · rw [hF1 (by omega)] at q
    walk_at "sts"
    exact q
def sp_number_of (K : PySem.W.Frag) (mg : Str → Option Value) : Sp := fun vs H Q _ => match vs with | [.str z, .int lo, .int hi] => z.length ≤ 1000 ∧ Q (optV (within lo hi (num z.cps.toList))) H | _ => False
theorem q_number_of {H : Hp} {Q : VK} {E : XK} {z : Str} {lo : Int} {hi : Int} (q : z.length ≤ 1000 ∧ Q (optV (within lo hi (num z.cps.toList))) H) : sp_number_of K mg [.str z, .int lo, .int hi] H Q E := q
local macro_rules | `(tactic| walk_at "op") => `(tactic| with_reducible refine q_number_of ?_)
theorem c_number_of (T : Txt K mg) : Cal P w K mg base 2 "number_of" (sp_number_of K mg) := by
  refine T.d_number_of.cal (k := 1) sc_number_of (by intro vs H Q E h; unfold sp_number_of at h; split at h <;> first | rfl | exact h.elim) fun f cdv A outer s H vs Q E hr h => ?_
  refine ⟨_, (pss_cons (ps_if (pt_val (pe_bm PySem.F.plainAttrs_str PySem.F.slot_str_startswith PySem.F.type_str_startswith mt_startswith (pv 0) (pa_cons pe_str pa_nil)))
    (pss_cons (ps_if (PW.pt (pw_or (pt_not (pt_val (pe_c (c_are_figures T) hr (by decide) (by rfl) (pa_cons (pe_slice sl_str (pv 0) (po_some pe_int) po_none) pa_nil)))) (pw_or1 (pt_cmpR (op_eqA hr) (pv 0) pe_str (nomark _)))))
    (pss_one (ps_ret pe_non))
    pss_nil)
    (pss_one (ps_set (i := 3) sc_number_of.nd rfl (.inl rfl) (pe_op op_sub pe_int (pe_callTy call_int_str (by rfl) T.n_int (by decide +kernel) (pa_cons (pe_slice sl_str (pv 0) (po_some pe_int) po_none) pa_nil))))))
    (pss_one (ps_if (pt_val (pe_c (c_are_figures T) hr (by decide) (by rfl) (pa_cons (pv 0) pa_nil)))
    (pss_one (ps_set (i := 3) sc_number_of.nd rfl (.inl rfl) (pe_callTy call_int_str (by rfl) T.n_int (by decide +kernel) (pa_cons (pv 0) pa_nil))))
    (pss_one (ps_ret pe_non)))))
    (pss_cons (ps_if (pt_not (pt_chain op_leA op_leA (pv 1) (pv 3) (pv 2)))
    (pss_one (ps_ret pe_non))
    pss_nil)
    (pss_one (ps_ret (pv 3))))), ?_⟩
  try simp only [cxOf_K, cxOf_K', cxOf_mg, cxOf_mg']
  unfold sp_number_of at h
  split at h
  case h_2 => exact h.elim
  rename_i z lo hi
  rw [show L2.start ["text", "low", "high", "number"] [V.str z, V.int lo, V.int hi] = [some (V.str z), some (V.int lo), some (V.int hi), none] from rfl]
  obtain ⟨hz, q⟩ := h
  have fin : ∀ n : Int, num z.cps.toList = some n → Q (optV (if lo ≤ n ∧ n ≤ hi then some n else none)) H := fun n h => by
    rw [h] at q
    exact q
  walk_at "sts"
  refine L_tyS ?_
  walk_at "sts"
  refine ⟨z, _, rfl, rfl, ?_⟩
  rw [starts1]
  walk_at "sts"
  refine L_d (fun c1 => ?_) (fun c1 => ?_)
  · have hn : num z.cps.toList = if figs z.cps.toList.tail = true ∧ z.cps.toList.tail ≠ [48] then some (0 - ((digitsVal z.cps.toList.tail : Nat) : Int)) else none := if_pos c1
    walk_at "sts"
    refine ⟨z, rfl, sz_dec (by omega), ?_⟩
    have hcl := cut_len z (some 1) none
    walk_at "sts"
    refine ⟨by omega, ?_⟩
    rw [cut_tail]
    have htl : (cutS z (some 1) none).length = z.cps.toList.tail.length := by rw [← str_len, cut_tail]
    cases hf : figs z.cps.toList.tail with
    | false =>
      rw [hf, if_neg (fun z => nomatch z.1)] at hn
      rw [hn] at q
      walk_at "sts"
      exact q
    | true =>
      obtain ⟨f1, f2, f3, f4⟩ := figs_iff.mp hf
      walk_at "sts"
      have hz0 : z = ("-0" : Str) ↔ z.cps.toList.tail = [48] := by
        constructor
        · rintro rfl; rfl
        · intro h
          obtain ⟨r, hr⟩ : ∃ r, z.cps.toList = 45 :: r := by
            cases e : z.cps.toList with
            | nil => rw [e] at c1; cases c1
            | cons c r => rw [e] at c1; exact ⟨r, by rw [Option.some.inj c1]⟩
          rw [hr] at h
          have h : r = [48] := h
          rw [h] at hr
          have : z.cps = #[45, 48] := by rw [← Array.toList_inj]; exact hr
          cases z
          cases this
          rfl
      refine L_d (fun c3 => ?_) (fun c3 => ?_)
      · rw [if_neg (fun z => z.2 (hz0.mp c3))] at hn
        rw [hn] at q
        walk_at "sts"
        exact q
      · rw [if_pos ⟨hf, fun z => c3 (hz0.mpr z)⟩] at hn
        have fq := fin _ hn
        walk_at "sts"
        refine ⟨z, rfl, sz_dec (by omega), ?_⟩
        walk_at "sts"
        refine ⟨_, ((digitsVal z.cps.toList.tail : Nat) : Int), rfl, ?_, by omega, ?_⟩
        · rw [PySem.intText_digits (by rw [cut_tail]; exact f3) (by rw [cut_tail]; exact List.ne_nil_of_length_pos f1) (by omega), cut_tail]
        walk_at "sts"
        refine L_d (fun d1 => ?_) (fun d1 => ?_)
        · walk_at "sts"
          refine L_nd (fun d2 => ?_) (fun d2 => ?_)
          · rw [if_neg fun z => d2 z.2] at fq
            walk_at "sts"
            exact fq
          · rw [if_pos ⟨d1, d2⟩] at fq
            walk_at "sts"
            exact fq
        · rw [if_neg fun z => d1 z.1] at fq
          walk_at "sts"
          exact fq
  · have hn : num z.cps.toList = if figs z.cps.toList = true then some ((digitsVal z.cps.toList : Nat) : Int) else none := if_neg c1
    have hl : z.length = z.cps.toList.length := str_len.symm
    walk_at "sts"
    refine ⟨by omega, ?_⟩
    cases hf : figs z.cps.toList with
    | false =>
      rw [hf, if_neg Bool.false_ne_true] at hn
      rw [hn] at q
      walk_at "sts"
      exact q
    | true =>
      obtain ⟨f1, f2, f3, f4⟩ := figs_iff.mp hf
      rw [if_pos hf] at hn
      have fq := fin _ hn
      walk_at "sts"
      refine ⟨_, ((digitsVal z.cps.toList : Nat) : Int), rfl, ?_, by omega, ?_⟩
      · exact PySem.intText_digits f3 (List.ne_nil_of_length_pos f1) (by omega)
      walk_at "sts"
      refine L_d (fun d1 => ?_) (fun d1 => ?_)
      · walk_at "sts"
        refine L_nd (fun d2 => ?_) (fun d2 => ?_)
        · rw [if_neg fun z => d2 z.2] at fq
          walk_at "sts"
          exact fq
        · rw [if_pos ⟨d1, d2⟩] at fq
          walk_at "sts"
          exact fq
      · rw [if_neg fun z => d1 z.1] at fq
        walk_at "sts"
        exact fq
/-- a name: one to eight small letters -/
def isName (z : Str) : Bool := decide (1 ≤ z.length ∧ z.length ≤ 8) && z.cps.toList.all fun c => decide (97 ≤ c ∧ c ≤ 122)
theorem letters_is : (Str.ofString "abcdefghijklmnopqrstuvwxyz").cps.toList = List.range' 97 26 := by decide +kernel
theorem mem_letters {c : Nat} : c ∈ (Str.ofString "abcdefghijklmnopqrstuvwxyz").cps.toList ↔ 97 ≤ c ∧ c ≤ 122 := by
  rw [letters_is, List.mem_range'_1]
  omega
def sp_is_name (K : PySem.W.Frag) (mg : Str → Option Value) : Sp := fun vs H Q _ => match vs with | [v] => (∃ z : Str, v = .str z ∧ z.length ≤ 1000000 ∧ Q (.bl (isName z)) H) ∨ (NotS K H v ∧ Q (.bl false) H) | _ => False
theorem c_is_name (T : Txt K mg) : Cal P w K mg base 1 "is_name" (sp_is_name K mg) := by
  refine T.d_is_name.cal (k := 0) sc_is_name (by intro vs H Q E h; unfold sp_is_name at h; split at h <;> first | rfl | exact h.elim) fun f cdv A outer s H vs Q E hr h => ?_
  refine ⟨_, (pss_cons (ps_if (PW.pt (pw_or (pt_not (pt_val (pe_callB call_isi (by rfl) T.n_isinstance (by decide +kernel) (pa_cons (pv 0) (pa_cons (pe_ty "str" (by rfl) T.n_str (by decide +kernel)) pa_nil))))) (pw_or1 (pt_not (pt_chain op_leA op_leA pe_int (pe_callB call_lenA (by rfl) T.n_len (by decide +kernel) (pa_cons (pv 0) pa_nil)) pe_int)))))
    (pss_one (ps_ret pe_bl))
    pss_nil)
    (pss_cons (ps_for PassesOwn.never rfl (pi_str (pv 0)) (pg_name (i := 1) sc_is_name.nd rfl (.inl rfl))
    (pss_one (ps_if (pt_cmpR op_notInA (pv 1) (pe_gc (by rfl) T.g_LETTERS) (by rfl))
    (pss_one (ps_ret pe_bl))
    pss_nil)))
    (pss_one (ps_ret pe_bl)))), ?_⟩
  try simp only [cxOf_K, cxOf_K', cxOf_mg, cxOf_mg']
  unfold sp_is_name at h
  split at h
  case h_2 => exact h.elim
  rename_i v
  rw [show L2.start ["thing", "sign"] [v] = [some (v), none] from rfl]
  rcases h with ⟨z, rfl, hz, q⟩ | ⟨⟨ty, h1, h2⟩, q⟩
  · unfold isName at q
    walk_at "sts"
    refine L_isi (.base (.str z)) (b := true) (by decide +kernel) ?_
    walk_at "sts"
    refine L_lenS (sz_dec hz) ?_
    walk_at "sts"
    refine L_d (fun c1 => ?_) (fun c1 => ?_)
    · walk_at "sts"
      refine L_nd (fun c2 => ?_) (fun c2 => ?_)
      · rw [decide_eq_false (show ¬ (1 ≤ z.length ∧ z.length ≤ 8) by omega), Bool.false_and] at q
        walk_at "sts"
        exact q
      · rw [decide_eq_true (show (1 ≤ z.length ∧ z.length ≤ 8) by omega), Bool.true_and] at q
        walk_at "sts"
        refine L_rs ?_
        refine f_it walk_str (fun i σ' H' => (∃ v, σ' = [some (.str z), v]) ∧ H' = H ∧ (z.cps.toList.take i).all (fun c => decide (97 ≤ c ∧ c ≤ 122)) = true) ⟨⟨_, rfl⟩, rfl, rfl⟩ (fun _ _ _ _ _ => True.intro) ?_ ?_
        · rintro i x σ' H' H'' hi ⟨⟨v, rfl⟩, rfl, hall⟩ ⟨rfl, c, hc, rfl⟩
          have hc' : z.cps.toList[i]? = some c := by rw [Array.getElem?_toList]; exact hc
          walk_at "sts"
          refine L_nd (fun c3 => ?_) (fun c3 => ?_)
          · walk_at "sts"
            rw [show (z.cps.toList.all fun c => decide (97 ≤ c ∧ c ≤ 122)) = false from ?_] at q
            · exact q
            · rw [List.all_eq_false]
              exact ⟨c, List.mem_of_getElem? hc', by simpa using fun h => Nat.lt_of_not_le fun h' => c3 (mem_letters.mpr ⟨h, h'⟩)⟩
          · walk_at "sts"
            refine ⟨⟨_, rfl⟩, rfl, ?_⟩
            rw [List.take_succ, hc', List.all_append, hall]
            simpa using mem_letters.mp c3
        · rintro σ' H' ⟨⟨v, rfl⟩, rfl, hall⟩
          rw [List.take_of_length_le (by rw [Array.length_toList]; exact Nat.le_refl _)] at hall
          rw [hall] at q
          walk_at "sts"
          exact q
    · rw [decide_eq_false (show ¬ (1 ≤ z.length ∧ z.length ≤ 8) by omega), Bool.false_and] at q
      walk_at "sts"
      exact q
  · walk_at "sts"
    refine L_isi h1 h2 ?_
    walk_at "sts"
    exact q
theorem q_nameS {H : Hp} {Q : VK} {E : XK} {z : Str} (h : z.length ≤ 1000000) (q : Q (.bl (isName z)) H) : sp_is_name K mg [.str z] H Q E := .inl ⟨z, rfl, h, q⟩
theorem q_nameN {H : Hp} {Q : VK} {E : XK} {v : V} (h : NotS K H v) (q : Q (.bl false) H) : sp_is_name K mg [v] H Q E := .inr ⟨h, q⟩

/-! what are units: each thing judged -/
def NotT (K : PySem.W.Frag) (H : Hp) (v : V) : Prop := ∃ a, TyX K H v (.type a) ∧ kitB a "tuple" = some false
theorem nott_lst {K : PySem.W.Frag} {H : Hp} {a : Addr} {xs : List V} (h : SqL K H a xs) : NotT K H (.ref a) := ⟨_, tyx_L h, by decide +kernel⟩
theorem nott_non {K : PySem.W.Frag} {H : Hp} : NotT K H .non := ⟨_, .base .non, by decide +kernel⟩
theorem nott_int {K : PySem.W.Frag} {H : Hp} {i : Int} : NotT K H (.int i) := ⟨_, .base (.int i), by decide +kernel⟩
theorem nott_str {K : PySem.W.Frag} {H : Hp} {i : Str} : NotT K H (.str i) := ⟨_, .base (.str i), by decide +kernel⟩
theorem pd_len {α β : Type} {F : α → β → Prop} : ∀ {xs : List α} {ys : List β}, Paired F xs ys → xs.length = ys.length
  | _, _, .nil => rfl
  | _, _, .cons _ t => congrArg (· + 1) (pd_len t)
theorem NotT.same {K : PySem.W.Frag} {H H' : Hp} {v : V} (h : NotT K H v) (e : Same H H') : NotT K H' v := by
  obtain ⟨a, h1, h2⟩ := h
  exact ⟨a, TyX_same e h1, h2⟩
/-- a thing, and whether it is a name -/
def JN (K : PySem.W.Frag) (H : Hp) (v : V) (b : Bool) : Prop := (∃ z : Str, v = .str z ∧ z.length ≤ 1000000 ∧ isName z = b) ∨ (NotS K H v ∧ b = false)
theorem JN.same {K : PySem.W.Frag} {H H' : Hp} {v : V} {b : Bool} (h : JN K H v b) (e : Same H H') : JN K H' v b := by
  rcases h with h | ⟨h, hb⟩
  · exact .inl h
  · exact .inr ⟨h.same e, hb⟩
/-- a thing, and whether it is a whole number from lo to hi -/
def JW (K : PySem.W.Frag) (H : Hp) (v : V) (lo hi : Int) (b : Bool) : Prop := (∃ t, v = .int t ∧ lo ≤ t ∧ t ≤ hi ∧ b = true) ∨ (BadW K H v lo hi ∧ b = false)
theorem JW.same {K : PySem.W.Frag} {H H' : Hp} {v : V} {lo hi : Int} {b : Bool} (h : JW K H v lo hi b) (e : Same H H') : JW K H' v lo hi b := by
  rcases h with h | ⟨h, hb⟩
  · exact .inl h
  · exact .inr ⟨h.same e, hb⟩
/-- a thing, and whether it is a path -/
def JP (K : PySem.W.Frag) (H : Hp) (v : V) (b : Bool) : Prop := (NotT K H v ∧ b = false) ∨ ∃ a xs bs, v = .ref a ∧ SqT K H a xs ∧ Paired (JN K H) xs bs ∧ b = (decide (xs.length ≤ 3) && bs.all id)
theorem JP.same {K : PySem.W.Frag} {H H' : Hp} {v : V} {b : Bool} (h : JP K H v b) (e : Same H H') : JP K H' v b := by
  rcases h with ⟨h, hb⟩ | ⟨a, xs, bs, h1, h2, h3, h4⟩
  · exact .inl ⟨h.same e, hb⟩
  · exact .inr ⟨a, xs, bs, h1, e.seqT h2, paired_imp2 (fun _ _ h => h.same e) h3, h4⟩
/-- a thing, and whether it is a unit -/
def JU (K : PySem.W.Frag) (H : Hp) (v : V) (b : Bool) : Prop := (NotT K H v ∧ b = false) ∨ ∃ a xs, v = .ref a ∧ SqT K H a xs ∧ ((xs.length ≠ 4 ∧ b = false) ∨ ∃ v0 v1 v2 v3 b0 b1 b2 b3, xs = [v0, v1, v2, v3] ∧ JN K H v0 b0 ∧ JW K H v1 (-1000000000) 1000000000 b1 ∧ JW K H v2 1 1000000 b2 ∧ JP K H v3 b3 ∧ b = (b0 && b1 && b2 && b3))
theorem JU.same {K : PySem.W.Frag} {H H' : Hp} {v : V} {b : Bool} (h : JU K H v b) (e : Same H H') : JU K H' v b := by
  rcases h with ⟨h, hb⟩ | ⟨a, xs, h1, h2, h3⟩
  · exact .inl ⟨h.same e, hb⟩
  · refine .inr ⟨a, xs, h1, e.seqT h2, ?_⟩
    rcases h3 with h3 | ⟨v0, v1, v2, v3, b0, b1, b2, b3, h3, h4, h5, h6, h7, h8⟩
    · exact .inl h3
    · exact .inr ⟨v0, v1, v2, v3, b0, b1, b2, b3, h3, h4.same e, h5.same e, h6.same e, h7.same e, h8⟩
theorem q_name {K : PySem.W.Frag} {mg : Str → Option Value} {H : Hp} {Q : VK} {E : XK} {v : V} {b : Bool} (h : JN K H v b) (q : Q (.bl b) H) : sp_is_name K mg [v] H Q E := by
  rcases h with ⟨z, rfl, h1, rfl⟩ | ⟨h, rfl⟩
  · exact q_nameS h1 q
  · exact q_nameN h q
def sp_is_path (K : PySem.W.Frag) (mg : Str → Option Value) : Sp := fun vs H Q _ => match vs with | [v] => ∃ b, JP K H v b ∧ Q (.bl b) H | _ => False
theorem q_is_path {H : Hp} {Q : VK} {E : XK} {v : V} (q : ∃ b, JP K H v b ∧ Q (.bl b) H) : sp_is_path K mg [v] H Q E := q
local macro_rules | `(tactic| walk_at "op") => `(tactic| with_reducible refine q_is_path ?_)
theorem c_is_path (T : Txt K mg) : Cal P w K mg base 2 "is_path" (sp_is_path K mg) := by
  refine T.d_is_path.cal (k := 1) sc_is_path (by intro vs H Q E h; unfold sp_is_path at h; split at h <;> first | rfl | exact h.elim) fun f cdv A outer s H vs Q E hr h => ?_
  refine ⟨_, (pss_cons (ps_if (PW.pt (pw_or (pt_not (pt_val (pe_callB call_isi (by rfl) T.n_isinstance (by decide +kernel) (pa_cons (pv 0) (pa_cons (pe_ty "tuple" (by rfl) T.n_tuple (by decide +kernel)) pa_nil))))) (pw_or1 (pt_cmpR op_gt (pe_callB call_lenA (by rfl) T.n_len (by decide +kernel) (pa_cons (pv 0) pa_nil)) (pe_gc (by rfl) T.g_DEEPEST) (nomark _)))))
    (pss_one (ps_ret pe_bl))
    pss_nil)
    (pss_cons (ps_for PassesOwn.never rfl (pi_tup (pv 0)) (pg_name (i := 1) sc_is_path.nd rfl (.inl rfl))
    (pss_one (ps_if (pt_not (pt_val (pe_c (c_is_name T) hr (by decide) (by rfl) (pa_cons (pv 1) pa_nil))))
    (pss_one (ps_ret pe_bl))
    pss_nil)))
    (pss_one (ps_ret pe_bl)))), ?_⟩
  try simp only [cxOf_K, cxOf_K', cxOf_mg, cxOf_mg']
  unfold sp_is_path at h
  split at h
  case h_2 => exact h.elim
  rename_i v
  rw [show L2.start ["thing", "name"] [v] = [some (v), none] from rfl]
  obtain ⟨b, ⟨⟨ty, h1, h2⟩, rfl⟩ | ⟨a, xs, bs, rfl, hT, hP, rfl⟩, q⟩ := h
  · walk_at "sts"
    refine L_isi h1 h2 ?_
    walk_at "sts"
    exact q
  · have hlen : xs.length = bs.length := pd_len hP
    walk_at "sts"
    refine L_isi (tyx_T hT) (b := true) (by decide +kernel) ?_
    walk_at "sts"
    refine L_lenT hT ?_
    walk_at "sts"
    refine L_d (fun c => ?_) (fun c => ?_)
    · rw [decide_eq_false (show ¬ xs.length ≤ 3 by omega), Bool.false_and] at q
      walk_at "sts"
      exact q
    · rw [decide_eq_true (show xs.length ≤ 3 by omega), Bool.true_and] at q
      walk_at "sts"
      refine L_rt hT ?_
      refine f_it walk_tup (fun i σ' H' => (∃ v, σ' = [some (.ref a), v]) ∧ H' = H ∧ (bs.take i).all id = true) ⟨⟨_, rfl⟩, rfl, rfl⟩ (fun _ _ _ _ p => p.2.1 ▸ hT) ?_ ?_
      · rintro i x σ' H' H'' hi ⟨⟨v, rfl⟩, rfl, hall⟩ ⟨e2, hx⟩
        subst e2
        obtain ⟨b, hb, hj⟩ := LiI.paired_get hP hx
        walk_at "sts"
        refine q_name hj ?_
        cases b with
        | false =>
          rw [show bs.all id = false from List.all_eq_false.mpr ⟨false, List.mem_of_getElem? hb, Bool.false_ne_true⟩] at q
          walk_at "sts"
          exact q
        | true =>
          walk_at "sts"
          refine ⟨⟨_, rfl⟩, rfl, ?_⟩
          rw [List.take_succ, hb, List.all_append, hall]
          rfl
      · rintro σ' H' ⟨⟨v, rfl⟩, rfl, hall⟩
        rw [List.take_of_length_le (by omega)] at hall
        rw [hall] at q
        walk_at "sts"
        exact q
/-- of a thing handed in a list: its name and how deep its path goes, if it is a unit -/
def IU (K : PySem.W.Frag) (H : Hp) (v : V) : Option (Str × Nat) → Prop
  | none => JU K H v false
  | some (z, n) => JU K H v true ∧ ∃ a v1 v2 p ps, v = .ref a ∧ SqT K H a [.str z, v1, v2, .ref p] ∧ SqT K H p ps ∧ ps.length = n
theorem IU.same {K : PySem.W.Frag} {H H' : Hp} {v : V} {o : Option (Str × Nat)} (h : IU K H v o) (e : Same H H') : IU K H' v o := by
  cases o with
  | none => exact JU.same h e
  | some o =>
    obtain ⟨h1, a, v1, v2, p, ps, h2, h3, h4, h5⟩ := h
    exact ⟨h1.same e, a, v1, v2, p, ps, h2, e.seqT h3, e.seqT h4, h5⟩
/-- units, none with the name of one ahead, all as deep -/
def okUs (d : Nat) : List Str → List (Option (Str × Nat)) → Bool
  | _, [] => true
  | _, none :: _ => false
  | ns, some (z, n) :: r => !decide (z ∈ ns) && decide (n = d) && okUs d (ns ++ [z]) r
def okL (os : List (Option (Str × Nat))) : Bool := decide (1 ≤ os.length ∧ os.length ≤ 24) && okUs (((os.headD none).map (·.2)).getD 0) [] os
def dpth (os : List (Option (Str × Nat))) : Nat := ((os.headD none).map (·.2)).getD 0
/-! the drawn units -/
theorem lett {i : Int} (h0 : 0 ≤ i) (h1 : i < 26) : atI (Str.ofString "abcdefghijklmnopqrstuvwxyz").cps.toList i = some (97 + i.toNat) := by
  obtain ⟨n, rfl⟩ : ∃ n : Nat, i = n := ⟨i.toNat, by omega⟩
  refine atI_nat ?_
  rw [letters_is, List.getElem?_range' (by omega)]
  simp
/-- a good name -/
def GN (z : Str) : Prop := 1 ≤ z.length ∧ z.length ≤ 8 ∧ ∀ c ∈ z.cps.toList, 97 ≤ c ∧ c ≤ 122
theorem GN.isN {z : Str} (h : GN z) : isName z = true := by
  unfold isName
  rw [decide_eq_true (show 1 ≤ z.length ∧ z.length ≤ 8 from ⟨h.1, h.2.1⟩), Bool.true_and, List.all_eq_true]
  exact fun c hc => decide_eq_true (h.2.2 c hc)
theorem GN.ok {z : Str} (h : GN z) : PyData.strOk z = true := strOk_of fun c hc => by have := h.2.2 c hc; omega
theorem cut_pre {z : Str} {n : Nat} : (cutS z none (some (n : Int))).cps.toList = z.cps.toList.take n := by
  unfold cutS
  rw [HT.sIx_none, HT.sIx_nat, List.toList_toArray, List.drop_zero, Nat.sub_zero, ← str_len]
  rcases Nat.le_total n z.cps.toList.length with h | h
  · rw [Nat.min_eq_left h]
  · rw [Nat.min_eq_right h, List.take_of_length_le (Nat.le_refl _), List.take_of_length_le h]
theorem cut_mid {z : Str} {a b : Nat} (hb : b ≤ z.length) (ha : a ≤ z.length) : (cutS z (some (a : Int)) (some (b : Int))).cps.toList = (z.cps.toList.drop a).take (b - a) := by
  unfold cutS
  rw [HT.sIx_nat, HT.sIx_nat, List.toList_toArray, Nat.min_eq_left ha, Nat.min_eq_left hb]
theorem cut_lenU (z : Str) (lo hi : Option Int) : (cutS z lo hi).length ≤ z.length := by
  rw [← str_len, ← str_len]
  unfold cutS
  rw [List.toList_toArray, List.length_take, List.length_drop]
  omega
theorem str_len2 (z : Str) : z.length = z.cps.toList.length := str_len.symm
def sp__law_names (K : PySem.W.Frag) (mg : Str → Option Value) : Sp := fun vs H Q _ => match vs with | [.int c, .int many] => 1 ≤ many ∧ many ≤ 24 ∧ ∀ p (ns : List Str) H', H p = none → Same H H' → H' p = some (.lst (ns.map V.str)) → ns.length = many.toNat → ns.Nodup → (∀ z ∈ ns, GN z) → Q (.ref p) H' | _ => False
theorem q__law_names {H : Hp} {Q : VK} {E : XK} {c : Int} {many : Int} (q : 1 ≤ many ∧ many ≤ 24 ∧ ∀ p (ns : List Str) H', H p = none → Same H H' → H' p = some (.lst (ns.map V.str)) → ns.length = many.toNat → ns.Nodup → (∀ z ∈ ns, GN z) → Q (.ref p) H') : sp__law_names K mg [.int c, .int many] H Q E := q
local macro_rules | `(tactic| walk_at "op") => `(tactic| with_reducible refine q__law_names ?_)
theorem c__law_names (T : Txt K mg) : Cal P w K mg base 2 "_law_names" (sp__law_names K mg) := by
  refine T.d__law_names.cal (k := 1) sc__law_names (by intro vs H Q E h; unfold sp__law_names at h; split at h <;> first | rfl | exact h.elim) fun f cdv A outer s H vs Q E hr h => ?_
  refine ⟨_, (pss_cons (ps_set (i := 2) sc__law_names.nd rfl (.inl rfl) pe_str)
    (pss_cons (ps_set (i := 3) sc__law_names.nd rfl (.inl rfl) (pe_op op_mod (pe_c (c__law_mixed T) hr (by decide) (by rfl) (pa_cons (pv 0) (pa_cons pe_int pa_nil))) pe_int))
    (pss_cons (ps_set (i := 4) sc__law_names.nd rfl (.inl rfl) (pe_c (c__law_mixed T) hr (by decide) (by rfl) (pa_cons (pv 0) (pa_cons pe_int pa_nil))))
    (pss_cons (ps_set (i := 5) sc__law_names.nd rfl (.inl rfl) pe_str)
    (pss_cons (ps_for PassesOwn.never rfl (pi_range1 (by rfl) T.n_range (pa_cons pe_int pa_nil)) (pg_name (i := 6) sc__law_names.nd rfl (.inl rfl))
    (pss_one (ps_set (i := 5) sc__law_names.nd rfl (.inl rfl) (pe_op op_addA (pv 5) (pe_ix ix_seq (pv 2) (pe_op op_mod (pe_op op_addA (pe_op op_fdivW (pv 4) (pe_op op_addA (pe_op op_mulA pe_int (pv 6)) pe_int)) (pv 6)) pe_int) (fun _ _ => rfl))))))
    (pss_cons (ps_set (i := 7) sc__law_names.nd rfl (.inl rfl) (pe_lst pa_nil))
    (pss_cons (ps_for PassesOwn.never rfl (pi_range1 (by rfl) T.n_range (pa_cons (pv 1) pa_nil)) (pg_name (i := 8) sc__law_names.nd rfl (.inl rfl))
    (pss_cons (ps_set (i := 9) sc__law_names.nd rfl (.inl rfl) (pe_op op_addA pe_int (pe_op op_mod (pe_op op_addA (pe_op op_fdivW (pv 4) pe_int) (pe_op op_mulA (pv 8) (pe_op op_mod (pe_op op_fdivW (pv 4) pe_int) pe_int))) (pe_op op_sub pe_int (pv 3)))))
    (pss_cons (ps_set (i := 10) sc__law_names.nd rfl (.inl rfl) (pe_ix ix_seq (pv 2) (pe_op op_mod (pe_op op_addA (pe_op op_fdivW (pv 4) pe_int) (pe_op op_mulA pe_int (pv 8))) pe_int) (fun _ _ => rfl)))
    (pss_one (ps_expr (pe_bm PySem.F.plainAttrs_list PySem.F.slot_list_append PySem.F.type_list_append mt_append (pv 7) (pa_cons (pe_op op_addA (pe_op op_addA (pe_slice sl_str (pv 5) po_none (po_some (pv 3))) (pv 10)) (pe_slice sl_str (pv 5) (po_some (pe_op op_addA (pv 3) pe_int)) (po_some (pe_op op_addA (pv 3) (pv 9))))) pa_nil)))))))
    (pss_one (ps_ret (pv 7)))))))))), ?_⟩
  try simp only [cxOf_K, cxOf_K', cxOf_mg, cxOf_mg']
  unfold sp__law_names at h
  split at h
  case h_2 => exact h.elim
  rename_i c many
  rw [show L2.start ["_law_cell_here", "_law_many", "_law_letters", "_law_place", "_law_first", "_law_stem", "_law_j", "_law_names_here", "_law_k", "_law_size", "_law_sign"] [V.int c, V.int many] = [some (V.int c), some (V.int many), none, none, none, none, none, none, none, none, none] from rfl]
  obtain ⟨m0, m1, q⟩ := h
  walk_at "sa"
  refine ⟨by decide, by decide, fun r0 r00 r01 => ?_⟩
  walk_at "sa"
  have p0 := Int.emod_nonneg r0 (show (8 : Int) ≠ 0 by decide)
  have p1 := Int.emod_lt_of_pos r0 (show (0 : Int) < 8 by decide)
  generalize r0 % 8 = pl0 at p0 p1
  obtain ⟨pl, rfl⟩ : ∃ pl : Nat, pl0 = pl := ⟨pl0.toNat, by omega⟩
  refine ⟨by decide, by decide, fun F F0 F1 => ?_⟩
  walk_at "sts"
  refine L_r1 (by omega) (by omega) ?_
  refine f_range (fun j σ' H' => H' = H ∧ ∃ (z : Str) (v6 : Option V), σ' = [some (.int c), some (.int many), some (.str "abcdefghijklmnopqrstuvwxyz"), some (.int (pl : Int)), some (.int F), some (.str z), v6, none, none, none, none] ∧ z.length = j ∧ ∀ c ∈ z.cps.toList, 97 ≤ c ∧ c ≤ 122) ⟨rfl, "", none, rfl, rfl, fun c hc => nomatch hc⟩ ?_ ?_
  · rintro j σ' H' hj ⟨rfl, z, v6, rfl, hz, hzc⟩
    walk_at "sa"
    have a0 := Int.emod_nonneg (F / (26 * (0 + (j : Int)) + 1) + (0 + (j : Int))) (show (26 : Int) ≠ 0 by decide)
    have a1 := Int.emod_lt_of_pos (F / (26 * (0 + (j : Int)) + 1) + (0 + (j : Int))) (show (0 : Int) < 26 by decide)
    refine L_ixS (by decide) (lett a0 a1) ?_
    walk_at "sts"
    refine L_addS (sz_dec (by rw [len1]; omega)) ?_
    walk_at "sts"
    refine ⟨rfl, _, _, rfl, by rw [str_len_append, len1, hz], fun d hd => ?_⟩
    rw [str_app_list] at hd
    rcases List.mem_append.mp hd with hd | hd
    · exact hzc d hd
    · rw [List.mem_singleton.mp hd]
      omega
  rintro σ' H' ⟨rfl, z, v6, rfl, hz, hzc⟩
  have hz8 : z.cps.toList.length = 8 := by rw [str_len, hz]; rfl
  walk_at "sts"
  walk_at "nw"
  rename_i p hp H1 s1 e1
  walk_at "sts"
  refine L_r1 (by omega) (by omega) ?_
  refine f_range (fun k σ' H2 => ∃ (ns : List Str) (v8 v9 v10 : Option V), σ' = [some (.int c), some (.int many), some (.str "abcdefghijklmnopqrstuvwxyz"), some (.int (pl : Int)), some (.int F), some (.str z), v6, some (.ref p), v8, v9, v10] ∧ Same H' H2 ∧ H2 p = some (.lst (ns.map V.str)) ∧ ns.length = k ∧ (∀ (j : Nat) (x : Str), ns[j]? = some x → x.cps.toList[pl]? = some (97 + ((F / 3 + 3 * (j : Int)) % 26).toNat)) ∧ ∀ x ∈ ns, GN x) ⟨[], none, none, none, rfl, s1, e1, rfl, fun j x hx => (by simp at hx), fun x hx => (by simp at hx)⟩ ?_ ?_
  · rintro k σ' H2 hk ⟨ns, v8, v9, v10, rfl, s2, e2, hl, hat, hg⟩
    walk_at "sts"
    refine L_I (cdiv_lit (by decide)) ?_
    walk_at "sa"
    have b0 := Int.emod_nonneg (F / 49) (show (3 : Int) ≠ 0 by decide)
    have b1 := Int.emod_lt_of_pos (F / 49) (show (0 : Int) < 3 by decide)
    generalize F / 49 % 3 = w at b0 b1
    have s0 := Int.emod_nonneg (F / 7 + (0 + (k : Int)) * w) (show (8 - (pl : Int)) ≠ 0 by omega)
    have s1' := Int.emod_lt_of_pos (F / 7 + (0 + (k : Int)) * w) (show (0 : Int) < 8 - (pl : Int) by omega)
    generalize (F / 7 + (0 + (k : Int)) * w) % (8 - (pl : Int)) = sz at s0 s1'
    have a0 := Int.emod_nonneg (F / 3 + 3 * (0 + (k : Int))) (show (26 : Int) ≠ 0 by decide)
    have a1 := Int.emod_lt_of_pos (F / 3 + 3 * (0 + (k : Int))) (show (0 : Int) < 26 by decide)
    refine L_ixS (by decide) (lett a0 a1) ?_
    walk_at "sts"
    refine L_tyL (.of e2) ?_
    walk_at "sts"
    obtain ⟨sn, rfl⟩ : ∃ sn : Nat, sz = sn := ⟨sz.toNat, by omega⟩
    generalize hx : (⟨#[97 + ((F / 3 + 3 * (0 + (k : Int))) % 26).toNat]⟩ : Str) = sg
    have hsgl : sg.cps.toList = [97 + ((F / 3 + 3 * (0 + (k : Int))) % 26).toNat] := by rw [← hx]
    refine ⟨z, rfl, sz_dec (by omega), ?_⟩
    walk_at "sts"
    have c1 := cut_pre (z := z) (n := pl)
    have l1 : (cutS z none (some (pl : Int))).length = pl := by rw [← str_len, c1, List.length_take]; omega
    generalize cutS z none (some (pl : Int)) = za at c1 l1
    have lsg : sg.length = 1 := by rw [← hx]; rfl
    refine L_addS (sz_dec (by omega)) ?_
    walk_at "sts"
    refine ⟨z, rfl, sz_dec (by omega), ?_⟩
    have c2 := cut_mid (z := z) (a := pl + 1) (b := pl + (1 + sn)) (by omega) (by omega)
    rw [show ((pl + 1 : Nat) : Int) = (pl : Int) + 1 by omega, show ((pl + (1 + sn) : Nat) : Int) = (pl : Int) + (1 + (sn : Int)) by omega, show pl + (1 + sn) - (pl + 1) = sn by omega] at c2
    have l2 : (cutS z (some ((pl : Int) + 1)) (some ((pl : Int) + (1 + (sn : Int))))).length = sn := by rw [← str_len, c2, List.length_take, List.length_drop]; omega
    generalize cutS z (some ((pl : Int) + 1)) (some ((pl : Int) + (1 + (sn : Int)))) = zb at c2 l2
    have l3 : (za ++ sg).length = pl + 1 := by rw [str_len_append, l1, lsg]
    refine L_addS (sz_dec (by omega)) ?_
    walk_at "sts"
    refine L_app e2 (by rw [List.length_map]; exact sz_lt (by omega)) ?_
    walk_at "sts"
    have hnl : (za ++ sg ++ zb).cps.toList = z.cps.toList.take pl ++ [97 + ((F / 3 + 3 * (0 + (k : Int))) % 26).toNat] ++ (z.cps.toList.drop (pl + 1)).take sn := by
      rw [str_app_list, str_app_list, c1, c2, hsgl]
    refine ⟨ns ++ [za ++ sg ++ zb], _, _, _, rfl, same_mut s2 hp, by rw [List.map_append]; exact upd_same, by simp [hl], fun j x hj => ?_, fun x hx => ?_⟩
    · rcases Nat.lt_or_ge j ns.length with hjl | hjl
      · rw [List.getElem?_append_left hjl] at hj
        exact hat j x hj
      · rw [List.getElem?_append_right hjl] at hj
        have hj0 : j - ns.length = 0 := by
          rcases Nat.eq_zero_or_pos (j - ns.length) with h | h
          · exact h
          · rw [List.getElem?_eq_none (by rw [List.length_singleton]; exact h)] at hj
            cases hj
        rw [hj0] at hj
        have hj := Option.some.inj hj
        rw [← hj, hnl, List.append_assoc, List.getElem?_append_right (by rw [List.length_take]; omega), List.length_take, Nat.min_eq_left (by omega), Nat.sub_self]
        have : j = k := by omega
        rw [this, Int.zero_add]
        rfl
    · rcases List.mem_append.mp hx with hx | hx
      · exact hg x hx
      · rw [List.mem_singleton.mp hx]
        have l4 : (za ++ sg ++ zb).length = pl + 1 + sn := by rw [str_len_append, l3, l2]
        refine ⟨by omega, by omega, fun d hd => ?_⟩
        rw [hnl] at hd
        rcases List.mem_append.mp hd with hd | hd
        · rcases List.mem_append.mp hd with hd | hd
          · exact hzc d (List.mem_of_mem_take hd)
          · rw [List.mem_singleton.mp hd]
            omega
        · exact hzc d (List.mem_of_mem_drop (List.mem_of_mem_take hd))
  · rintro σ' H2 ⟨ns, v8, v9, v10, rfl, s2, e2, hl, hat, hg⟩
    walk_at "sts"
    refine q p ns H2 hp s2 e2 (by omega) ?_ hg
    refine List.pairwise_iff_getElem.mpr fun i j hi hj hij e => ?_
    have h1 := hat i _ (List.getElem?_eq_getElem hi)
    have h2 := hat j _ (List.getElem?_eq_getElem hj)
    rw [e, h2] at h1
    have h1 := Option.some.inj h1
    omega
/-- a unit: its name, value, size and path -/
abbrev Un := Str × Int × Int × List Str
def d4 (u : Un) : PyData := .tuple [.str u.1, .int u.2.1, .int u.2.2.1, .tuple (u.2.2.2.map .str)]
structure GU (d : Nat) (u : Un) : Prop where
  n : GN u.1
  v : -1000000000 ≤ u.2.1 ∧ u.2.1 ≤ 1000000000
  s : 1 ≤ u.2.2.1 ∧ u.2.2.1 ≤ 1000000
  p : u.2.2.2.length = d ∧ d ≤ 3
  g : ∀ z ∈ u.2.2.2, GN z
theorem gn_of {z : Str} (h : (decide (1 ≤ z.length ∧ z.length ≤ 8) && z.cps.toList.all fun c => decide (97 ≤ c ∧ c ≤ 122)) = true) : GN z := by
  rw [Bool.and_eq_true, decide_eq_true_eq, List.all_eq_true] at h
  exact ⟨h.1.1, h.1.2, fun c hc => of_decide_eq_true (h.2 c hc)⟩
def sp__law_units (K : PySem.W.Frag) (mg : Str → Option Value) : Sp := fun vs H Q _ => match vs with | [.int c] => ∀ p us (U : List Un) (d : Nat) H', H p = none → Same H H' → H' p = some (.lst us) → DpAll K (rs (· ≠ p) H') us (U.map d4) → 1 ≤ U.length → U.length ≤ 24 → (U.map (·.1)).Nodup → (∀ u ∈ U, GU d u) → Q (.ref p) H' | _ => False
theorem q__law_units {H : Hp} {Q : VK} {E : XK} {c : Int} (q : ∀ p us (U : List Un) (d : Nat) H', H p = none → Same H H' → H' p = some (.lst us) → DpAll K (rs (· ≠ p) H') us (U.map d4) → 1 ≤ U.length → U.length ≤ 24 → (U.map (·.1)).Nodup → (∀ u ∈ U, GU d u) → Q (.ref p) H') : sp__law_units K mg [.int c] H Q E := q
local macro_rules | `(tactic| walk_at "op") => `(tactic| with_reducible refine q__law_units ?_)
theorem c__law_units (T : Txt K mg) : Cal P w K mg base 3 "_law_units" (sp__law_units K mg) := by
  refine T.d__law_units.cal (k := 2) sc__law_units (by intro vs H Q E h; unfold sp__law_units at h; split at h <;> first | rfl | exact h.elim) fun f cdv A outer s H vs Q E hr h => ?_
  refine ⟨_, (pss_cons (ps_set (i := 1) sc__law_units.nd rfl (.inl rfl) (pe_op op_addA pe_int (pe_op op_mod (pe_c (c__law_mixed T) hr (by decide) (by rfl) (pa_cons (pv 0) (pa_cons pe_int pa_nil))) pe_int)))
    (pss_cons (ps_set (i := 2) sc__law_units.nd rfl (.inl rfl) (pe_op op_mod (pe_c (c__law_mixed T) hr (by decide) (by rfl) (pa_cons (pv 0) (pa_cons pe_int pa_nil))) pe_int))
    (pss_cons (ps_set (i := 3) sc__law_units.nd rfl (.inl rfl) (pe_c (c__law_names T) hr (by decide) (by rfl) (pa_cons (pv 0) (pa_cons (pv 1) pa_nil))))
    (pss_cons (ps_set (i := 4) sc__law_units.nd rfl (.inl rfl) (pe_lst pa_nil))
    (pss_cons (ps_for PassesOwn.never rfl (pi_range1 (by rfl) T.n_range (pa_cons (pv 1) pa_nil)) (pg_name (i := 5) sc__law_units.nd rfl (.inl rfl))
    (pss_cons (ps_set (i := 6) sc__law_units.nd rfl (.inl rfl) (pe_c (c__law_mixed T) hr (by decide) (by rfl) (pa_cons (pv 0) (pa_cons (pe_op op_addA pe_int (pe_op op_mulA pe_int (pv 5))) pa_nil))))
    (pss_cons (ps_set (i := 7) sc__law_units.nd rfl (.inl rfl) (pe_op op_sub (pe_op op_mod (pe_op op_fdivW (pv 6) pe_int) (pe_op op_addA (pe_op op_mulA pe_int (pe_op op_pow pe_int pe_int)) pe_int)) (pe_op op_pow pe_int pe_int)))
    (Evl.pss_cut (ps_if (pt_cmpR (op_eqA hr) (pe_op op_mod (pv 6) pe_int) pe_int (nomark _))
    (pss_one (ps_set (i := 7) sc__law_units.nd rfl (.inl rfl) (pe_ix ix_seq (pe_lst (pa_cons (pe_op op_pow pe_int pe_int) (pa_cons (pe_op op_sub pe_int (pe_op op_pow pe_int pe_int)) (pa_cons pe_int (pa_cons pe_int pa_nil))))) (pe_op op_mod (pe_op op_fdivW (pv 6) pe_int) pe_int) (fun _ _ => rfl))))
    pss_nil)
    (pss_cons (ps_set (i := 8) sc__law_units.nd rfl (.inl rfl) (pe_c (c__law_mixed T) hr (by decide) (by rfl) (pa_cons (pv 0) (pa_cons (pe_op op_addA pe_int (pe_op op_mulA pe_int (pv 5))) pa_nil))))
    (pss_cons (ps_set (i := 8) sc__law_units.nd rfl (.inl rfl) (pe_op op_addA pe_int (pe_op op_mod (pe_op op_fdivW (pv 8) pe_int) (pe_ix ix_seq (pe_lst (pa_cons (pe_op op_pow pe_int pe_int) (pa_cons pe_int (pa_cons pe_int pa_nil)))) (pe_op op_mod (pv 8) pe_int) (fun _ _ => rfl)))))
    (pss_cons (ps_set (i := 9) sc__law_units.nd rfl (.inl rfl) (pe_c (c__law_mixed T) hr (by decide) (by rfl) (pa_cons (pv 0) (pa_cons (pe_op op_addA pe_int (pe_op op_mulA pe_int (pv 5))) pa_nil))))
    (pss_cons (ps_set (i := 10) sc__law_units.nd rfl (.inl rfl) (pe_lst pa_nil))
    (pss_cons (ps_for PassesOwn.never rfl (pi_range1 (by rfl) T.n_range (pa_cons (pv 2) pa_nil)) (pg_name (i := 11) sc__law_units.nd rfl (.inl rfl))
    (pss_cons (ps_expr (pe_bm PySem.F.plainAttrs_list PySem.F.slot_list_append PySem.F.type_list_append mt_append (pv 10) (pa_cons (pe_ix ix_seq (pe_lst (pa_cons pe_str (pa_cons pe_str (pa_cons pe_str (pa_cons pe_str pa_nil))))) (pe_op op_mod (pv 9) pe_int) (fun _ _ => rfl)) pa_nil)))
    (pss_one (ps_set (i := 9) sc__law_units.nd rfl (.inl rfl) (pe_op op_fdivW (pv 9) pe_int)))))
    (pss_one (ps_expr (pe_bm PySem.F.plainAttrs_list PySem.F.slot_list_append PySem.F.type_list_append mt_append (pv 4) (pa_cons (pe_tup (pa_cons (pe_ix ix_seq (pv 3) (pv 5) (fun _ _ => rfl)) (pa_cons (pv 7) (pa_cons (pv 8) (pa_cons (pe_callTy call_tuple1A (by rfl) T.n_tuple (by decide +kernel) (pa_cons (pv 10) pa_nil)) pa_nil))))) pa_nil)))))))))))))
    (pss_one (ps_ret (pv 4)))))))), ?_⟩
  try simp only [cxOf_K, cxOf_K', cxOf_mg, cxOf_mg']
  unfold sp__law_units at h
  split at h
  case h_2 => exact h.elim
  rename_i c
  rw [show L2.start ["_law_cell_here", "_law_many", "_law_deep", "_law_names_here", "_law_units_here", "_law_k", "_law_number", "_law_value", "_law_size", "_law_turn", "_law_path", "_law_j"] [V.int c] = [some (V.int c), none, none, none, none, none, none, none, none, none, none, none] from rfl]
  walk_at "sts"
  refine ⟨by decide, by decide, fun r0 r00 r01 => ?_⟩
  walk_at "sa"
  have m0 := Int.emod_nonneg r0 (show (24 : Int) ≠ 0 by decide)
  have m1 := Int.emod_lt_of_pos r0 (show (0 : Int) < 24 by decide)
  generalize r0 % 24 = many at m0 m1
  refine ⟨by decide, by decide, fun r1 r10 r11 => ?_⟩
  walk_at "sa"
  have d0 := Int.emod_nonneg r1 (show (4 : Int) ≠ 0 by decide)
  have d1 := Int.emod_lt_of_pos r1 (show (0 : Int) < 4 by decide)
  generalize r1 % 4 = deep at d0 d1
  refine ⟨by omega, by omega, fun pn ns H1 hpn s1 e1 hnl hnd hng => ?_⟩
  walk_at "sts"
  walk_at "nw"
  rename_i p hp H2 s2 e2
  walk_at "sts"
  have hpH : H p = none := s1.free hp
  have e12 := s2 _ _ e1
  refine L_r1 (by omega) (by omega) ?_
  refine f_range (fun k σ' H' => ∃ (us : List V) (U : List Un) (v5 v6 v7 v8 v9 v10 v11 : Option V), σ' = [some (.int c), some (.int (1 + many)), some (.int deep), some (.ref pn), some (.ref p), v5, v6, v7, v8, v9, v10, v11] ∧ Same H1 H' ∧ H' p = some (.lst us) ∧ DpAll K (rs (· ≠ p) H') us (U.map d4) ∧ U.map (·.1) = ns.take k ∧ U.length = k ∧ ∀ u ∈ U, GU deep.toNat u) ⟨[], [], _, _, _, _, _, _, _, rfl, s2, e2, .nil, rfl, rfl, by simp⟩ ?_ ?_
  · rintro k σ' H4 hk ⟨us, U, v5, v6, v7, v8, v9, v10, v11, rfl, s4, e4, hA, hnm, hlen, hU⟩
    have hul : us.length = k := by rw [hA.len, List.length_map, hlen]
    walk_at "sa"
    refine ⟨by omega, by omega, fun n1 n10 n11 => ?_⟩
    walk_at "sa"
    have b0 := Int.emod_nonneg (n1 / 4) (show (2000000001 : Int) ≠ 0 by decide)
    have b1 := Int.emod_lt_of_pos (n1 / 4) (show (0 : Int) < 2000000001 by decide)
    refine L_cut (Mid := fun σ' H' => ∃ v : Int, σ' = [some (.int c), some (.int (1 + many)), some (.int deep), some (.ref pn), some (.ref p), some (.int (0 + (k : Int))), some (.int n1), some (.int v), v8, v9, v10, v11] ∧ Same H4 H' ∧ -1000000000 ≤ v ∧ v ≤ 1000000000) ?_ ?_
    · walk_at "sa"
      refine L_d (fun c1 => ?_) (fun c1 => ?_)
      · walk_at "sa"
        walk_at "nw"
        rename_i p5 hp5 H5 s5 e5
        walk_at "sa"
        refine L_menuV (.of e5) (Int.emod_nonneg _ (by decide)) (Int.emod_lt_of_pos _ (by decide)) fun v hv => ?_
        obtain ⟨mo, rfl, hmo⟩ : ∃ mo : Int, v = .int mo ∧ -1000000000 ≤ mo ∧ mo ≤ 1000000000 := by
          simp only [List.mem_cons, List.not_mem_nil, or_false] at hv
          rcases hv with rfl | rfl | rfl | rfl <;> exact ⟨_, rfl, by decide, by decide⟩
        walk_at "sts"
        exact ⟨_, rfl, s5, hmo.1, hmo.2⟩
      · walk_at "sts"
        exact ⟨_, rfl, Same.refl _, by omega, by omega⟩
    rintro σ' H5 ⟨v, rfl, s5, hv0, hv1⟩
    walk_at "sa"
    refine ⟨by omega, by omega, fun n2 n20 n21 => ?_⟩
    walk_at "sa"
    walk_at "nw"
    rename_i p6 hp6 H6 s6 e6
    walk_at "sa"
    refine L_menuV (.of e6) (Int.emod_nonneg _ (by decide)) (Int.emod_lt_of_pos _ (by decide)) fun y hy => ?_
    obtain ⟨mo, rfl, hmo, hmo1⟩ : ∃ mo : Int, y = .int mo ∧ 0 < mo ∧ mo ≤ 1000000 := by
      simp only [List.mem_cons, List.not_mem_nil, or_false] at hy
      rcases hy with rfl | rfl | rfl <;> exact ⟨_, rfl, by decide, by decide⟩
    walk_at "sts"
    refine L_I hmo ?_
    walk_at "sts"
    have z0 := Int.emod_nonneg (n2 / 4) (show mo ≠ 0 by omega)
    have z1 := Int.emod_lt_of_pos (n2 / 4) hmo
    generalize n2 / 4 % mo = size at z0 z1
    walk_at "sa"
    refine ⟨by omega, by omega, fun n3 n30 n31 => ?_⟩
    walk_at "sts"
    walk_at "nw"
    rename_i p7 hp7 H7 s7 e7
    walk_at "sts"
    refine L_r1 (by omega) (by omega) ?_
    refine f_range (fun j σ' H' => ∃ (l : List Str) (tu : Int) (v11 : Option V), σ' = [some (.int c), some (.int (1 + many)), some (.int deep), some (.ref pn), some (.ref p), some (.int (0 + (k : Int))), some (.int n1), some (.int v), some (.int (1 + size)), some (.int tu), some (.ref p7), v11] ∧ Same H6 H' ∧ H' p7 = some (.lst (l.map V.str)) ∧ l.length = j ∧ ∀ s ∈ l, GN s) ⟨[], _, _, rfl, s7, e7, rfl, by simp⟩ ?_ ?_
    · rintro j σ' H8 hj ⟨l, tu, v11, rfl, s8, e8, hl8, ho8⟩
      walk_at "sts"
      refine L_tyL (.of e8) ?_
      walk_at "sts"
      walk_at "nw"
      rename_i p9 hp9 H9 s9 e9
      walk_at "sa"
      refine L_menuV (.of e9) (Int.emod_nonneg _ (by decide)) (Int.emod_lt_of_pos _ (by decide)) fun y hy => ?_
      obtain ⟨z, rfl, hz⟩ : ∃ z : Str, y = .str z ∧ GN z := by
        simp only [List.mem_cons, List.not_mem_nil, or_false] at hy
        rcases hy with rfl | rfl | rfl | rfl <;> exact ⟨_, rfl, gn_of (by decide +kernel)⟩
      walk_at "sts"
      refine L_app (s9 _ _ e8) (by rw [List.length_map]; exact sz_lt (by omega)) ?_
      walk_at "sa"
      refine ⟨l ++ [z], _, _, rfl, same_mut (s8.trans s9) hp7, by rw [List.map_append]; exact upd_same, by simp [hl8], fun x hx => ?_⟩
      rcases List.mem_append.mp hx with hx | hx
      · exact ho8 x hx
      · rw [List.mem_singleton.mp hx]
        exact hz
    · rintro σ' H8 ⟨l, tu, v11, rfl, s8, e8, hl8, ho8⟩
      walk_at "sts"
      have s48 : Same H4 H8 := s5.trans (s6.trans s8)
      have e48 := s48 _ _ e4
      obtain ⟨nm, hnk⟩ : ∃ nm, ns[k]? = some nm := ⟨ns[k], List.getElem?_eq_getElem (by omega)⟩
      refine L_tyL (.of e48) ?_
      walk_at "sts"
      refine L_ixL (.of (s48 _ _ (s4 _ _ e1))) (v := .str nm) (by rw [Int.zero_add]; exact atI_nat (by rw [List.getElem?_map, hnk]; rfl)) ?_
      walk_at "sts"
      refine L_tuple1 (.of e8) ?_
      walk_at "nwp"
      rename_i p9 hp9 H9 s9 e9
      walk_at "sts"
      walk_at "nw"
      rename_i p10 hp10 H10 s10 e10
      walk_at "sts"
      have s410 : Same H4 H10 := s48.trans (s9.trans s10)
      have n9 : p9 ≠ p := ne_new hp9 ⟨_, e48⟩
      have n10 : p10 ≠ p := ne_new hp10 ⟨_, s9 _ _ e48⟩
      refine L_app (s410 _ _ e4) (by rw [hul]; exact sz_lt (by omega)) ?_
      refine ⟨us ++ [.ref p10], U ++ [(nm, v, 1 + size, l)], _, _, _, _, _, _, _, rfl, same_mut (s4.trans s410) hp, upd_same, ?_, ?_, by simp [hlen], ?_⟩
      · rw [List.map_append]
        exact dp_grow hA s410 (dp_tupN e10 n10 (.cons (.str _) (.cons (.int _) (.cons (.int _) (.cons (dp_tupN (s10 _ _ e9) n9 (dp_strs _)) .nil)))))
      · rw [List.map_append, hnm, List.take_add_one, hnk]
        rfl
      · intro u hu
        rcases List.mem_append.mp hu with hu | hu
        · exact hU u hu
        · rw [List.mem_singleton.mp hu]
          exact ⟨hng nm (List.mem_of_getElem? hnk), ⟨hv0, hv1⟩, ⟨by show 1 ≤ 1 + size; omega, by show 1 + size ≤ _; omega⟩, ⟨by show l.length = _; omega, by omega⟩, ho8⟩
  · rintro σ' H4 ⟨us, U, v5, v6, v7, v8, v9, v10, v11, rfl, s4, e4, hA, hnm, hlen, hU⟩
    walk_at "sts"
    exact h p us U _ H4 hpH (s1.trans s4) e4 hA (by omega) (by omega) (by rw [hnm, List.take_of_length_le (by omega)]; exact hnd) hU
/-! drawn units are units -/
theorem hit4 {K : PySem.W.Frag} {H : Hp} {us : List V} {U : List Un} (hA : DpAll K H us (U.map d4)) {i : Nat} {x : V} (hx : us[i]? = some x) : ∃ u t q, U[i]? = some u ∧ x = .ref t ∧ SqT K H t [.str u.1, .int u.2.1, .int u.2.2.1, .ref q] ∧ SqT K H q (u.2.2.2.map V.str) := by
  obtain ⟨d, h1, h2⟩ := hA.of hx
  rw [List.getElem?_map] at h1
  obtain ⟨u, h3, rfl⟩ := Option.map_eq_some_iff.mp h1
  obtain ⟨t, x0, x1, x2, x3, rfl, h4, h5, h6, h7, h8⟩ := of_t4 h2
  rw [of_str h5, of_int h6, of_int h7] at h4
  obtain ⟨q, xs, rfl, h9, h10⟩ := of_tup h8
  rw [of_strs h10] at h9
  exact ⟨u, t, q, h3, rfl, h4, h9⟩
theorem jn_ok {K : PySem.W.Frag} {H : Hp} {z : Str} (h : GN z) : JN K H (.str z) true := .inl ⟨z, rfl, by have := h.2.1; omega, h.isN⟩
theorem jn_strs {K : PySem.W.Frag} {H : Hp} : ∀ {l : List Str}, (∀ z ∈ l, GN z) → Paired (JN K H) (l.map V.str) (l.map fun _ => true)
  | [], _ => .nil
  | z :: l, h => .cons (jn_ok (h z (List.mem_cons_self ..))) (jn_strs fun x hx => h x (List.mem_cons_of_mem _ hx))
theorem jp_ok {K : PySem.W.Frag} {H : Hp} {q : Addr} {l : List Str} (h : SqT K H q (l.map V.str)) (hl : l.length ≤ 3) (hg : ∀ z ∈ l, GN z) : JP K H (.ref q) true := by
  refine .inr ⟨q, _, _, rfl, h, jn_strs hg, ?_⟩
  rw [List.length_map, decide_eq_true hl, Bool.true_and]
  induction l with
  | nil => rfl
  | cons a l ih => simp
theorem jw_ok {K : PySem.W.Frag} {H : Hp} {t lo hi : Int} (h : lo ≤ t ∧ t ≤ hi) : JW K H (.int t) lo hi true := .inl ⟨t, rfl, h.1, h.2, rfl⟩
theorem jx_none {K : PySem.W.Frag} {H : Hp} {v0 v1 v2 v3 : V} {b0 b1 b2 b3 : Bool} (j0 : JN K H v0 b0) (j1 : JW K H v1 (-1000000000) 1000000000 b1) (j2 : JW K H v2 1 1000000 b2) (j3 : JP K H v3 b3) (hb : (b0 && b1 && b2 && b3) = false) {t : Addr} (ht : SqT K H t [v0, v1, v2, v3]) : IU K H (.ref t) none :=
  .inr ⟨t, _, rfl, ht, .inr ⟨_, _, _, _, _, _, _, _, rfl, j0, j1, j2, j3, hb.symm⟩⟩
theorem jx_some {K : PySem.W.Frag} {H : Hp} {z : Str} {v1 v2 : V} {p : Addr} {ps : List V} (j0 : JN K H (.str z) true) (j1 : JW K H v1 (-1000000000) 1000000000 true) (j2 : JW K H v2 1 1000000 true) (j3 : JP K H (.ref p) true) (hp : SqT K H p ps) {t : Addr} (ht : SqT K H t [.str z, v1, v2, .ref p]) : IU K H (.ref t) (some (z, ps.length)) :=
  ⟨.inr ⟨t, _, rfl, ht, .inr ⟨_, _, _, _, _, _, _, _, rfl, j0, j1, j2, j3, rfl⟩⟩, t, v1, v2, p, ps, rfl, ht, hp, rfl⟩
def osU (U : List Un) : List (Option (Str × Nat)) := U.map fun u => some (u.1, u.2.2.2.length)
theorem iu_us {K : PySem.W.Frag} {H : Hp} {d : Nat} : ∀ {us : List V} {U : List Un}, DpAll K H us (U.map d4) → (∀ u ∈ U, GU d u) → Paired (IU K H) us (osU U)
  | [], [], _, _ => .nil
  | [], _ :: _, h, _ => nomatch h
  | _ :: _, [], h, _ => nomatch h
  | x :: us, u :: U, h, hg => by
    obtain ⟨u', t, q, h1, rfl, h2, h3⟩ := hit4 (U := u :: U) (i := 0) h rfl
    cases h1
    have g := hg u (List.mem_cons_self ..)
    refine .cons (show IU K H (.ref t) (some (u.1, u.2.2.2.length)) from ?_) (iu_us (by cases h; assumption) fun y hy => hg y (List.mem_cons_of_mem _ hy))
    rw [show u.2.2.2.length = (u.2.2.2.map V.str).length by rw [List.length_map]]
    exact jx_some (jn_ok g.n) (jw_ok g.v) (jw_ok g.s) (jp_ok h3 (by have := g.p; omega) g.g) h3 h2
theorem okUs_good {d : Nat} : ∀ {U : List Un} {ns : List Str}, (∀ u ∈ U, GU d u) → (U.map (·.1)).Nodup → (∀ u ∈ U, u.1 ∉ ns) → okUs d ns (osU U) = true
  | [], _, _, _, _ => rfl
  | u :: U, ns, h, hn, hd => by
    show (!decide (u.1 ∈ ns) && decide (u.2.2.2.length = d) && okUs d (ns ++ [u.1]) (osU U)) = true
    rw [List.map_cons, List.nodup_cons] at hn
    rw [decide_eq_false (hd u (List.mem_cons_self ..)), decide_eq_true (h u (List.mem_cons_self ..)).p.1, okUs_good (fun y hy => h y (List.mem_cons_of_mem _ hy)) hn.2 fun y hy hm => ?_]
    · rfl
    · rcases List.mem_append.mp hm with hm | hm
      · exact hd y (List.mem_cons_of_mem _ hy) hm
      · exact hn.1 (by rw [← List.mem_singleton.mp hm]; exact List.mem_map_of_mem hy)
theorem okL_good {d : Nat} {U : List Un} (h : ∀ u ∈ U, GU d u) (hn : (U.map (·.1)).Nodup) (h1 : 1 ≤ U.length) (h2 : U.length ≤ 24) : okL (osU U) = true := by
  unfold okL
  have hl : (osU U).length = U.length := List.length_map ..
  rw [hl, decide_eq_true ⟨h1, h2⟩, Bool.true_and]
  have : (((osU U).headD none).map (·.2)).getD 0 = d := by
    cases U with
    | nil => simp at h1
    | cons u U => exact (h u (List.mem_cons_self ..)).p.1
  rw [this]
  exact okUs_good h hn fun _ _ => List.not_mem_nil
/-! texts cut at a sign -/
theorem log_ok {i : Int} (h : -100000000000000000 < i ∧ i < 100000000000000000) : i.natAbs.log2 < 1920 := by
  by_cases h0 : i.natAbs = 0
  · rw [h0]; decide
  · refine (Nat.log2_lt h0).mpr ?_
    have : (100000000000000000 : Nat) ≤ 2 ^ 1920 := Nat.le_trans (show (100000000000000000 : Nat) ≤ 2 ^ 57 by decide) (Nat.pow_le_pow_right (by decide) (by decide))
    omega
theorem sgn_any (i : Int) : (0 ≤ i ∧ (Str.ofString (toString i)).cps.toList = dg i.toNat) ∨ (i < 0 ∧ (Str.ofString (toString i)).cps.toList = 45 :: dg (-i).toNat) := by
  by_cases h : 0 ≤ i
  · left
    have e : i = ((i.toNat : Nat) : Int) := by omega
    refine ⟨h, ?_⟩
    conv => lhs; rw [e]
    exact sgn_nat _
  · right
    have e : i = 0 - (((-i).toNat : Nat) : Int) := by omega
    refine ⟨by omega, ?_⟩
    conv => lhs; rw [e]
    exact sgn_neg (by omega)
theorem str_lenB {i : Int} (h : -10000000000000 < i ∧ i < 10000000000000) : (Str.ofString (toString i)).length ≤ 14 := by
  rw [← str_len]
  have e : (10 : Nat) ^ (12 + 1) = 10000000000000 := by decide
  rcases sgn_any i with ⟨h0, hs⟩ | ⟨h0, hs⟩
  · rw [hs]
    have := dg_len 12 i.toNat (by omega)
    omega
  · rw [hs, List.length_cons]
    have := dg_len 12 (-i).toNat (by omega)
    omega
theorem joinL_len (S : List Nat) : ∀ ls : List (List Nat), (TL.joinL S ls).length ≤ (ls.map (·.length)).sum + ls.length * S.length
  | [] => Nat.zero_le _
  | [p] => by simp [TL.joinL]
  | p :: q :: r => by
    have ih := joinL_len S (q :: r)
    show (p ++ (S ++ TL.joinL S (q :: r))).length ≤ _
    rw [List.length_append, List.length_append, List.map_cons, List.sum_cons, List.length_cons (as := q :: r), Nat.add_mul]
    omega
theorem join_is (c : Nat) (ps : List Str) : Txt.join ⟨#[c]⟩ ps = SX.S (TL.joinL [c] (ps.map fun z => z.cps.toList)) := by
  rw [← SX.join_S, List.map_map]
  have : ps.map (SX.S ∘ fun z => z.cps.toList) = ps := (List.map_congr_left fun z _ => SX.S_tl z).trans (List.map_id _)
  rw [this]
theorem spl_part (S : List Nat) : ∀ (l : List Nat) (k : Nat) (acc : List Nat), ∀ p ∈ TL.spl S k acc l, p.length ≤ acc.length + l.length ∧ ∀ c ∈ p, c ∈ acc ∨ c ∈ l
  | [], k, acc, p, h => by
    rw [TL.spl_nil] at h
    rw [List.mem_singleton.mp h]
    exact ⟨Nat.le_refl _, fun c hc => .inl hc⟩
  | c :: r, 0, acc, p, h => by
    unfold TL.spl at h
    split at h
    · rcases List.mem_cons.mp h with rfl | h
      · exact ⟨by omega, fun c hc => .inl hc⟩
      · obtain ⟨h1, h2⟩ := spl_part S r _ [] p h
        refine ⟨by simp at h1 ⊢; omega, fun d hd => ?_⟩
        rcases h2 d hd with h | h
        · cases h
        · exact .inr (List.mem_cons_of_mem _ h)
    · obtain ⟨h1, h2⟩ := spl_part S r 0 (acc ++ [c]) p h
      refine ⟨by simp at h1 ⊢; omega, fun d hd => ?_⟩
      rcases h2 d hd with h | h
      · rcases List.mem_append.mp h with h | h
        · exact .inl h
        · exact .inr (by rw [List.mem_singleton.mp h]; exact List.mem_cons_self ..)
      · exact .inr (List.mem_cons_of_mem _ h)
  | c :: r, k + 1, acc, p, h => by
    unfold TL.spl at h
    obtain ⟨h1, h2⟩ := spl_part S r k acc p h
    refine ⟨by simp at h1 ⊢; omega, fun d hd => ?_⟩
    rcases h2 d hd with h | h
    · exact .inl h
    · exact .inr (List.mem_cons_of_mem _ h)
def cutAt (c : Nat) (z : Str) : List Str := (TL.spl [c] 0 [] z.cps.toList).map SX.S
theorem split_is {z : Str} {c : Nat} (hc : c < 256) : Txt.split z ⟨#[c]⟩ = cutAt c z := by
  have := SX.split_S (a := z.cps.toList) (b := [c]) (List.cons_ne_nil _ _) (by simp; exact hc)
  rw [SX.S_tl] at this
  exact this
theorem cutAt_len {c : Nat} {z p : Str} (h : p ∈ cutAt c z) : p.length ≤ z.length := by
  obtain ⟨l, h1, rfl⟩ := List.mem_map.mp h
  have := (spl_part [c] _ 0 [] l h1).1
  rw [SX.S_len, ← str_len (z := z)]
  simpa using this
def pathOf (z : Str) : Option (List Str) := if z = "-" then some [] else if (cutAt 46 z).length ≤ 3 ∧ (cutAt 46 z).all isName = true then some (cutAt 46 z) else none
/-- a path told, or nothing -/
def PV (K : PySem.W.Frag) (H : Hp) (v : V) : Option (List Str) → Prop
  | none => v = .non
  | some ps => ∃ p, v = .ref p ∧ SqT K H p (ps.map V.str)
theorem jn_strsB {K : PySem.W.Frag} {H : Hp} : ∀ {l : List Str}, (∀ z ∈ l, z.length ≤ 1000000) → Paired (JN K H) (l.map V.str) (l.map isName)
  | [], _ => .nil
  | z :: l, h => .cons (.inl ⟨z, rfl, h z (List.mem_cons_self ..), rfl⟩) (jn_strsB fun x hx => h x (List.mem_cons_of_mem _ hx))
def sp_path_of (K : PySem.W.Frag) (mg : Str → Option Value) : Sp := fun vs H Q _ => match vs with | [.str z] => z.length ≤ 1000 ∧ ∀ v H', Same H H' → PV K H' v (pathOf z) → Q v H' | _ => False
theorem q_path_of {H : Hp} {Q : VK} {E : XK} {z : Str} (q : z.length ≤ 1000 ∧ ∀ v H', Same H H' → PV K H' v (pathOf z) → Q v H') : sp_path_of K mg [.str z] H Q E := q
local macro_rules | `(tactic| walk_at "op") => `(tactic| with_reducible refine q_path_of ?_)
theorem c_path_of (T : Txt K mg) : Cal P w K mg base 3 "path_of" (sp_path_of K mg) := by
  refine T.d_path_of.cal (k := 2) sc_path_of (by intro vs H Q E h; unfold sp_path_of at h; split at h <;> first | rfl | exact h.elim) fun f cdv A outer s H vs Q E hr h => ?_
  refine ⟨_, (pss_cons (ps_if (pt_cmpR (op_eqA hr) (pv 0) pe_str (nomark _))
    (pss_one (ps_ret (pe_tup pa_nil)))
    pss_nil)
    (pss_cons (ps_set (i := 1) sc_path_of.nd rfl (.inl rfl) (pe_callTy call_tuple1A (by rfl) T.n_tuple (by decide +kernel) (pa_cons (pe_bm PySem.F.plainAttrs_str PySem.F.slot_str_split PySem.F.type_str_split mt_split (pv 0) (pa_cons pe_str pa_nil)) pa_nil)))
    (pss_cons (ps_if (pt_not (pt_val (pe_c (c_is_path T) hr (by decide) (by rfl) (pa_cons (pv 1) pa_nil))))
    (pss_one (ps_ret pe_non))
    pss_nil)
    (pss_one (ps_ret (pv 1)))))), ?_⟩
  try simp only [cxOf_K, cxOf_K', cxOf_mg, cxOf_mg']
  unfold sp_path_of at h
  split at h
  case h_2 => exact h.elim
  rename_i z
  rw [show L2.start ["word", "path"] [V.str z] = [some (V.str z), none] from rfl]
  obtain ⟨hz, q⟩ := h
  unfold pathOf at q
  walk_at "sts"
  refine L_d (fun c1 => ?_) (fun c1 => ?_)
  · rw [if_pos c1] at q
    walk_at "sts"
    walk_at "nw"
    rename_i p hp H1 s1 e1
    walk_at "sts"
    exact q _ _ s1 ⟨p, rfl, .of e1⟩
  · rw [if_neg c1] at q
    walk_at "sts"
    refine L_tyS ?_
    walk_at "sts"
    refine ⟨z, ".", rfl, rfl, rfl, sz_dec (by omega), ?_⟩
    rw [show ("." : Str) = ⟨#[46]⟩ from rfl, split_is (by decide)]
    walk_at "nwp"
    rename_i p1 hp1 H1 s1 e1
    walk_at "sts"
    refine L_tuple1 (.of e1) ?_
    walk_at "nwp"
    rename_i p2 hp2 H2 s2 e2
    have hJ : JP K H2 (.ref p2) (decide ((cutAt 46 z).length ≤ 3) && (cutAt 46 z).all isName) := .inr ⟨p2, _, _, rfl, .of e2, jn_strsB fun x hx => by have := cutAt_len hx; omega, by rw [List.length_map, List.all_map]; rfl⟩
    walk_at "sts"
    refine ⟨_, hJ, ?_⟩
    by_cases hg : (cutAt 46 z).length ≤ 3 ∧ (cutAt 46 z).all isName = true
    · rw [if_pos hg] at q
      rw [show (decide ((cutAt 46 z).length ≤ 3) && (cutAt 46 z).all isName) = true by rw [decide_eq_true hg.1, hg.2]; rfl]
      walk_at "sts"
      exact q _ _ (s1.trans s2) ⟨p2, rfl, .of e2⟩
    · rw [if_neg hg] at q
      rw [show (decide ((cutAt 46 z).length ≤ 3) && (cutAt 46 z).all isName) = false from Bool.eq_false_iff.mpr fun h => hg (by rw [Bool.and_eq_true, decide_eq_true_eq] at h; exact h)]
      walk_at "sts"
      exact q _ _ (s1.trans s2) rfl
/-- what a word tells in its place -/
inductive Th where
  | none
  | nm (z : Str)
  | no (n : Int)
  | path (ps : List Str)
def Th.ofN : Option Int → Th
  | Option.none => .none
  | some n => .no n
def Th.ofP : Option (List Str) → Th
  | Option.none => .none
  | some ps => .path ps
def thingOf (z : Str) (pl : Int) : Th := if pl = 0 then (if isName z = true then .nm z else .none) else if pl = 1 then .ofN (within (-1000000000) 1000000000 (num z.cps.toList)) else if pl = 2 then .ofN (within 1 1000000 (num z.cps.toList)) else .ofP (pathOf z)
def TV (K : PySem.W.Frag) (H : Hp) (v : V) : Th → Prop
  | .none => v = .non
  | .nm z => v = .str z
  | .no n => v = .int n
  | .path ps => ∃ p, v = .ref p ∧ SqT K H p (ps.map V.str)
theorem tv_n {K : PySem.W.Frag} {H : Hp} : ∀ o : Option Int, TV K H (optV o) (.ofN o)
  | none => rfl
  | some _ => rfl
theorem tv_p {K : PySem.W.Frag} {H : Hp} {v : V} : ∀ {o : Option (List Str)}, PV K H v o → TV K H v (.ofP o)
  | none, h => h
  | some _, h => h
def sp_thing_of (K : PySem.W.Frag) (mg : Str → Option Value) : Sp := fun vs H Q _ => match vs with | [.str z, .int pl] => z.length ≤ 1000 ∧ ∀ v H', Same H H' → TV K H' v (thingOf z pl) → Q v H' | _ => False
theorem q_thing_of {H : Hp} {Q : VK} {E : XK} {z : Str} {pl : Int} (q : z.length ≤ 1000 ∧ ∀ v H', Same H H' → TV K H' v (thingOf z pl) → Q v H') : sp_thing_of K mg [.str z, .int pl] H Q E := q
local macro_rules | `(tactic| walk_at "op") => `(tactic| with_reducible refine q_thing_of ?_)
theorem c_thing_of (T : Txt K mg) : Cal P w K mg base 4 "thing_of" (sp_thing_of K mg) := by
  refine T.d_thing_of.cal (k := 3) sc_thing_of (by intro vs H Q E h; unfold sp_thing_of at h; split at h <;> first | rfl | exact h.elim) fun f cdv A outer s H vs Q E hr h => ?_
  refine ⟨_, (pss_cons (ps_if (pt_cmpR (op_eqA hr) (pv 1) pe_int (nomark _))
    (pss_cons (ps_if (pt_val (pe_c (c_is_name T) hr (by decide) (by rfl) (pa_cons (pv 0) pa_nil)))
    (pss_one (ps_ret (pv 0)))
    pss_nil)
    (pss_one (ps_ret pe_non)))
    pss_nil)
    (pss_cons (ps_if (pt_cmpR (op_eqA hr) (pv 1) pe_int (nomark _))
    (pss_one (ps_ret (pe_c (c_number_of T) hr (by decide) (by rfl) (pa_cons (pv 0) (pa_cons (pe_op op_sub pe_int (pe_gc (by rfl) T.g_MOST_VALUE)) (pa_cons (pe_gc (by rfl) T.g_MOST_VALUE) pa_nil))))))
    pss_nil)
    (pss_cons (ps_if (pt_cmpR (op_eqA hr) (pv 1) pe_int (nomark _))
    (pss_one (ps_ret (pe_c (c_number_of T) hr (by decide) (by rfl) (pa_cons (pv 0) (pa_cons pe_int (pa_cons (pe_gc (by rfl) T.g_MOST_SIZE) pa_nil))))))
    pss_nil)
    (pss_one (ps_ret (pe_c (c_path_of T) hr (by decide) (by rfl) (pa_cons (pv 0) pa_nil))))))), ?_⟩
  try simp only [cxOf_K, cxOf_K', cxOf_mg, cxOf_mg']
  unfold sp_thing_of at h
  split at h
  case h_2 => exact h.elim
  rename_i z pl
  rw [show L2.start ["word", "place"] [V.str z, V.int pl] = [some (V.str z), some (V.int pl)] from rfl]
  obtain ⟨hz, q⟩ := h
  unfold thingOf at q
  walk_at "sts"
  refine L_d (fun c1 => ?_) (fun c1 => ?_)
  · rw [if_pos c1] at q
    walk_at "sts"
    refine q_nameS (by omega) ?_
    cases hn : isName z with
    | true =>
      rw [hn, if_pos rfl] at q
      walk_at "sts"
      exact q _ _ (Same.refl _) rfl
    | false =>
      rw [hn, if_neg Bool.false_ne_true] at q
      walk_at "sts"
      exact q _ _ (Same.refl _) rfl
  rw [if_neg c1] at q
  walk_at "sts"
  refine L_d (fun c2 => ?_) (fun c2 => ?_)
  · rw [if_pos c2] at q
    walk_at "sa"
    refine ⟨by omega, ?_⟩
    exact q _ _ (Same.refl _) (tv_n _)
  rw [if_neg c2] at q
  walk_at "sts"
  refine L_d (fun c3 => ?_) (fun c3 => ?_)
  · rw [if_pos c3] at q
    walk_at "sts"
    refine ⟨by omega, ?_⟩
    exact q _ _ (Same.refl _) (tv_n _)
  rw [if_neg c3] at q
  walk_at "sts"
  refine ⟨by omega, fun v H' s hv => ?_⟩
  exact q _ _ s (tv_p hv)
/-- what an __init__ with two fields keeps -/
def XIni2 (C : Addr) (f g : Str) (a : Addr) (v w : V) (H : Hp) (Q : VK) : Prop := H a = some (exo a C none) ∧ ∀ d, H d = none → d ≠ a → Q .non (upd (upd (upd H d (exd d [(f, v)])) a (exo a C (some d))) d (exd d [(g, w), (f, v)]))
theorem L_mkO2 {sp : Sp} {E : XK} {C : Addr} {f g : Str} {H : Hp} {v w : V} (hs : ∀ a H Q E, XIni2 C f g a v w H Q → sp [.ref a, v, w] H Q E) (q : ∀ d, H d = none → E (.ref C) (some d) (upd H d (.xd [(g, w), (f, v)]))) : [v, w].length ≤ 1000 ∧ ∀ a, H a = none → sp (.ref a :: ([v, w] ++ [])) (upd H a (exo a C none))
  (fun v H2 => v = .non ∧ ∃ (d : Addr) (fs : List (Str × V)), H2 a = some (exo a C (some d)) ∧ H2 d = some (exd d fs) ∧ H d = none ∧ E (.ref C) (some d) (upd (del H2 a) d (.xd fs))) (fun _ _ _ => False) := by
  refine ⟨by simp, fun a na => hs a _ _ _ ⟨upd_same, fun d nd ne => ⟨rfl, d, [(g, w), (f, v)], ?_, upd_same, ?_, ?_⟩⟩⟩
  · rw [upd_ne ne.symm, upd_same]
  · rw [upd_ne ne] at nd
    exact nd
  · rw [upd_ne ne] at nd
    have z : upd (del (upd (upd (upd (upd H a (exo a C none)) d (exd d [(f, v)])) a (exo a C (some d))) d (exd d [(g, w), (f, v)])) a) d (.xd [(g, w), (f, v)]) = upd H d (.xd [(g, w), (f, v)]) := by
      funext b
      by_cases hb : b = d
      · rw [hb, upd_same, upd_same]
      · rw [upd_ne hb, upd_ne hb]
        by_cases ha : b = a
        · rw [ha, del_same, na]
        · rw [del_ne ha, upd_ne hb, upd_ne ha, upd_ne hb, upd_ne ha]
    rw [z]
    exact q d nd
def sp_NoListing___init__ (K : PySem.W.Frag) (mg : Str → Option Value) : Sp := fun vs H Q _ => match vs with | [.ref a, v, w] => XIni2 (cA mg "NoListing") "line" "word" a v w H Q | _ => False
theorem q_NoListing___init__ {H : Hp} {Q : VK} {E : XK} {a : Addr} {v : V} {w : V} (q : XIni2 (cA mg "NoListing") "line" "word" a v w H Q) : sp_NoListing___init__ K mg [.ref a, v, w] H Q E := q
local macro_rules | `(tactic| walk_at "op") => `(tactic| with_reducible refine q_NoListing___init__ ?_)
theorem x_NoListing (T : Txt K mg) : XMak P w K mg base 1 "NoListing" (cA mg "NoListing") (sp_NoListing___init__ K mg) := by
  refine XIniAt.xmak T.m_NoListing T.xi_NoListing (k := 0) sc_NoListing___init__ (by intro vs H Q E h; unfold sp_NoListing___init__ at h; split at h <;> first | rfl | exact h.elim) fun f cdv A outer s H vs Q E hr h => ?_
  refine ⟨_, (pss_cons (ps_expr (pe_baseI (by rfl) T.m_SpeakError T.b_SpeakError (pa_cons (pv 0) (pa_cons pe_str pa_nil))))
    (pss_cons (ps_ost (pv 0) (pv 1) rfl)
    (pss_one (ps_ost (pv 0) (pv 2) rfl)))), ?_⟩
  try simp only [cxOf_K, cxOf_K', cxOf_mg, cxOf_mg']
  unfold sp_NoListing___init__ at h
  split at h
  case h_2 => exact h.elim
  rename_i a v w
  rw [show L2.start ["self", "line", "word"] [V.ref a, v, w] = [some (V.ref a), some (v), some (w)] from rfl]
  obtain ⟨ha, q⟩ := h
  walk_at "sts"
  refine L_tveI ?_
  walk_at "sts"
  refine L_veI T.o_NoListing ha (by rw [List.length_singleton]; decide) ?_
  walk_at "sts"
  refine L_ost ?_
  walk_at "sts"
  refine L_ost1 T.o_NoListing T.na_NoListing_line ha fun dx nx ne => ?_
  walk_at "sts"
  dsimp only
  refine L_ost ?_
  walk_at "sts"
  exact ⟨a, _, rfl, T.o_NoListing, T.na_NoListing_word, .inr ⟨dx, _, upd_same, by rw [upd_ne ne, upd_same], by simp, q dx nx ne⟩⟩
def sp_NoPlan___init__ (K : PySem.W.Frag) (mg : Str → Option Value) : Sp := fun vs H Q _ => match vs with | [.ref a, v] => XIni1 (cA mg "NoPlan") "place" a v H Q | _ => False
theorem q_NoPlan___init__ {H : Hp} {Q : VK} {E : XK} {a : Addr} {v : V} (q : XIni1 (cA mg "NoPlan") "place" a v H Q) : sp_NoPlan___init__ K mg [.ref a, v] H Q E := q
local macro_rules | `(tactic| walk_at "op") => `(tactic| with_reducible refine q_NoPlan___init__ ?_)
theorem x_NoPlan (T : Txt K mg) : XMak P w K mg base 1 "NoPlan" (cA mg "NoPlan") (sp_NoPlan___init__ K mg) := by
  refine XIniAt.xmak T.m_NoPlan T.xi_NoPlan (k := 0) sc_NoPlan___init__ (by intro vs H Q E h; unfold sp_NoPlan___init__ at h; split at h <;> first | rfl | exact h.elim) fun f cdv A outer s H vs Q E hr h => ?_
  refine ⟨_, (pss_cons (ps_expr (pe_baseI (by rfl) T.m_SpeakError T.b_SpeakError (pa_cons (pv 0) (pa_cons pe_str pa_nil))))
    (pss_one (ps_ost (pv 0) (pv 1) rfl))), ?_⟩
  try simp only [cxOf_K, cxOf_K', cxOf_mg, cxOf_mg']
  unfold sp_NoPlan___init__ at h
  split at h
  case h_2 => exact h.elim
  rename_i a v
  rw [show L2.start ["self", "place"] [V.ref a, v] = [some (V.ref a), some (v)] from rfl]
  obtain ⟨ha, q⟩ := h
  walk_at "sts"
  refine L_tveI ?_
  walk_at "sts"
  refine L_veI T.o_NoPlan ha (by rw [List.length_singleton]; decide) ?_
  walk_at "sts"
  refine L_ost ?_
  walk_at "sts"
  refine L_ost1 T.o_NoPlan T.na_NoPlan_place ha fun dx nx ne => ?_
  exact q dx nx ne
/-! what a line of words tells -/
theorem TV.same {K : PySem.W.Frag} {H H' : Hp} {v : V} {t : Th} (h : TV K H v t) (s : Same H H') : TV K H' v t := by
  cases t with
  | none => exact h
  | nm z => exact h
  | no n => exact h
  | path ps =>
    obtain ⟨p, rfl, hT⟩ := h
    exact ⟨p, rfl, s.seqT hT⟩
theorem TV.upd {K : PySem.W.Frag} {H : Hp} {v : V} {t : Th} {p : Addr} {us : List V} {o : HO} (h : TV K H v t) (hp : H p = some (.lst us)) : TV K (upd H p o) v t := by
  cases t with
  | none => exact h
  | nm z => exact h
  | no n => exact h
  | path ps =>
    obtain ⟨q, rfl, hT⟩ := h
    exact ⟨q, rfl, sqT_upd hp hT⟩
def okW (ns : List Str) (dp : Option Nat) (z : Str) (i : Nat) : Bool :=
  match thingOf z (i : Int) with
  | .none => false
  | .nm z => !decide (z ∈ ns)
  | .no _ => true
  | .path ps => dp.all fun d => decide (ps.length = d)
def wrongAt (ns : List Str) (dp : Option Nat) : Nat → List Str → Option Nat
  | _, [] => none
  | i, z :: r => if okW ns dp z i = true then wrongAt ns dp (i + 1) r else some i
def wrongW (ns : List Str) (dp : Option Nat) (ws : List Str) : Option Nat := match wrongAt ns dp 0 (ws.take 4) with
  | some i => some i
  | none => if ws.length = 4 then none else some (min ws.length 4)
def unitIn (ws : List Str) : Option Un := match ws with
  | [a, b, c, d] => match thingOf a 0, thingOf b 1, thingOf c 2, thingOf d 3 with
    | .nm n, .no v, .no s, .path ps => some (n, v, s, ps)
    | _, _, _, _ => none
  | _ => none
def deepU (U : List Un) : Option Nat := U.head?.map fun u => u.2.2.2.length
theorem th0 (z : Str) : thingOf z ((0 : Nat) : Int) = if isName z = true then .nm z else .none := rfl
theorem th1 (z : Str) : thingOf z ((1 : Nat) : Int) = .ofN (within (-1000000000) 1000000000 (num z.cps.toList)) := rfl
theorem th2 (z : Str) : thingOf z ((2 : Nat) : Int) = .ofN (within 1 1000000 (num z.cps.toList)) := rfl
theorem th3 (z : Str) : thingOf z ((3 : Nat) : Int) = .ofP (pathOf z) := rfl
theorem ofN_nep {ps : List Str} (o : Option Int) : Th.ofN o ≠ .path ps := by
  cases o <;> exact Th.noConfusion
theorem ofN_nen {z : Str} (o : Option Int) : Th.ofN o ≠ .nm z := by
  cases o <;> exact Th.noConfusion
theorem unitIn_some {ws : List Str} {u : Un} (h : unitIn ws = some u) : ∃ a b c d, ws = [a, b, c, d] ∧ thingOf a 0 = .nm u.1 ∧ thingOf b 1 = .no u.2.1 ∧ thingOf c 2 = .no u.2.2.1 ∧ thingOf d 3 = .path u.2.2.2 := by
  unfold unitIn at h
  split at h
  · rename_i a b c d
    split at h
    · rename_i n v s ps h1 h2 h3 h4
      cases h
      exact ⟨a, b, c, d, rfl, h1, h2, h3, h4⟩
    · cases h
  · cases h
theorem wrongAt_ge {ns : List Str} {dp : Option Nat} : ∀ {l : List Str} {i j : Nat}, wrongAt ns dp i l = some j → i ≤ j ∧ j < i + l.length
  | [], _, _, h => nomatch h
  | z :: r, i, j, h => by
    unfold wrongAt at h
    split at h
    · have := wrongAt_ge h
      rw [List.length_cons]
      omega
    · cases h
      rw [List.length_cons]
      omega
theorem wrongW_none {ns : List Str} {dp : Option Nat} {ws : List Str} (h : wrongW ns dp ws = none) : wrongAt ns dp 0 (ws.take 4) = none ∧ ws.length = 4 := by
  unfold wrongW at h
  split at h
  · cases h
  · rename_i h1
    split at h
    · exact ⟨h1, by assumption⟩
    · cases h
theorem wrongAt_cons {ns : List Str} {dp : Option Nat} {z : Str} {r : List Str} {i : Nat} (h : wrongAt ns dp i (z :: r) = none) : okW ns dp z i = true ∧ wrongAt ns dp (i + 1) r = none := by
  unfold wrongAt at h
  split at h
  · exact ⟨by assumption, h⟩
  · cases h
theorem okW0 {ns : List Str} {dp : Option Nat} {z : Str} (h : okW ns dp z 0 = true) : isName z = true ∧ z ∉ ns ∧ thingOf z 0 = .nm z := by
  unfold okW at h
  rw [th0] at h
  by_cases c : isName z = true
  · rw [if_pos c] at h
    refine ⟨c, by simpa using h, ?_⟩
    show (if isName z = true then Th.nm z else .none) = _
    rw [if_pos c]
  · rw [if_neg c] at h
    cases h
theorem okW1 {ns : List Str} {dp : Option Nat} {z : Str} (h : okW ns dp z 1 = true) : ∃ n, within (-1000000000) 1000000000 (num z.cps.toList) = some n ∧ thingOf z 1 = .no n := by
  unfold okW at h
  rw [th1] at h
  cases c : within (-1000000000) 1000000000 (num z.cps.toList) with
  | none => rw [c] at h; cases h
  | some n => exact ⟨n, rfl, (th1 z).trans (by rw [c]; rfl)⟩
theorem okW2 {ns : List Str} {dp : Option Nat} {z : Str} (h : okW ns dp z 2 = true) : ∃ n, within 1 1000000 (num z.cps.toList) = some n ∧ thingOf z 2 = .no n := by
  unfold okW at h
  rw [th2] at h
  cases c : within 1 1000000 (num z.cps.toList) with
  | none => rw [c] at h; cases h
  | some n => exact ⟨n, rfl, (th2 z).trans (by rw [c]; rfl)⟩
theorem okW3 {ns : List Str} {dp : Option Nat} {z : Str} (h : okW ns dp z 3 = true) : ∃ ps, pathOf z = some ps ∧ thingOf z 3 = .path ps ∧ ∀ d, dp = some d → ps.length = d := by
  unfold okW at h
  rw [th3] at h
  cases c : pathOf z with
  | none => rw [c] at h; cases h
  | some n =>
    rw [c] at h
    refine ⟨n, rfl, (th3 z).trans (by rw [c]; rfl), fun d hd => ?_⟩
    rw [hd] at h
    exact of_decide_eq_true h
/-- a unit that a good line tells -/
theorem unitIn_ok {ns : List Str} {dp : Option Nat} {ws : List Str} (h : wrongW ns dp ws = none) : ∃ u, unitIn ws = some u := by
  obtain ⟨h1, h2⟩ := wrongW_none h
  match ws, h2 with
  | [a, b, c, d], _ =>
    obtain ⟨g0, h1⟩ := wrongAt_cons h1
    obtain ⟨g1, h1⟩ := wrongAt_cons h1
    obtain ⟨g2, h1⟩ := wrongAt_cons h1
    obtain ⟨g3, h1⟩ := wrongAt_cons h1
    obtain ⟨_, _, e0⟩ := okW0 g0
    obtain ⟨v, _, e1⟩ := okW1 g1
    obtain ⟨s, _, e2⟩ := okW2 g2
    obtain ⟨ps, _, e3, _⟩ := okW3 g3
    refine ⟨(a, v, s, ps), ?_⟩
    unfold unitIn
    simp only [e0, e1, e2, e3]
theorem q_noL {H : Hp} {E : XK} {i j : Int} (q : ∀ d H', Same H H' → H' d = some (.xd [("word", .int j), ("line", .int i)]) → E (.ref (cA mg "NoListing")) (some d) H') : [V.int i, V.int j].length ≤ 1000 ∧ ∀ a, H a = none → sp_NoListing___init__ K mg (.ref a :: ([V.int i, V.int j] ++ [])) (upd H a (exo a (cA mg "NoListing") none))
  (fun v H2 => v = .non ∧ ∃ (d : Addr) (fs : List (Str × V)), H2 a = some (exo a (cA mg "NoListing") (some d)) ∧ H2 d = some (exd d fs) ∧ H d = none ∧ E (.ref (cA mg "NoListing")) (some d) (upd (del H2 a) d (.xd fs))) (fun _ _ _ => False) :=
  L_mkO2 (fun _ _ _ _ h => h) fun d nd => q d _ (same_new nd) upd_same
def sp_unit_of (K : PySem.W.Frag) (mg : Str → Option Value) : Sp := fun vs H Q E => match vs with | [ln, .int n, .ref a] => (NotS K H ln ∧ ∀ d H', Same H H' → H' d = some (.xd [("word", .int 0), ("line", .int n)]) → E (.ref (cA mg "NoListing")) (some d) H') ∨ ∃ (z : Str) (us : List V) (U : List Un), ln = .str z ∧ z.length ≤ 1000 ∧ SqL K H a us ∧ DpAll K H us (U.map d4) ∧ U.length ≤ 24 ∧ SeqAt.shaped (.list (U.map d4)) = true ∧ (∀ i : Nat, wrongW (U.map (·.1)) (deepU U) (cutAt 32 z) = some i → ∀ d H', Same H H' → H' d = some (.xd [("word", .int (i : Int)), ("line", .int n)]) → E (.ref (cA mg "NoListing")) (some d) H') ∧ (wrongW (U.map (·.1)) (deepU U) (cutAt 32 z) = none → ∀ u, unitIn (cutAt 32 z) = some u → ∀ t H', Same H H' → Dp K H' (.ref t) (d4 u) → Q (.ref t) H') | _ => False
theorem c_unit_of (T : Txt K mg) : CalX P w K mg base 5 "unit_of" (sp_unit_of K mg) := by
  refine T.d_unit_of.calX (k := 4) sc_unit_of (by intro vs H Q E h; unfold sp_unit_of at h; split at h <;> first | rfl | exact h.elim) fun f cdv A outer s H vs Q E hr h => ?_
  refine ⟨_, (pss_cons (ps_if (pt_not (pt_val (pe_callB call_isi (by rfl) T.n_isinstance (by decide +kernel) (pa_cons (pv 0) (pa_cons (pe_ty "str" (by rfl) T.n_str (by decide +kernel)) pa_nil)))))
    (pss_one (ps_raise rfl (takes_of rfl rfl rfl rfl) (pmk_x (x_NoListing T) T.o_NoListing hr (by decide) (by rfl) (pa_cons (pv 1) (pa_cons pe_int pa_nil)))))
    pss_nil)
    (pss_cons (ps_set (i := 3) sc_unit_of.nd rfl (.inl rfl) (pe_bm PySem.F.plainAttrs_str PySem.F.slot_str_split PySem.F.type_str_split mt_split (pv 0) (pa_cons pe_str pa_nil)))
    (pss_cons (ps_set (i := 4) sc_unit_of.nd rfl (.inl rfl) (pe_lst pa_nil))
    (pss_cons (ps_for (passes_of rfl) rfl (pi_enum (by rfl) T.n_enumerate (pa_cons (pe_slice sl_list (pv 3) po_none (po_some pe_int)) pa_nil)) (pg_tup rfl (pgs_cons (pg_name (i := 5) sc_unit_of.nd rfl (.inl rfl)) (pgs_cons (pg_name (i := 6) sc_unit_of.nd rfl (.inl rfl)) pgs_nil)))
    (pss_cons (ps_set (i := 7) sc_unit_of.nd rfl (.inl rfl) (pe_c (c_thing_of T) hr (by decide) (by rfl) (pa_cons (pv 6) (pa_cons (pv 5) pa_nil))))
    (pss_cons (ps_if (PW.pt (pw_or (pt_cmpR op_isNA (pv 7) pe_non (nomark _)) (pw_or1 (PW.pt (pw_and (pt_cmpR (op_eqA hr) (pv 5) pe_int (nomark _)) (pw_and1 (pt_cmpR op_inA (pv 6) (pe_lc (own := [("unit", 8)]) (g := (gName 8)) (tt := tYes) (te := (tOp (rIx K) (tVar 8) (tC (.int 0)))) rfl sc_unit_of.nd (pi_list (pv 2)) (blkOk_by (N := ["line", "number", "units", "words", "found", "place", "word", "thing", "unit"]) (sc := defScope s_unit_of) (by decide +kernel)) (fun _ _ _ _ _ => by exact (pg_name (i := 8) sc_unit_of.nd rfl (.inl rfl))) (fun _ _ _ _ _ => pts_nil) (fun _ _ _ _ _ => by exact (pe_ix ix_seq (pv 8) pe_int (fun _ _ => rfl)))) (by rfl))))))))
    (pss_one (ps_raise rfl (takes_of rfl rfl rfl rfl) (pmk_x (x_NoListing T) T.o_NoListing hr (by decide) (by rfl) (pa_cons (pv 1) (pa_cons (pv 5) pa_nil)))))
    pss_nil)
    (pss_cons (ps_if (PW.pt (pw_and (pt_cmpR (op_eqA hr) (pv 5) pe_int (nomark _)) (pw_and (pt_cmpR (op_neA hr) (pv 2) (pe_lst pa_nil) (nomark _)) (pw_and1 (pt_cmpR (op_neA hr) (pe_callB call_lenA (by rfl) T.n_len (by decide +kernel) (pa_cons (pv 7) pa_nil)) (pe_callB call_lenA (by rfl) T.n_len (by decide +kernel) (pa_cons (pe_ix ix_seq (pe_ix ix_seq (pv 2) pe_int (fun _ _ => rfl)) pe_int (fun _ _ => rfl)) pa_nil)) (nomark _))))))
    (pss_one (ps_raise rfl (takes_of rfl rfl rfl rfl) (pmk_x (x_NoListing T) T.o_NoListing hr (by decide) (by rfl) (pa_cons (pv 1) (pa_cons (pv 5) pa_nil)))))
    pss_nil)
    (pss_one (ps_expr (pe_bm PySem.F.plainAttrs_list PySem.F.slot_list_append PySem.F.type_list_append mt_append (pv 4) (pa_cons (pv 7) pa_nil))))))))
    (pss_cons (ps_if (pt_cmpR (op_neA hr) (pe_callB call_lenA (by rfl) T.n_len (by decide +kernel) (pa_cons (pv 3) pa_nil)) pe_int (nomark _))
    (pss_one (ps_raise rfl (takes_of rfl rfl rfl rfl) (pmk_x (x_NoListing T) T.o_NoListing hr (by decide) (by rfl) (pa_cons (pv 1) (pa_cons (pe_callB (call_min2A rfl) (by rfl) T.n_min (by decide +kernel) (pa_cons (pe_callB call_lenA (by rfl) T.n_len (by decide +kernel) (pa_cons (pv 3) pa_nil)) (pa_cons pe_int pa_nil))) pa_nil)))))
    pss_nil)
    (pss_one (ps_ret (pe_callTy call_tuple1A (by rfl) T.n_tuple (by decide +kernel) (pa_cons (pv 4) pa_nil))))))))), ?_⟩
  try simp only [cxOf_K, cxOf_K', cxOf_mg, cxOf_mg']
  unfold sp_unit_of at h
  split at h
  case h_2 => exact h.elim
  rename_i ln n a
  rw [show L2.start ["line", "number", "units", "words", "found", "place", "word", "thing", "unit"] [ln, V.int n, V.ref a] = [some (ln), some (V.int n), some (V.ref a), none, none, none, none, none, none] from rfl]
  rcases h with ⟨⟨ty, h1, h2⟩, q⟩ | ⟨z, us, U, rfl, hz, hL, hA, hl, hsh, q1, q2⟩
  · walk_at "sts"
    refine L_isi h1 h2 ?_
    walk_at "sts"
    refine L_mkO ?_
    walk_at "sts"
    exact q_noL q
  have hul : us.length = U.length := by rw [hA.len, List.length_map]
  generalize hns : U.map (·.1) = ns at q1 q2
  generalize hdp : deepU U = dp at q1 q2
  walk_at "sts"
  refine L_isi (.base (.str _)) (b := true) (by decide +kernel) ?_
  walk_at "sts"
  refine L_tyS ?_
  walk_at "sts"
  refine ⟨z, " ", rfl, rfl, rfl, sz_dec (by omega), ?_⟩
  rw [show (" " : Str) = ⟨#[32]⟩ from rfl, split_is (by decide)]
  have hwl : ∀ w ∈ cutAt 32 z, w.length ≤ 1000 := fun w hw => Nat.le_trans (cutAt_len hw) hz
  generalize cutAt 32 z = ws at q1 q2 hwl
  walk_at "nwp"
  rename_i p hp H1 s1 e1
  walk_at "sts"
  walk_at "nw"
  rename_i p2 hp2 H2 s2 e2
  walk_at "sts"
  refine L_slL (.of (s2 _ _ e1)) fun p3 hp3 => ?_
  rw [cutV_map, show cutG ws none (some 4) = ws.take 4 from cutG_take ws 4]
  have s3 := same_new (o := HO.lst ((ws.take 4).map V.str)) hp3
  have e3 : upd H2 p3 (HO.lst ((ws.take 4).map V.str)) p3 = _ := upd_same
  generalize upd H2 p3 (HO.lst ((ws.take 4).map V.str)) = H3 at s3 e3
  have n32 : p3 ≠ p2 := ne_new hp3 ⟨_, e2⟩
  walk_at "sts"
  refine L_re (.of e3) ?_
  refine f_it walk_enum (fun i σ' H' => ∃ (v5 v6 v7 v8 : Option V) (vs : List V), σ' = [some (.str z), some (.int n), some (.ref a), some (.ref p), some (.ref p2), v5, v6, v7, v8] ∧ Same H1 H' ∧ H' p2 = some (.lst vs) ∧ H' p3 = some (.lst ((ws.take 4).map V.str)) ∧ vs.length = i ∧ wrongAt ns dp 0 (ws.take 4) = wrongAt ns dp i ((ws.take 4).drop i) ∧ ∀ (j : Nat) (w : Str), j < i → ws[j]? = some w → ∃ v, vs[j]? = some v ∧ TV K H' v (thingOf w (j : Int))) ⟨_, _, _, _, [], rfl, s2.trans s3, s3 _ _ e2, e3, rfl, by rw [List.drop_zero], fun j w hj => absurd hj (Nat.not_lt_zero _)⟩ (fun _ _ _ _ ⟨_, _, _, _, _, _, _, _, e, _⟩ => .of e) ?_ ?_
  · rintro i x σ' H4 H4' hi ⟨v5, v6, v7, v8, vs, rfl, s4, e4, e4', hvl, hk, hf⟩ ⟨T1, k0, t0, rfl, hTn, rfl, hk0, hx⟩
    cases hk0
    replace hx : ((ws.take 4).map V.str)[i]? = some t0 := hx
    rw [List.getElem?_map] at hx
    obtain ⟨w, hw, rfl⟩ := Option.map_eq_some_iff.mp hx
    have hi4 : i < 4 := by
      have h5 := (List.getElem?_eq_some_iff.mp hw).1
      rw [List.length_take] at h5
      omega
    have hww : ws[i]? = some w := by rw [List.getElem?_take_of_lt hi4] at hw; exact hw
    have hwz := hwl w (List.mem_of_getElem? hww)
    have hd : (ws.take 4).drop i = w :: (ws.take 4).drop (i + 1) := by
      obtain ⟨hlt, e⟩ := List.getElem?_eq_some_iff.mp hw
      rw [← e]
      exact List.drop_eq_getElem_cons hlt
    rw [hd, wrongAt] at hk
    refine L_gTup (.of upd_same) rfl ?_
    have s5 := same_new (o := HO.tup [V.int (i : Int), V.str w]) hTn
    generalize upd H4 T1 (HO.tup [V.int (i : Int), V.str w]) = H5 at s5
    walk_at "sts"
    refine ⟨by omega, fun v H6 s6 hv => ?_⟩
    walk_at "sts"
    have s46 := s4.trans (s5.trans s6)
    have bad : okW ns dp w i = false → ∀ d H', Same H6 H' → H' d = some (.xd [("word", .int (i : Int)), ("line", .int n)]) → E (.ref (cA mg "NoListing")) (some d) H' := fun ho d H' s h => q1 i (by
      rw [ho] at hk
      unfold wrongW
      rw [hk]
      rfl) d H' (s1.trans (s46.trans s)) h
    by_cases hvn : v = .non
    · refine L_dT hvn ?_
      walk_at "sts"
      refine L_mkO ?_
      walk_at "sts"
      refine q_noL (bad ?_)
      unfold okW
      cases ht : thingOf w (i : Int) <;> rw [ht] at hv
      · rw [hvn] at hv; cases hv
      · rw [hvn] at hv; cases hv
      · obtain ⟨_, e, _⟩ := hv
        rw [hvn] at e
        cases e
    refine L_dF hvn ?_
    have inv : ∀ H', Same H6 H' → okW ns dp w i = true → Same H1 (upd H' p2 (.lst (vs ++ [v]))) ∧ upd H' p2 (.lst (vs ++ [v])) p2 = some (.lst (vs ++ [v])) ∧ upd H' p2 (.lst (vs ++ [v])) p3 = some (.lst ((ws.take 4).map V.str)) ∧ (vs ++ [v]).length = i + 1 ∧ wrongAt ns dp 0 (ws.take 4) = wrongAt ns dp (i + 1) ((ws.take 4).drop (i + 1)) ∧ ∀ (j : Nat) (w : Str), j < i + 1 → ws[j]? = some w → ∃ v', (vs ++ [v])[j]? = some v' ∧ TV K (upd H' p2 (.lst (vs ++ [v]))) v' (thingOf w (j : Int)) := by
      intro H' s ho
      have hS := s46.trans s
      have hp2H : H' p2 = some (.lst vs) := (s5.trans (s6.trans s)) _ _ e4
      refine ⟨same_mut hS hp2, upd_same, ?_, by simp [hvl], by rw [hk, if_pos ho], fun j y hj hy => ?_⟩
      · rw [upd_ne n32]
        exact (s5.trans (s6.trans s)) _ _ e4'
      · rcases Nat.lt_or_ge j i with hji | hji
        · obtain ⟨v', h1, h2⟩ := hf j y hji hy
          exact ⟨v', by rw [List.getElem?_append_left (by omega)]; exact h1, (h2.same (s5.trans (s6.trans s))).upd hp2H⟩
        · obtain rfl : j = i := by omega
          rw [hww] at hy
          cases hy
          exact ⟨v, by rw [List.getElem?_append_right (by omega), hvl, Nat.sub_self]; rfl, (hv.same s).upd hp2H⟩
    have hL6 := (s1.trans s46).seq hL
    have hA6 := hA.same (s1.trans s46)
    walk_at "sts"
    refine L_d (fun c1 => ?_) (fun c1 => ?_)
    · obtain rfl : i = 0 := by omega
      walk_at "sts"
      refine L_rl hL6 ?_
      refine lc_fm walk_list (fun i => (U[i]?).map fun u => V.str u.1) (by omega) (fun H' s => s.seq hL6) ?_ ?_
      · rintro i2 x2 H7 H7' R R' hi2 sm ⟨e8, hx2⟩ r1 r2
        subst e8
        obtain ⟨u, t, pq, hu, rfl, hT, hP⟩ := hit4 hA6 hx2
        walk_at "sts"
        refine ⟨rfl, ?_⟩
        walk_at "sts"
        refine L_ixT (sm.seqT hT) rfl ?_
        walk_at "sts"
        exact r1 _ _ (by rw [hu]; rfl) (Same.refl _)
      intro p7 H7 hp7 s7 e7
      rw [hul, fm_get, show (U.map fun u => V.str u.1) = ns.map V.str by rw [← hns, List.map_map]; rfl] at e7
      refine L_inSs (.of e7) ?_
      cases ht : thingOf w ((0 : Nat) : Int) with
      | none => rw [ht] at hv; exact absurd hv hvn
      | no _ => rw [th0] at ht; split at ht <;> cases ht
      | path _ => rw [th0] at ht; split at ht <;> cases ht
      | nm y =>
        obtain rfl : y = w := by rw [th0] at ht; split at ht <;> cases ht; rfl
        walk_at "sts"
        refine L_d (fun c2 => ?_) (fun c2 => ?_)
        · walk_at "sts"
          refine L_mkO ?_
          walk_at "sts"
          refine q_noL (fun d H' s => bad ?_ d H' (s7.trans s))
          unfold okW
          rw [ht]
          simpa using c2
        · walk_at "sts"
          refine L_dF (by decide) ?_
          walk_at "sts"
          refine L_tyL (.of ((s5.trans (s6.trans s7)) _ _ e4)) ?_
          walk_at "sts"
          refine L_app ((s5.trans (s6.trans s7)) _ _ e4) (by rw [hvl]; exact sz_lt (by omega)) ?_
          refine ⟨_, _, _, _, _, rfl, inv H7 s7 ?_⟩
          unfold okW
          rw [ht]
          simpa using c2
    · walk_at "sts"
      refine L_d (fun c2 => ?_) (fun c2 => ?_)
      · obtain rfl : i = 3 := by omega
        obtain ⟨ps, pa, htp, ht, rfl, hTp⟩ : ∃ ps pa, pathOf w = some ps ∧ thingOf w ((3 : Nat) : Int) = .path ps ∧ v = .ref pa ∧ SqT K H6 pa (ps.map V.str) := by
          rw [th3] at hv ⊢
          cases hp : pathOf w with
          | none => rw [hp] at hv; exact absurd hv hvn
          | some ps =>
            rw [hp] at hv
            obtain ⟨pa, h1, h2⟩ := hv
            exact ⟨ps, pa, rfl, rfl, h1, h2⟩
        have fin : ∀ H', Same H6 H' → okW ns dp w 3 = true → ∃ (v5 v6 v7 v8' : Option V) (vs' : List V), [some (V.str z), some (.int n), some (.ref a), some (.ref p), some (.ref p2), some (.int ((3 : Nat) : Int)), some (.str w), some (.ref pa), v8] = [some (V.str z), some (.int n), some (.ref a), some (.ref p), some (.ref p2), v5, v6, v7, v8'] ∧ Same H1 (upd H' p2 (.lst (vs ++ [.ref pa]))) ∧ (upd H' p2 (.lst (vs ++ [.ref pa]))) p2 = some (.lst vs') ∧ (upd H' p2 (.lst (vs ++ [.ref pa]))) p3 = some (.lst ((ws.take 4).map V.str)) ∧ vs'.length = 3 + 1 ∧ wrongAt ns dp 0 (ws.take 4) = wrongAt ns dp (3 + 1) ((ws.take 4).drop (3 + 1)) ∧ ∀ (j : Nat) (w : Str), j < 3 + 1 → ws[j]? = some w → ∃ v, vs'[j]? = some v ∧ TV K (upd H' p2 (.lst (vs ++ [.ref pa]))) v (thingOf w (j : Int)) := fun H' s ho => ⟨_, _, _, _, _, rfl, inv H' s ho⟩
        have okd : okW ns dp w 3 = dp.all fun d => decide (ps.length = d) := by
          unfold okW
          rw [ht]
        rw [okd] at bad fin
        walk_at "sts"
        walk_at "nw"
        rename_i p7 hp7 H7 s7 e7
        walk_at "sts"
        refine L_neD (.lst (s7.seq hL6) (hA6.same s7)) (.lst (.of e7) .nil) hsh (shp_lst (n := 0) shp_nil).ok ?_
        cases U with
        | nil =>
          rw [show PyData.eqv (.list (([] : List Un).map d4)) (.list []) = true from rfl]
          walk_at "sts"
          refine L_tyL (.of ((s5.trans (s6.trans s7)) _ _ e4)) ?_
          walk_at "sts"
          refine L_app ((s5.trans (s6.trans s7)) _ _ e4) (by rw [hvl]; exact sz_lt (by omega)) ?_
          refine fin H7 s7 ?_
          rw [← hdp]
          rfl
        | cons u0 U' =>
          rw [show PyData.eqv (.list ((u0 :: U').map d4)) (.list []) = false from rfl]
          obtain ⟨x0, us', rfl⟩ : ∃ x0 us', us = x0 :: us' := by
            cases us with
            | nil => cases hul
            | cons x0 us' => exact ⟨x0, us', rfl⟩
          obtain ⟨u, t, pq, hu, rfl, hT, hP⟩ := hit4 (hA6.same s7) (i := 0) rfl
          cases hu
          walk_at "sts"
          refine L_lenT (s7.seqT hTp) ?_
          walk_at "sts"
          refine L_ixL (s7.seq hL6) (atI_int (show (0 : Int) ≤ 0 by decide) rfl) ?_
          walk_at "sts"
          refine L_ixT hT rfl ?_
          walk_at "sts"
          refine L_lenT hP ?_
          refine L_neI ?_
          rw [List.length_map, List.length_map]
          walk_at "sts"
          refine L_nd (fun c3 => ?_) (fun c3 => ?_)
          · walk_at "sts"
            refine L_mkO ?_
            walk_at "sts"
            refine q_noL (fun d H' s => bad ?_ d H' (s7.trans s))
            rw [← hdp]
            show decide (ps.length = u0.2.2.2.length) = false
            rw [decide_eq_false (by omega)]
          · walk_at "sts"
            refine L_tyL (.of ((s5.trans (s6.trans s7)) _ _ e4)) ?_
            walk_at "sts"
            refine L_app ((s5.trans (s6.trans s7)) _ _ e4) (by rw [hvl]; exact sz_lt (by omega)) ?_
            refine fin H7 s7 ?_
            rw [← hdp]
            show decide (ps.length = u0.2.2.2.length) = true
            rw [decide_eq_true (by omega)]
      · walk_at "sts"
        refine L_tyL (.of ((s5.trans s6) _ _ e4)) ?_
        walk_at "sts"
        refine L_app ((s5.trans s6) _ _ e4) (by rw [hvl]; exact sz_lt (by omega)) ?_
        refine ⟨_, _, _, _, _, rfl, inv H6 (Same.refl _) ?_⟩
        obtain rfl | rfl : i = 1 ∨ i = 2 := by omega
        · unfold okW
          cases ht : thingOf w ((1 : Nat) : Int) with
          | none => rw [ht] at hv; exact absurd hv hvn
          | no _ => rfl
          | path _ => rw [th1] at ht; exact absurd ht (ofN_nep _)
          | nm y => rw [th1] at ht; exact absurd ht (ofN_nen _)
        · unfold okW
          cases ht : thingOf w ((2 : Nat) : Int) with
          | none => rw [ht] at hv; exact absurd hv hvn
          | no _ => rfl
          | path _ => rw [th2] at ht; exact absurd ht (ofN_nep _)
          | nm y => rw [th2] at ht; exact absurd ht (ofN_nen _)
  · rintro σ' H4 ⟨v5, v6, v7, v8, vs, rfl, s4, e4, e4', hvl, hk, hf⟩
    have hS4 := s1.trans s4
    rw [List.length_map] at hvl hk
    rw [show (ws.take 4).drop (ws.take 4).length = [] from List.drop_eq_nil_of_le (Nat.le_refl _)] at hk
    rw [List.length_map] at hf
    have hk0 : wrongW ns dp ws = if ws.length = 4 then none else some (min ws.length 4) := by
      unfold wrongW
      rw [hk]
      rfl
    walk_at "sts"
    refine L_lenL (.of (s4 _ _ e1)) ?_
    refine L_neI ?_
    rw [List.length_map]
    walk_at "sts"
    refine L_nd (fun c1 => ?_) (fun c1 => ?_)
    · walk_at "sts"
      refine L_mkO ?_
      walk_at "sts"
      refine L_lenL (.of (s4 _ _ e1)) ?_
      rw [List.length_map]
      walk_at "sts"
      rw [show min ((ws.length : Nat) : Int) 4 = ((min ws.length 4 : Nat) : Int) by omega]
      exact q_noL (fun d H' s => q1 _ (hk0.trans (if_neg (by omega))) d H' (hS4.trans s))
    · have h4 : ws.length = 4 := by omega
      have hno : wrongW ns dp ws = none := hk0.trans (if_pos h4)
      obtain ⟨u, hu⟩ := unitIn_ok hno
      obtain ⟨wa, wb, wc, wd, rfl, h0, h1, h2, h3⟩ := unitIn_some hu
      obtain ⟨x0, g0, t0⟩ := hf 0 wa (show _ < 4 by decide) rfl
      obtain ⟨x1, g1, t1⟩ := hf 1 wb (show _ < 4 by decide) rfl
      obtain ⟨x2, g2, t2⟩ := hf 2 wc (show _ < 4 by decide) rfl
      obtain ⟨x3, g3, t3⟩ := hf 3 wd (show _ < 4 by decide) rfl
      have t0' : TV K H4 x0 (.nm u.1) := h0 ▸ t0
      have t1' : TV K H4 x1 (.no u.2.1) := h1 ▸ t1
      have t2' : TV K H4 x2 (.no u.2.2.1) := h2 ▸ t2
      have t3' : TV K H4 x3 (.path u.2.2.2) := h3 ▸ t3
      obtain rfl : x0 = .str u.1 := t0'
      obtain rfl : x1 = .int u.2.1 := t1'
      obtain rfl : x2 = .int u.2.2.1 := t2'
      obtain ⟨pq, rfl, hP⟩ := t3'
      have hvs : vs = [.str u.1, .int u.2.1, .int u.2.2.1, .ref pq] := by
        match vs, hvl with
        | [y0, y1, y2, y3], _ =>
          cases g0
          cases g1
          cases g2
          cases g3
          rfl
      subst hvs
      walk_at "sts"
      refine L_tuple1 (.of e4) ?_
      walk_at "nwp"
      rename_i p8 hp8 H8 s8 e8
      exact q2 hno u hu p8 H8 (hS4.trans s8) (.tup (.of e8) (.cons (.str _) (.cons (.int _) (.cons (.int _) (.cons (.tup (s8.seqT hP) (dp_strs _)) .nil)))))
/-- a line handed in: a text, or another thing -/
def LV (K : PySem.W.Frag) (H : Hp) (v : V) : Option Str → Prop
  | none => NotS K H v
  | some z => v = .str z ∧ z.length ≤ 1000
theorem LV.same {K : PySem.W.Frag} {H H' : Hp} {v : V} {o : Option Str} (h : LV K H v o) (s : Same H H') : LV K H' v o := by
  cases o with
  | none => exact NotS.same h s
  | some z => exact h
/-- what lines tell, behind the units U: the first wrong line and its first wrong word, or all units -/
def readL (U : List Un) : Nat → List (Option Str) → Sum (Nat × Nat) (List Un)
  | _, [] => .inr U
  | n, none :: _ => .inl (n, 0)
  | n, some z :: r => match wrongW (U.map (·.1)) (deepU U) (cutAt 32 z) with
    | some i => .inl (n, i)
    | none => match unitIn (cutAt 32 z) with
      | some u => readL (U ++ [u]) (n + 1) r
      | none => .inl (n, 0)
def WU (u : Un) : Prop := GN u.1 ∧ ∀ z ∈ u.2.2.2, GN z
theorem shp_us {U : List Un} (h : ∀ u ∈ U, WU u) : SeqAt.shaped (.list (U.map d4)) = true := (shp_lst (n := 2) (shp_map fun u hu => shp_tup (n := 1) (shp_cons (shp_str (h u hu).1.ok) (shp_cons shp_int (shp_cons shp_int (shp_cons (shp_tup (n := 0) (shp_map fun z hz => shp_str ((h u hu).2 z hz).ok)) shp_nil)))))).ok
theorem wu_of {z : List Str} {ns : List Str} {dp : Option Nat} {u : Un} (h : wrongW ns dp z = none) (hu : unitIn z = some u) : WU u := by
  obtain ⟨h1, h2⟩ := wrongW_none h
  obtain ⟨a, b, c, d, rfl, e0, e1, e2, e3⟩ := unitIn_some hu
  obtain ⟨g0, h1⟩ := wrongAt_cons h1
  obtain ⟨g1, h1⟩ := wrongAt_cons h1
  obtain ⟨g2, h1⟩ := wrongAt_cons h1
  obtain ⟨g3, h1⟩ := wrongAt_cons h1
  obtain ⟨n0, _, f0⟩ := okW0 g0
  obtain ⟨ps, hp, f3, _⟩ := okW3 g3
  rw [f0] at e0
  rw [f3] at e3
  cases e0
  refine ⟨gn_of n0, fun x hx => ?_⟩
  rw [← Th.path.inj e3] at hx
  unfold pathOf at hp
  split at hp
  · cases hp; cases hx
  · split at hp
    · rename_i hall
      cases hp
      exact gn_of (List.all_eq_true.mp hall.2 x hx)
    · cases hp
theorem seqT_rs {K : PySem.W.Frag} {H : Hp} {p a : Addr} {us xs : List V} (hp : H p = some (.lst us)) (h : SqT K H a xs) : SqT K (rs (· ≠ p) H) a xs := by
  rcases h with (h | ⟨o', h⟩) | h
  · exact .inl (.inl (rs_at (fun z => by rw [z, hp] at h; cases h) h))
  · exact .inl (.inr ⟨o', rs_at (fun z => by rw [z, hp] at h; cases h) h⟩)
  · exact .inr h
theorem d4_rs {K : PySem.W.Frag} {H : Hp} {p t : Addr} {us : List V} {u : Un} (h : Dp K H (.ref t) (d4 u)) (hp : H p = some (.lst us)) : Dp K (rs (· ≠ p) H) (.ref t) (d4 u) := by
  obtain ⟨t', x0, x1, x2, x3, e, h4, h5, h6, h7, h8⟩ := of_t4 h
  cases e
  rw [of_str h5, of_int h6, of_int h7] at h4
  obtain ⟨q, xs, rfl, h9, h10⟩ := of_tup h8
  rw [of_strs h10] at h9
  exact .tup (seqT_rs hp h4) (.cons (.str _) (.cons (.int _) (.cons (.int _) (.cons (.tup (seqT_rs hp h9) (dp_strs _)) .nil))))
def sp_listing_of (K : PySem.W.Frag) (mg : Str → Option Value) : Sp := fun vs H Q E => match vs with | [v] => (NotL K H v ∧ ∀ H', Same H H' → E (.ref (cA mg "NoUnits")) none H') ∨ ∃ a xs, v = .ref a ∧ SqL K H a xs ∧ xs.length ≤ 1000 ∧ ((¬ (1 ≤ xs.length ∧ xs.length ≤ 24) ∧ ∀ H', Same H H' → E (.ref (cA mg "NoUnits")) none H') ∨ (1 ≤ xs.length ∧ xs.length ≤ 24 ∧ ∃ ls, Paired (LV K H) xs ls ∧ (∀ n i, readL [] 0 ls = .inl (n, i) → ∀ d H', Same H H' → H' d = some (.xd [("word", .int (i : Int)), ("line", .int (n : Int))]) → E (.ref (cA mg "NoListing")) (some d) H') ∧ (∀ U, readL [] 0 ls = .inr U → ∀ p vs H', H p = none → Same H H' → H' p = some (.lst vs) → DpAll K (rs (· ≠ p) H') vs (U.map d4) → Q (.ref p) H'))) | _ => False
theorem c_listing_of (T : Txt K mg) : CalX P w K mg base 6 "listing_of" (sp_listing_of K mg) := by
  refine T.d_listing_of.calX (k := 5) sc_listing_of (by intro vs H Q E h; unfold sp_listing_of at h; split at h <;> first | rfl | exact h.elim) fun f cdv A outer s H vs Q E hr h => ?_
  refine ⟨_, (pss_cons (ps_if (PW.pt (pw_or (pt_not (pt_val (pe_callB call_isi (by rfl) T.n_isinstance (by decide +kernel) (pa_cons (pv 0) (pa_cons (pe_ty "list" (by rfl) T.n_list (by decide +kernel)) pa_nil))))) (pw_or1 (pt_not (pt_chain op_leA op_leA pe_int (pe_callB call_lenA (by rfl) T.n_len (by decide +kernel) (pa_cons (pv 0) pa_nil)) (pe_gc (by rfl) T.g_MOST_UNITS))))))
    (pss_one (ps_raise rfl (takes_of rfl rfl rfl rfl) (pmk_own0 T.x_NoUnits T.m_NoUnits (by rfl))))
    pss_nil)
    (pss_cons (ps_set (i := 1) sc_listing_of.nd rfl (.inl rfl) (pe_lst pa_nil))
    (pss_cons (ps_for (passes_of rfl) rfl (pi_enum (by rfl) T.n_enumerate (pa_cons (pv 0) pa_nil)) (pg_tup rfl (pgs_cons (pg_name (i := 2) sc_listing_of.nd rfl (.inl rfl)) (pgs_cons (pg_name (i := 3) sc_listing_of.nd rfl (.inl rfl)) pgs_nil)))
    (pss_one (ps_expr (pe_bm PySem.F.plainAttrs_list PySem.F.slot_list_append PySem.F.type_list_append mt_append (pv 1) (pa_cons (pe_xS (c_unit_of T) hr (by decide) (by rfl) (fun σ => passAt (takes_of rfl rfl rfl rfl) σ) (pa_cons (pv 3) (pa_cons (pv 2) (pa_cons (pv 1) pa_nil)))) pa_nil)))))
    (pss_one (ps_ret (pv 1)))))), ?_⟩
  try simp only [cxOf_K, cxOf_K', cxOf_mg, cxOf_mg']
  unfold sp_listing_of at h
  split at h
  case h_2 => exact h.elim
  rename_i v
  rw [show L2.start ["lines", "units", "number", "line"] [v] = [some (v), none, none, none] from rfl]
  rcases h with ⟨⟨ty, h1, h2⟩, q⟩ | ⟨a, xs, rfl, hL, hl, h⟩
  · walk_at "sts"
    refine L_isi h1 h2 ?_
    walk_at "sts"
    exact q _ (Same.refl _)
  walk_at "sts"
  refine L_isi (tyx_L hL) (b := true) (by decide +kernel) ?_
  walk_at "sts"
  refine L_lenL hL ?_
  walk_at "sts"
  rcases h with ⟨hb, q⟩ | ⟨h0, h24, ls, hP, q1, q2⟩
  · refine L_d (fun c1 => ?_) (fun c1 => ?_)
    · walk_at "sts"
      refine L_nd (fun c2 => ?_) (fun c2 => ?_)
      · walk_at "sts"
        exact q _ (Same.refl _)
      · exact absurd ⟨by omega, by omega⟩ hb
    · walk_at "sts"
      exact q _ (Same.refl _)
  refine L_dT (by omega) ?_
  walk_at "sts"
  refine L_ndF (by omega) ?_
  have hlen := pd_len hP
  walk_at "sts"
  walk_at "nw"
  rename_i p hp H1 s1 e1
  walk_at "sts"
  refine L_re (s1.seq hL) ?_
  refine f_it walk_enum (fun i σ' H' => ∃ (v2 v3 : Option V) (vs : List V) (U : List Un), σ' = [some (.ref a), some (.ref p), v2, v3] ∧ Same H H' ∧ H' p = some (.lst vs) ∧ DpAll K (rs (· ≠ p) H') vs (U.map d4) ∧ U.length = i ∧ (∀ u ∈ U, WU u) ∧ readL [] 0 ls = readL U i (ls.drop i)) ⟨none, none, [], [], rfl, s1, e1, .nil, rfl, by simp, by rw [List.drop_zero]⟩ (fun _ _ _ _ ⟨_, _, _, _, _, s, _⟩ => s.seq hL) ?_ ?_
  · rintro i x σ' H2 H2' hi ⟨v2, v3, vs, U, rfl, s2, e2, hA, hlu, hW, hk⟩ ⟨T1, k0, t0, rfl, hTn, rfl, hk0, hx⟩
    cases hk0
    replace hx : xs[i]? = some t0 := hx
    obtain ⟨o, ho, hlv⟩ := LiI.paired_get hP hx
    have hd : ls.drop i = o :: ls.drop (i + 1) := by
      obtain ⟨hlt, e⟩ := List.getElem?_eq_some_iff.mp ho
      rw [← e]
      exact List.drop_eq_getElem_cons hlt
    rw [hd] at hk
    refine L_gTup (.of upd_same) rfl ?_
    have s3 := same_new (o := HO.tup [V.int (i : Int), t0]) hTn
    generalize upd H2 T1 (HO.tup [V.int (i : Int), t0]) = H3 at s3
    have hvl : vs.length = i := by rw [hA.len, List.length_map, hlu]
    walk_at "sts"
    refine L_tyL (.of (s3 _ _ e2)) ?_
    walk_at "sts"
    cases o with
    | none => exact .inl ⟨NotS.same hlv (s2.trans s3), fun d H' s h => q1 i 0 hk d H' (s2.trans (s3.trans s)) h⟩
    | some z =>
      obtain ⟨rfl, hz⟩ := hlv
      refine .inr ⟨z, vs, U, rfl, hz, .of (s3 _ _ e2), (hA.same rs_sub).same s3, by omega, shp_us hW, fun j hj d H' s h => q1 i j (hk.trans (by unfold readL; rw [hj])) d H' (s2.trans (s3.trans s)) h, fun hn u hu t H4 s4 hD => ?_⟩
      have e4 := s4 _ _ (s3 _ _ e2)
      walk_at "sts"
      refine L_app e4 (by rw [hvl]; exact sz_lt (by omega)) ?_
      refine ⟨_, _, vs ++ [.ref t], U ++ [u], rfl, same_mut (s2.trans (s3.trans s4)) hp, upd_same, ?_, by simp [hlu], ?_, ?_⟩
      · rw [List.map_append]
        exact dp_grow hA (s3.trans s4) (d4_rs hD e4)
      · intro y hy
        rcases List.mem_append.mp hy with hy | hy
        · exact hW y hy
        · rw [List.mem_singleton.mp hy]
          exact wu_of hn hu
      · rw [hk]
        conv => lhs; unfold readL
        rw [hn, hu]
  · rintro σ' H2 ⟨v2, v3, vs, U, rfl, s2, e2, hA, hlu, hW, hk⟩
    rw [show ls.drop xs.length = [] from List.drop_eq_nil_of_le (by omega)] at hk
    walk_at "sts"
    exact q2 U hk p vs H2 hp s2 e2 hA
def wordOf (ps : List Str) : Str := if ps = [] then "-" else Txt.join "." ps
theorem word_len {ps : List Str} (h : ps.length ≤ 3) (hg : ∀ z ∈ ps, GN z) : (wordOf ps).length ≤ 100 := by
  unfold wordOf
  split
  · decide
  · rw [show ("." : Str) = ⟨#[46]⟩ from rfl, join_is, SX.S_len]
    have h1 := joinL_len [46] (ps.map fun z => z.cps.toList)
    have hsum : ∀ l : List Str, (∀ z ∈ l, GN z) → ((l.map fun z => z.cps.toList).map (·.length)).sum ≤ 8 * l.length := fun l => by
      induction l with
      | nil => intro _; simp
      | cons z l ih =>
        intro h
        have h1 := (h z (List.mem_cons_self ..)).2.1
        have h2 := ih fun y hy => h y (List.mem_cons_of_mem _ hy)
        rw [← str_len] at h1
        rw [List.map_cons, List.map_cons, List.sum_cons, List.length_cons]
        omega
    have h2 := hsum ps hg
    rw [List.length_map, List.length_singleton] at h1
    omega
def lineOf (u : Un) : Str := Str.empty ++ u.1 ++ " " ++ (↑(toString u.2.1) : Str) ++ " " ++ (↑(toString u.2.2.1) : Str) ++ " " ++ wordOf u.2.2.2
/-! a unit's line tells it -/
theorem num_txt {v : Int} (h : -1000000000000 < v ∧ v < 1000000000000) : num (Str.ofString (toString v)).cps.toList = some v := by
  have fg : ∀ m : Nat, m < 10 ^ (11 + 1) → figs (dg m) = true := fun m hm => figs_iff.mpr ⟨List.length_pos_iff.mpr (dg_ne m), dg_len 11 m hm, dg_all m, by rw [dg_val]⟩
  have e12 : (10 : Nat) ^ (11 + 1) = 1000000000000 := by decide
  rcases sgn_any v with ⟨h0, hs⟩ | ⟨h0, hs⟩
  · rw [hs]
    unfold num
    rw [if_neg, if_pos (fg _ (by omega)), dg_val]
    · congr 1
      omega
    · intro z
      have := dg_all v.toNat 45 (List.mem_of_mem_head? z)
      omega
  · rw [hs]
    unfold num
    rw [if_pos (show (45 :: dg (-v).toNat).head? = some 45 from rfl), List.tail_cons, if_pos, dg_val]
    · congr 1
      omega
    · refine ⟨fg _ (by omega), fun z => ?_⟩
      obtain ⟨c, r, e, hc⟩ := dg_head (-v).toNat (by omega)
      rw [z] at e
      cases e
      omega
theorem no_txt {v : Int} {c : Nat} (h : c ∈ (Str.ofString (toString v)).cps.toList) : 45 ≤ c ∧ c ≤ 57 := by
  rcases sgn_any v with ⟨h0, hs⟩ | ⟨h0, hs⟩
  · rw [hs] at h
    have := dg_all _ c h
    omega
  · rw [hs] at h
    rcases List.mem_cons.mp h with rfl | h
    · omega
    · have := dg_all _ c h
      omega
theorem mem_joinL {S : List Nat} {c : Nat} : ∀ {ls : List (List Nat)}, c ∈ TL.joinL S ls → c ∈ S ∨ ∃ p ∈ ls, c ∈ p
  | [], h => nomatch h
  | [p], h => .inr ⟨p, List.mem_cons_self .., h⟩
  | p :: q :: r, h => by
    have h' : c ∈ p ++ (S ++ TL.joinL S (q :: r)) := h
    rcases List.mem_append.mp h' with h' | h'
    · exact .inr ⟨p, List.mem_cons_self .., h'⟩
    · rcases List.mem_append.mp h' with h' | h'
      · exact .inl h'
      · rcases mem_joinL h' with h' | ⟨x, hx, h'⟩
        · exact .inl h'
        · exact .inr ⟨x, List.mem_cons_of_mem _ hx, h'⟩
theorem word_list {ps : List Str} (h : ps ≠ []) : (wordOf ps).cps.toList = TL.joinL [46] (ps.map fun z => z.cps.toList) := by
  unfold wordOf
  rw [if_neg h, show ("." : Str) = ⟨#[46]⟩ from rfl, join_is]
theorem no_word {ps : List Str} (hg : ∀ z ∈ ps, GN z) {c : Nat} (h : c ∈ (wordOf ps).cps.toList) : 45 ≤ c ∧ c ≤ 122 := by
  by_cases hp : ps = []
  · rw [hp] at h
    have : c ∈ [45] := h
    rw [List.mem_singleton.mp this]
    decide
  · rw [word_list hp] at h
    rcases mem_joinL h with h | ⟨p, hp, h⟩
    · rw [List.mem_singleton.mp h]; decide
    · obtain ⟨z, hz, rfl⟩ := List.mem_map.mp hp
      have := (hg z hz).2.2 c h
      omega
theorem path_word {ps : List Str} (hl : ps.length ≤ 3) (hg : ∀ z ∈ ps, GN z) : pathOf (wordOf ps) = some ps := by
  by_cases hp : ps = []
  · rw [hp]
    rfl
  · have hne : wordOf ps ≠ "-" := by
      intro z
      have e : TL.joinL [46] (ps.map fun z => z.cps.toList) = [45] := by rw [← word_list hp, z]; rfl
      cases ps with
      | nil => exact hp rfl
      | cons x r =>
        have gx := hg x (List.mem_cons_self ..)
        obtain ⟨c, l, hx⟩ : ∃ c l, x.cps.toList = c :: l := by
          cases hc : x.cps.toList with
          | nil => have := gx.1; rw [← str_len, hc] at this; simp at this
          | cons c l => exact ⟨c, l, rfl⟩
        have hc := gx.2.2 c (by rw [hx]; exact List.mem_cons_self ..)
        have : (TL.joinL [46] ((x :: r).map fun z => z.cps.toList)).head? = some c := by
          cases r with
          | nil => show (x.cps.toList).head? = _; rw [hx]; rfl
          | cons y r => show (x.cps.toList ++ _).head? = _; rw [hx]; rfl
        rw [e] at this
        cases this
        omega
    have hcut : cutAt 46 (wordOf ps) = ps := by
      unfold cutAt
      rw [word_list hp, SX.spl_join (by simpa using hp) ?_, List.map_map]
      · exact (List.map_congr_left fun z _ => SX.S_tl z).trans (List.map_id _)
      · intro p hp
        obtain ⟨z, hz, rfl⟩ := List.mem_map.mp hp
        intro h46
        have := (hg z hz).2.2 46 h46
        omega
    unfold pathOf
    rw [if_neg hne, hcut, if_pos ⟨hl, List.all_eq_true.mpr fun z hz => (hg z hz).isN⟩]
theorem line_list (u : Un) : (lineOf u).cps.toList = TL.joinL [32] [u.1.cps.toList, (Str.ofString (toString u.2.1)).cps.toList, (Str.ofString (toString u.2.2.1)).cps.toList, (wordOf u.2.2.2).cps.toList] := by
  unfold lineOf
  rw [str_app_list, str_app_list, str_app_list, str_app_list, str_app_list, str_app_list, str_app_list]
  show [] ++ _ ++ [32] ++ _ ++ [32] ++ _ ++ [32] ++ _ = _ ++ ([32] ++ (_ ++ ([32] ++ (_ ++ ([32] ++ _)))))
  simp only [List.nil_append, List.append_assoc]
  rfl
theorem line_join (u : Un) : Txt.join " " [u.1, ↑(toString u.2.1), ↑(toString u.2.2.1), wordOf u.2.2.2] = lineOf u := by
  rw [show (" " : Str) = ⟨#[32]⟩ from rfl, join_is, ← SX.S_tl (lineOf u), line_list]
  rfl
theorem line_ok {d : Nat} {u : Un} (g : GU d u) : PyData.strOk (lineOf u) = true := by
  refine strOk_of fun c hc => ?_
  rw [line_list] at hc
  rcases mem_joinL hc with h | ⟨p, hp, h⟩
  · rw [List.mem_singleton.mp h]; decide
  · simp only [List.mem_cons, List.not_mem_nil, or_false] at hp
    rcases hp with rfl | rfl | rfl | rfl
    · have := g.n.2.2 c h; omega
    · have := no_txt h; omega
    · have := no_txt h; omega
    · have := no_word g.g h; omega
theorem line_len {d : Nat} {u : Un} (g : GU d u) : (lineOf u).length ≤ 200 := by
  have lw : (wordOf u.2.2.2).length ≤ 100 := word_len (by have := g.p; omega) g.g
  have lv : (↑(toString u.2.1) : Str).length ≤ 14 := str_lenB (by have := g.v; omega)
  have ls : (↑(toString u.2.2.1) : Str).length ≤ 14 := str_lenB (by have := g.s; omega)
  have ln := g.n.2.1
  have l0 : Str.empty.length = 0 := rfl
  have lb : (" " : Str).length = 1 := rfl
  unfold lineOf
  rw [str_len_append, str_len_append, str_len_append, str_len_append, str_len_append, str_len_append, str_len_append]
  omega
theorem line_cut {d : Nat} {u : Un} (g : GU d u) : cutAt 32 (lineOf u) = [u.1, ↑(toString u.2.1), ↑(toString u.2.2.1), wordOf u.2.2.2] := by
  unfold cutAt
  rw [line_list, SX.spl_join (List.cons_ne_nil _ _) ?_]
  · simp only [List.map_cons, List.map_nil, SX.S_tl]
  · intro p hp h32
    simp only [List.mem_cons, List.not_mem_nil, or_false] at hp
    rcases hp with rfl | rfl | rfl | rfl
    · have := g.n.2.2 32 h32; omega
    · have := no_txt h32; omega
    · have := no_txt h32; omega
    · have := no_word g.g h32; omega
theorem within_ok {lo hi n : Int} (h : lo ≤ n ∧ n ≤ hi) : within lo hi (some n) = some n := by
  unfold within
  simp [h.1, h.2]
theorem unitIn_line {d : Nat} {u : Un} (g : GU d u) : unitIn (cutAt 32 (lineOf u)) = some u := by
  rw [line_cut g]
  have gv := g.v
  have gs := g.s
  have e0 : thingOf u.1 0 = .nm u.1 := by
    show (if isName u.1 = true then Th.nm u.1 else .none) = _
    rw [if_pos g.n.isN]
  have e1 : thingOf (↑(toString u.2.1) : Str) 1 = .no u.2.1 := (th1 _).trans (by rw [num_txt (by omega), within_ok gv]; rfl)
  have e2 : thingOf (↑(toString u.2.2.1) : Str) 2 = .no u.2.2.1 := (th2 _).trans (by rw [num_txt (by omega), within_ok gs]; rfl)
  have e3 : thingOf (wordOf u.2.2.2) 3 = .path u.2.2.2 := (th3 _).trans (by rw [path_word (by have := g.p; omega) g.g]; rfl)
  unfold unitIn
  simp only [e0, e1, e2, e3]
theorem wrong_line {d : Nat} {u : Un} {ns : List Str} {dp : Option Nat} (g : GU d u) (hn : u.1 ∉ ns) (hd : ∀ e, dp = some e → e = d) : wrongW ns dp (cutAt 32 (lineOf u)) = none := by
  rw [line_cut g]
  have gv := g.v
  have gs := g.s
  have k0 : okW ns dp u.1 0 = true := by
    unfold okW
    rw [th0, if_pos g.n.isN]
    simpa using hn
  have k1 : okW ns dp (↑(toString u.2.1) : Str) 1 = true := by
    unfold okW
    rw [th1, num_txt (by omega), within_ok gv]
    rfl
  have k2 : okW ns dp (↑(toString u.2.2.1) : Str) 2 = true := by
    unfold okW
    rw [th2, num_txt (by omega), within_ok gs]
    rfl
  have k3 : okW ns dp (wordOf u.2.2.2) 3 = true := by
    unfold okW
    rw [th3, path_word (by have := g.p; omega) g.g]
    cases dp with
    | none => rfl
    | some e =>
      show decide (u.2.2.2.length = e) = true
      rw [decide_eq_true (by rw [hd e rfl]; exact g.p.1)]
  unfold wrongW
  have : wrongAt ns dp 0 (List.take 4 [u.1, (↑(toString u.2.1) : Str), (↑(toString u.2.2.1) : Str), wordOf u.2.2.2]) = none := by
    show wrongAt ns dp 0 [u.1, (↑(toString u.2.1) : Str), (↑(toString u.2.2.1) : Str), wordOf u.2.2.2] = none
    rw [wrongAt, if_pos k0, wrongAt, if_pos k1, wrongAt, if_pos k2, wrongAt, if_pos k3, wrongAt]
  rw [this]
  rfl
theorem readL_lines {d : Nat} : ∀ (R P : List Un) (n : Nat), (∀ u ∈ P ++ R, GU d u) → ((P ++ R).map (·.1)).Nodup → readL P n (R.map fun u => some (lineOf u)) = .inr (P ++ R)
  | [], P, n, _, _ => by rw [List.append_nil]; rfl
  | u :: R, P, n, hg, hn => by
    have gu := hg u (by simp)
    have hu : u.1 ∉ P.map (·.1) := by
      rw [List.map_append, List.nodup_append] at hn
      exact fun h => hn.2.2 _ h _ (List.mem_map_of_mem (List.mem_cons_self ..)) rfl
    have hdp : ∀ e, deepU P = some e → e = d := by
      intro e he
      unfold deepU at he
      cases P with
      | nil => cases he
      | cons y P =>
        cases he
        exact (hg y (by simp)).p.1
    rw [List.map_cons]
    unfold readL
    rw [wrong_line gu hu hdp, unitIn_line gu]
    dsimp only
    rw [readL_lines R (P ++ [u]) (n + 1) (by rw [List.append_assoc]; exact hg) (by rw [List.append_assoc]; exact hn), List.append_assoc]
    rfl
def sp__law_line (K : PySem.W.Frag) (mg : Str → Option Value) : Sp := fun vs H Q _ => match vs with | [.ref t] => ∃ (u : Un) (d : Nat) (pq : Addr), SqT K H t [.str u.1, .int u.2.1, .int u.2.2.1, .ref pq] ∧ SqT K H pq (u.2.2.2.map V.str) ∧ GU d u ∧ ∀ H', Same H H' → Q (.str (lineOf u)) H' | _ => False
theorem q__law_line {H : Hp} {Q : VK} {E : XK} {t : Addr} (q : ∃ (u : Un) (d : Nat) (pq : Addr), SqT K H t [.str u.1, .int u.2.1, .int u.2.2.1, .ref pq] ∧ SqT K H pq (u.2.2.2.map V.str) ∧ GU d u ∧ ∀ H', Same H H' → Q (.str (lineOf u)) H') : sp__law_line K mg [.ref t] H Q E := q
local macro_rules | `(tactic| walk_at "op") => `(tactic| with_reducible refine q__law_line ?_)
theorem c__law_line (T : Txt K mg) : Cal P w K mg base 1 "_law_line" (sp__law_line K mg) := by
  refine T.d__law_line.cal (k := 0) sc__law_line (by intro vs H Q E h; unfold sp__law_line at h; split at h <;> first | rfl | exact h.elim) fun f cdv A outer s H vs Q E hr h => ?_
  refine ⟨_, (pss_cons (ps_set (i := 1) sc__law_line.nd rfl (.inl rfl) pe_str)
    (Evl.pss_cut (ps_if (pt_cmpR (op_neA hr) (pe_ix ix_seq (pv 0) pe_int (fun _ _ => rfl)) (pe_tup pa_nil) (nomark _))
    (pss_one (ps_set (i := 1) sc__law_line.nd rfl (.inl rfl) (pe_bm PySem.F.plainAttrs_str PySem.F.slot_str_join PySem.F.type_str_join mt_join pe_str (pa_cons (pe_ix ix_seq (pv 0) pe_int (fun _ _ => rfl)) pa_nil))))
    pss_nil)
    (pss_one (ps_ret (pe_bm PySem.F.plainAttrs_str PySem.F.slot_str_join PySem.F.type_str_join mt_join pe_str (pa_cons (pe_lst (pa_cons (pe_ix ix_seq (pv 0) pe_int (fun _ _ => rfl)) (pa_cons (pe_callTy call_str1A (by rfl) T.n_str (by decide +kernel) (pa_cons (pe_ix ix_seq (pv 0) pe_int (fun _ _ => rfl)) pa_nil)) (pa_cons (pe_callTy call_str1A (by rfl) T.n_str (by decide +kernel) (pa_cons (pe_ix ix_seq (pv 0) pe_int (fun _ _ => rfl)) pa_nil)) (pa_cons (pv 1) pa_nil))))) pa_nil)))))), ?_⟩
  try simp only [cxOf_K, cxOf_K', cxOf_mg, cxOf_mg']
  unfold sp__law_line at h
  split at h
  case h_2 => exact h.elim
  rename_i t
  rw [show L2.start ["_law_unit", "_law_path"] [V.ref t] = [some (V.ref t), none] from rfl]
  obtain ⟨u, d, pq, hT, hP, gu, q⟩ := h
  walk_at "sts"
  refine L_cut (Mid := fun σ' H' => σ' = [some (.ref t), some (.str (wordOf u.2.2.2))] ∧ Same H H') ?_ ?_
  · walk_at "sts"
    refine L_ixT hT rfl ?_
    walk_at "sts"
    walk_at "nw"
    rename_i p3 hp3 H3 s3 e3
    have hP3 := s3.seqT hP
    have okp : SeqAt.shaped (.tuple (u.2.2.2.map .str)) = true := (shp_tup (n := 0) (shp_map fun s hs => shp_str (gu.g s hs).ok)).ok
    refine L_neD (d := .tuple (u.2.2.2.map .str)) (e := .tuple []) (.tup hP3 (dp_strs _)) (.tup (.of e3) .nil) okp (shp_tup (n := 0) shp_nil).ok ?_
    have hpl := gu.p
    have hsum : ∀ l : List Str, (∀ z ∈ l, GN z) → (l.map (·.length)).sum ≤ 8 * l.length := fun l => by
      induction l with
      | nil => intro _; simp
      | cons z l ih =>
        intro h
        have h1 := (h z (List.mem_cons_self ..)).2.1
        have h2 := ih fun y hy => h y (List.mem_cons_of_mem _ hy)
        simp at h2 ⊢
        omega
    have hs8 := hsum _ gu.g
    cases hps : u.2.2.2 with
    | nil =>
      rw [show PyData.eqv (.tuple (([] : List Str).map .str)) (.tuple []) = true from rfl]
      walk_at "sts"
      exact ⟨rfl, s3⟩
    | cons z r =>
      rw [hps] at hP3 hpl hs8
      rw [show PyData.eqv (.tuple ((z :: r).map .str)) (.tuple []) = false from rfl]
      walk_at "sts"
      refine L_tyS ?_
      walk_at "sts"
      refine L_ixT (s3.seqT hT) rfl ?_
      walk_at "sts"
      refine ⟨".", pq, z :: r, rfl, rfl, .inr hP3, ?_, ?_⟩
      · rw [show ("." : Str).length = 1 from rfl]
        omega
      walk_at "sts"
      refine ⟨?_, s3⟩
      rw [show wordOf (z :: r) = Txt.join "." (z :: r) from if_neg (List.cons_ne_nil _ _)]
  rintro σ' H3 ⟨rfl, s3⟩
  have lw : (wordOf u.2.2.2).length ≤ 100 := word_len (by have := gu.p; omega) gu.g
  have lv : (↑(toString u.2.1) : Str).length ≤ 14 := str_lenB (by have := gu.v; omega)
  have ls : (↑(toString u.2.2.1) : Str).length ≤ 14 := str_lenB (by have := gu.s; omega)
  have ln := gu.n.2.1
  have h19 : u.2.1.natAbs.log2 < 1920 := log_ok (by have := gu.v; omega)
  have h29 : u.2.2.1.natAbs.log2 < 1920 := log_ok (by have := gu.s; omega)
  walk_at "sts"
  refine L_tyS ?_
  walk_at "sts"
  refine L_ixT (s3.seqT hT) rfl ?_
  walk_at "sts"
  refine L_ixT (s3.seqT hT) rfl ?_
  walk_at "sts"
  refine ⟨_, rfl, h19, ?_⟩
  walk_at "sts"
  refine L_ixT (s3.seqT hT) rfl ?_
  walk_at "sts"
  refine ⟨_, rfl, h29, ?_⟩
  walk_at "sts"
  walk_at "nw"
  rename_i p4 hp4 H4 s4 e4
  walk_at "sts"
  refine ⟨" ", p4, [u.1, ↑(toString u.2.1), ↑(toString u.2.2.1), wordOf u.2.2.2], rfl, rfl, .inl (.of e4), ?_, ?_⟩
  · rw [show (" " : Str).length = 1 from rfl]
    simp only [List.map_cons, List.map_nil, List.sum_cons, List.sum_nil, List.length_cons, List.length_nil]
    omega
  rw [line_join]
  exact q _ (s3.trans s4)
theorem str_ext {a b : Str} : a = b ↔ a.cps.toList = b.cps.toList := by
  constructor
  · rintro rfl; rfl
  · intro h
    cases a; cases b
    have := Array.toList_inj.mp h
    cases this
    rfl
theorem cut_head {z : Str} : cutS z none (some 1) = ("-" : Str) ↔ z.cps.toList.head? = some 45 := by
  rw [str_ext]
  unfold cutS
  have hl : z.length = z.cps.toList.length := str_len.symm
  rw [HT.sIx_none, show (some (1 : Int)) = some ((1 : Nat) : Int) from rfl, HT.sIx_nat, hl, List.toList_toArray]
  cases z.cps.toList with
  | nil =>
    constructor
    · intro h; cases h
    · intro h; cases h
  | cons c r =>
    rw [List.length_cons, Nat.min_eq_left (by omega)]
    show [c] = [45] ↔ some c = some 45
    simp
def optI : Option Nat → V
  | none => .non
  | some n => .int (n : Int)
/-- a text of few signs -/
def WK (n : Nat) (w : Str) : Prop := w.length ≤ n ∧ ∀ c ∈ w.cps.toList, c < 128
theorem WK.ok {n : Nat} {w : Str} (h : WK n w) : PyData.strOk w = true := strOk_of fun c hc => by have := h.2 c hc; omega
def wkb (n : Nat) (ws : List Str) : Bool := ws.all fun w => decide (w.length ≤ n) && w.cps.toList.all fun c => decide (c < 128)
theorem wk_of {n : Nat} {ws : List Str} (h : wkb n ws = true) : ∀ w ∈ ws, WK n w := fun w hw => by
  have := List.all_eq_true.mp h w hw
  rw [Bool.and_eq_true, decide_eq_true_eq, List.all_eq_true] at this
  exact ⟨this.1, fun c hc => of_decide_eq_true (this.2 c hc)⟩
theorem inV_bls (bs : List Bool) : inV (.bl false) (bs.map V.bl) = !bs.all id := by
  unfold inV
  induction bs with
  | nil => rfl
  | cons b bs ih =>
    rw [List.map_cons, List.any_cons, ih, List.all_cons]
    cases b <;> simp [eqV]
theorem flat_bls : ∀ bs : List Bool, (bs.map V.bl).all flatV = true
  | [] => rfl
  | _ :: bs => by rw [List.map_cons, List.all_cons, flat_bls bs]; rfl
theorem L_inBl {K : PySem.W.Frag} {H : Hp} {Q : VK} {p : Addr} {bs : List Bool} (h : SqL K H p (bs.map V.bl)) (q : Q (.bl (!bs.all id)) H) : aIn K (.bl false) (.ref p) H Q := .inr ⟨p, _, rfl, .inl h, rfl, flat_bls _, by rw [if_neg (by decide), inV_bls]; exact q⟩
def sp__law_is_name (K : PySem.W.Frag) (mg : Str → Option Value) : Sp := fun vs H Q _ => match vs with | [.str z] => WK 1000 z ∧ ∀ H', Same H H' → Q (.bl (isName z)) H' | _ => False
theorem q__law_is_name {H : Hp} {Q : VK} {E : XK} {z : Str} (q : WK 1000 z ∧ ∀ H', Same H H' → Q (.bl (isName z)) H') : sp__law_is_name K mg [.str z] H Q E := q
local macro_rules | `(tactic| walk_at "op") => `(tactic| with_reducible refine q__law_is_name ?_)
theorem c__law_is_name (T : Txt K mg) : Cal P w K mg base 1 "_law_is_name" (sp__law_is_name K mg) := by
  refine T.d__law_is_name.cal (k := 0) sc__law_is_name (by intro vs H Q E h; unfold sp__law_is_name at h; split at h <;> first | rfl | exact h.elim) fun f cdv A outer s H vs Q E hr h => ?_
  refine ⟨_, (pss_one (ps_ret (pe_and (pe_chain op_ltA op_ltA pe_int (pe_callB call_lenA (by rfl) T.n_len (by decide +kernel) (pa_cons (pv 0) pa_nil)) pe_int) (pe_one (pe_cmpR (op_eqA hr) (pe_lc (own := [("_law_sign", 1)]) (g := (gName 1)) (tt := (tNot (tTest (tChain aLe aLe (tC (.str "a")) (tVar 1) (tC (.str "z")))))) (te := (tVar 1)) rfl sc__law_is_name.nd (pi_str (pv 0)) (blkOk_by (N := ["_law_text", "_law_sign"]) (sc := defScope s__law_is_name) (by decide +kernel)) (fun _ _ _ _ _ => by exact (pg_name (i := 1) sc__law_is_name.nd rfl (.inl rfl))) (fun _ _ _ _ _ => by exact pts_one (pt_not (pt_chain op_leA op_leA pe_str (pv 1) pe_str))) (fun _ _ _ _ _ => by exact (pv 1))) (pe_lst pa_nil) (nomark _)))))), ?_⟩
  try simp only [cxOf_K, cxOf_K', cxOf_mg, cxOf_mg']
  unfold sp__law_is_name at h
  split at h
  case h_2 => exact h.elim
  rename_i z
  rw [show L2.start ["_law_text", "_law_sign"] [V.str z] = [some (V.str z), none] from rfl]
  obtain ⟨hz, q⟩ := h
  have hl := hz.1
  walk_at "sts"
  refine L_lenS (sz_dec (by omega)) ?_
  walk_at "sts"
  have hzl : z.length = z.cps.toList.length := str_len.symm
  refine L_d (fun c1 => ?_) (fun c1 => ?_)
  · walk_at "sts"
    refine L_d (fun c2 => ?_) (fun c2 => ?_)
    · have hb : isName z = z.cps.toList.all fun c => decide (97 ≤ c ∧ c ≤ 122) := by
        unfold isName
        rw [decide_eq_true (by omega), Bool.true_and]
      rw [hb] at q
      walk_at "sts"
      refine L_rs ?_
      refine lc_fm walk_str (fun i => (z.cps.toList[i]?).bind fun c => if (!decide (97 ≤ c ∧ c ≤ 122)) = true then some (V.str ⟨#[c]⟩) else none) (by rw [← Array.length_toList]; omega) (fun _ _ => True.intro) ?_ ?_
      · rintro i x H2 H2' R R' hi sm ⟨rfl, c, hc, rfl⟩ r1 r2
        have hc' : z.cps.toList[i]? = some c := by rw [Array.getElem?_toList]; exact hc
        walk_at "sts"
        refine ⟨rfl, ?_⟩
        walk_at "sts"
        have e1 : decide ((⟨#[c]⟩ : Str).cps.toList < ("a" : Str).cps.toList) = decide (c < 97) := decide_eq_decide.mpr one_lt
        have e2 : decide (("z" : Str).cps.toList < (⟨#[c]⟩ : Str).cps.toList) = decide (122 < c) := decide_eq_decide.mpr one_lt
        rw [e1]
        refine L_nd (fun d1 => ?_) (fun d1 => ?_)
        · walk_at "sts"
          rw [e2]
          by_cases d2 : 122 < c
          · rw [decide_eq_true d2]
            walk_at "sts"
            exact r1 _ _ (by rw [hc', Option.bind_some, if_pos (by rw [decide_eq_false (by omega)]; rfl)]) (Same.refl _)
          · rw [decide_eq_false d2]
            walk_at "sts"
            exact r2 _ (by rw [hc', Option.bind_some, if_neg (by rw [decide_eq_true (by omega)]; exact Bool.false_ne_true)]) (Same.refl _)
        · walk_at "sts"
          exact r1 _ _ (by rw [hc', Option.bind_some, if_pos (by rw [decide_eq_false (by omega)]; rfl)]) (Same.refl _)
      intro p1 H1 hp1 s1 e1
      rw [show z.cps.size = z.cps.toList.length from Array.length_toList.symm, fm_flt] at e1
      walk_at "sts"
      walk_at "nw"
      rename_i p2 hp2 H2 s2 e2
      refine L_eqD (d := .list ((z.cps.toList.filter fun c => !decide (97 ≤ c ∧ c ≤ 122)).map fun c => .str ⟨#[c]⟩)) (e := .list []) (.lst (.of (s2 _ _ e1)) ?_) (.lst (.of e2) .nil) (shp_lst (n := 0) (shp_map fun c hc => shp_str (strOk_of fun d hd => ?_))).ok (shp_lst (n := 0) shp_nil).ok ?_
      · generalize z.cps.toList.filter (fun c => !decide (97 ≤ c ∧ c ≤ 122)) = l
        induction l with
        | nil => exact .nil
        | cons c l ih => exact .cons (.str _) ih
      · have : d = c := by simpa using hd
        rw [this]
        have := hz.2 c (List.mem_filter.mp hc).1
        omega
      rw [eqv_nil, List.isEmpty_map]
      have e : (z.cps.toList.filter fun c => !decide (97 ≤ c ∧ c ≤ 122)).isEmpty = z.cps.toList.all fun c => decide (97 ≤ c ∧ c ≤ 122) := by
        generalize z.cps.toList = l
        induction l with
        | nil => rfl
        | cons c l ih =>
          rw [List.filter_cons, List.all_cons]
          by_cases h : 97 ≤ c ∧ c ≤ 122
          · rw [decide_eq_true h, Bool.true_and]
            exact ih
          · rw [decide_eq_false h, Bool.false_and]
            rfl
      rw [e]
      exact q _ (s1.trans s2)
    · have hb : isName z = false := by
        unfold isName
        rw [decide_eq_false (by omega), Bool.false_and]
      rw [hb] at q
      walk_at "sts"
      exact q _ (Same.refl _)
  · have hb : isName z = false := by
      unfold isName
      rw [decide_eq_false (by omega), Bool.false_and]
    rw [hb] at q
    walk_at "sts"
    exact q _ (Same.refl _)
def sp__law_is_number (K : PySem.W.Frag) (mg : Str → Option Value) : Sp := fun vs H Q _ => match vs with | [.str z, .int lo, .int hi] => WK 1000 z ∧ ∀ H', Same H H' → Q (.bl (within lo hi (num z.cps.toList)).isSome) H' | _ => False
theorem q__law_is_number {H : Hp} {Q : VK} {E : XK} {z : Str} {lo : Int} {hi : Int} (q : WK 1000 z ∧ ∀ H', Same H H' → Q (.bl (within lo hi (num z.cps.toList)).isSome) H') : sp__law_is_number K mg [.str z, .int lo, .int hi] H Q E := q
local macro_rules | `(tactic| walk_at "op") => `(tactic| with_reducible refine q__law_is_number ?_)
theorem c__law_is_number (T : Txt K mg) : Cal P w K mg base 1 "_law_is_number" (sp__law_is_number K mg) := by
  refine T.d__law_is_number.cal (k := 0) sc__law_is_number (by intro vs H Q E h; unfold sp__law_is_number at h; split at h <;> first | rfl | exact h.elim) fun f cdv A outer s H vs Q E hr h => ?_
  refine ⟨_, (pss_cons (ps_set (i := 3) sc__law_is_number.nd rfl (.inl rfl) (pv 0))
    (Evl.pss_cut (ps_if (pt_cmpR (op_eqA hr) (pe_slice sl_str (pv 0) po_none (po_some pe_int)) pe_str (nomark _))
    (pss_one (ps_set (i := 3) sc__law_is_number.nd rfl (.inl rfl) (pe_slice sl_str (pv 0) (po_some pe_int) po_none)))
    pss_nil)
    (pss_cons (ps_if (PW.pt (pw_or (pt_cmpR (op_eqA hr) (pv 3) pe_str (nomark _)) (pw_or (pt_cmpR op_gt (pe_callB call_lenA (by rfl) T.n_len (by decide +kernel) (pa_cons (pv 3) pa_nil)) pe_int (nomark _)) (pw_or1 (pt_cmpR (op_neA hr) (pe_lc (own := [("_law_sign", 4)]) (g := (gName 4)) (tt := (tNot (tTest (tChain aLe aLe (tC (.str "0")) (tVar 4) (tC (.str "9")))))) (te := (tVar 4)) rfl sc__law_is_number.nd (pi_str (pv 3)) (blkOk_by (N := ["_law_text", "_law_low", "_law_high", "_law_bare", "_law_sign"]) (sc := defScope s__law_is_number) (by decide +kernel)) (fun _ _ _ _ _ => by exact (pg_name (i := 4) sc__law_is_number.nd rfl (.inl rfl))) (fun _ _ _ _ _ => by exact pts_one (pt_not (pt_chain op_leA op_leA pe_str (pv 4) pe_str))) (fun _ _ _ _ _ => by exact (pv 4))) (pe_lst pa_nil) (nomark _))))))
    (pss_one (ps_ret pe_bl))
    pss_nil)
    (pss_one (ps_ret (pe_and (pe_cmpR (op_eqA hr) (pe_callTy call_str1A (by rfl) T.n_str (by decide +kernel) (pa_cons (pe_callTy call_int_str (by rfl) T.n_int (by decide +kernel) (pa_cons (pv 0) pa_nil)) pa_nil)) (pv 0) (nomark _)) (pe_one (pe_chain op_leA op_leA (pv 1) (pe_callTy call_int_str (by rfl) T.n_int (by decide +kernel) (pa_cons (pv 0) pa_nil)) (pv 2))))))))), ?_⟩
  try simp only [cxOf_K, cxOf_K', cxOf_mg, cxOf_mg']
  unfold sp__law_is_number at h
  split at h
  case h_2 => exact h.elim
  rename_i z lo hi
  rw [show L2.start ["_law_text", "_law_low", "_law_high", "_law_bare", "_law_sign"] [V.str z, V.int lo, V.int hi] = [some (V.str z), some (V.int lo), some (V.int hi), none, none] from rfl]
  obtain ⟨hz, q⟩ := h
  have hl := hz.1
  rw [← lread_num] at q
  walk_at "sts"
  refine L_cut (Mid := fun σ' H' => ∃ b : Str, σ' = [some (.str z), some (.int lo), some (.int hi), some (.str b), none] ∧ H' = H ∧ b.cps.toList = (if z.cps.toList.head? = some 45 then z.cps.toList.tail else z.cps.toList) ∧ WK 1000 b) ?_ ?_
  · walk_at "sts"
    refine ⟨z, rfl, sz_dec (by omega), ?_⟩
    walk_at "sts"
    refine L_d (fun c => ?_) (fun c => ?_)
    · walk_at "sts"
      refine ⟨z, rfl, sz_dec (by omega), ?_⟩
      walk_at "sts"
      exact ⟨_, rfl, rfl, by rw [cut_tail, if_pos (cut_head.mp c)], Nat.le_trans (cut_len z _ _) hl, fun c hc => hz.2 c (cut_mem hc)⟩
    · walk_at "sts"
      exact ⟨z, rfl, rfl, by rw [if_neg fun h => c (cut_head.mpr h)], hz⟩
  rintro σ' H' ⟨b, rfl, rfl, hb, hbk⟩
  have hbl := hbk.1
  have hlb : b.length = b.cps.toList.length := str_len.symm
  unfold lread at q
  dsimp only at q
  rw [← hb] at q
  have none_ : (b.cps.toList = [] ∨ 12 < b.cps.toList.length ∨ b.cps.toList.all isFig = false) → ∀ H'', Same H' H'' → Q (.bl false) H'' := fun h H'' s => by
    have := q H'' s
    rw [if_pos h] at this
    exact this
  walk_at "sts"
  refine L_d (fun c1 => ?_) (fun c1 => ?_)
  · walk_at "sts"
    exact none_ (.inl (str_ext.mp c1)) _ (Same.refl _)
  walk_at "sts"
  refine L_lenS (sz_dec (by omega)) ?_
  walk_at "sts"
  refine L_d (fun c2 => ?_) (fun c2 => ?_)
  · walk_at "sts"
    exact none_ (.inr (.inl (by omega))) _ (Same.refl _)
  walk_at "sts"
  refine L_rs ?_
  refine lc_fm walk_str (fun i => (b.cps.toList[i]?).bind fun c => if (!isFig c) = true then some (V.str ⟨#[c]⟩) else none) (by rw [← Array.length_toList]; omega) (fun _ _ => True.intro) ?_ ?_
  · rintro i x H2 H2' R R' hi sm ⟨rfl, c, hc, rfl⟩ r1 r2
    have hc' : b.cps.toList[i]? = some c := by rw [Array.getElem?_toList]; exact hc
    walk_at "sts"
    refine ⟨rfl, ?_⟩
    walk_at "sts"
    have e1 : decide ((⟨#[c]⟩ : Str).cps.toList < ("0" : Str).cps.toList) = decide (c < 48) := decide_eq_decide.mpr one_lt
    have e2 : decide (("9" : Str).cps.toList < (⟨#[c]⟩ : Str).cps.toList) = decide (57 < c) := decide_eq_decide.mpr one_lt
    rw [e1]
    refine L_nd (fun d1 => ?_) (fun d1 => ?_)
    · walk_at "sts"
      rw [e2]
      by_cases d2 : 57 < c
      · rw [decide_eq_true d2]
        walk_at "sts"
        exact r1 _ _ (by rw [hc', Option.bind_some, if_pos (by unfold isFig; rw [decide_eq_false (by omega)]; rfl)]) (Same.refl _)
      · rw [decide_eq_false d2]
        walk_at "sts"
        exact r2 _ (by rw [hc', Option.bind_some, if_neg (by unfold isFig; rw [decide_eq_true (by omega)]; exact Bool.false_ne_true)]) (Same.refl _)
    · walk_at "sts"
      exact r1 _ _ (by rw [hc', Option.bind_some, if_pos (by unfold isFig; rw [decide_eq_false (by omega)]; rfl)]) (Same.refl _)
  intro p1 H1 hp1 s1 e1
  rw [show b.cps.size = b.cps.toList.length from Array.length_toList.symm, fm_flt] at e1
  walk_at "sts"
  walk_at "nw"
  rename_i p2 hp2 H2 s2 e2
  refine L_neD (d := .list ((b.cps.toList.filter fun c => !isFig c).map fun c => .str ⟨#[c]⟩)) (e := .list []) (.lst (.of (s2 _ _ e1)) ?_) (.lst (.of e2) .nil) (shp_lst (n := 0) (shp_map fun c hc => shp_str (strOk_of fun d hd => ?_))).ok (shp_lst (n := 0) shp_nil).ok ?_
  · generalize b.cps.toList.filter (fun c => !isFig c) = l
    induction l with
    | nil => exact .nil
    | cons c l ih => exact .cons (.str _) ih
  · have : d = c := by simpa using hd
    rw [this]
    have := hbk.2 c (List.mem_filter.mp hc).1
    omega
  rw [eqv_nil, List.isEmpty_map]
  have s12 := s1.trans s2
  cases hem : (b.cps.toList.filter fun c => !isFig c).isEmpty with
  | false =>
    walk_at "sts"
    refine none_ (.inr (.inr ?_)) _ s12
    rw [List.all_eq_false]
    cases e : b.cps.toList.filter fun c => !isFig c with
    | nil => rw [e] at hem; cases hem
    | cons c r =>
      have := List.mem_filter.mp (show c ∈ b.cps.toList.filter fun c => !isFig c by rw [e]; exact List.mem_cons_self ..)
      exact ⟨c, this.1, by simpa using this.2⟩
  | true =>
    have hall : b.cps.toList.all isFig = true := by
      rw [List.all_eq_true]
      intro c hc
      have := List.filter_eq_nil_iff.mp (List.isEmpty_iff.mp hem) c hc
      simpa using this
    have had := all_figs.mp hall
    have hne : b.cps.toList ≠ [] := fun z => c1 (str_ext.mpr z)
    have q2 := q H2 s12
    have hnot : ¬ (b.cps.toList = [] ∨ 12 < b.cps.toList.length ∨ b.cps.toList.all isFig = false) := fun h => by
      rcases h with h | h | h
      · exact hne h
      · omega
      · rw [hall] at h; cases h
    rw [if_neg hnot] at q2
    clear q none_
    have hlt := dv_lt (cs := b.cps.toList) had (n := 12) (by omega)
    have e12 : (10 : Nat) ^ 12 = 1000000000000 := by decide
    have hzl : z.length ≤ 13 := by
      rw [← str_len]
      split at hb
      · cases e : z.cps.toList with
        | nil => simp
        | cons c r => rw [e, List.tail_cons] at hb; rw [List.length_cons, ← hb]; omega
      · rw [← hb]; omega
    obtain ⟨v, hv, hvb, hve⟩ : ∃ v : Int, PySem.intText? z = some v ∧ (-1000000000000 < v ∧ v < 1000000000000) ∧ (if b.cps.toList = z.cps.toList then ((digitsVal b.cps.toList : Nat) : Int) else 0 - ((digitsVal b.cps.toList : Nat) : Int)) = v := by
      split at hb
      · rename_i h45
        obtain ⟨r, hr⟩ : ∃ r, z.cps.toList = 45 :: r := by
          cases e : z.cps.toList with
          | nil => rw [e] at h45; cases h45
          | cons c r => rw [e] at h45; exact ⟨r, by rw [Option.some.inj h45]⟩
        rw [hr, List.tail_cons] at hb
        refine ⟨_, PySem.intText_neg hr (hb ▸ had) (hb ▸ hne) (by omega), ?_, ?_⟩
        · rw [← hb]; omega
        · rw [if_neg, ← hb]
          · omega
          · rw [hr, hb]
            intro h
            have := congrArg List.length h
            simp at this
      · refine ⟨_, PySem.intText_digits (hb ▸ had) (hb ▸ hne) (by omega), ?_, ?_⟩
        · rw [← hb]; omega
        · rw [if_pos hb, hb]
    rw [hve] at q2
    walk_at "sts"
    refine ⟨z, v, rfl, hv, by omega, ?_⟩
    walk_at "sts"
    refine ⟨v, rfl, log_ok (by omega), ?_⟩
    walk_at "sts"
    by_cases d1 : (Str.ofString (toString v)).cps.toList = z.cps.toList
    · rw [if_pos d1] at q2
      refine L_dT (str_ext.mpr d1) ?_
      walk_at "sts"
      refine ⟨z, v, rfl, hv, by omega, ?_⟩
      have wv : (within lo hi (some v)).isSome = (decide (lo ≤ v) && decide (v ≤ hi)) := by
        unfold within
        rw [Option.bind_some]
        by_cases c1 : lo ≤ v <;> by_cases c2 : v ≤ hi <;> simp [c1, c2]
      rw [wv] at q2
      dsimp only
      walk_at "sts"
      refine L_d (fun c4 => ?_) (fun c4 => ?_)
      · walk_at "sts"
        rw [decide_eq_true c4, Bool.true_and] at q2
        exact q2
      · rw [decide_eq_false c4, Bool.false_and] at q2
        walk_at "sts"
        exact q2
    · rw [if_neg d1] at q2
      refine L_dF (fun h => d1 (str_ext.mp h)) ?_
      walk_at "sts"
      exact q2
def sp__law_depth (K : PySem.W.Frag) (mg : Str → Option Value) : Sp := fun vs H Q _ => match vs with | [.str z] => WK 1000 z ∧ ∀ H', Same H H' → Q (optI ((pathOf z).map List.length)) H' | _ => False
theorem q__law_depth {H : Hp} {Q : VK} {E : XK} {z : Str} (q : WK 1000 z ∧ ∀ H', Same H H' → Q (optI ((pathOf z).map List.length)) H') : sp__law_depth K mg [.str z] H Q E := q
local macro_rules | `(tactic| walk_at "op") => `(tactic| with_reducible refine q__law_depth ?_)
theorem c__law_depth (T : Txt K mg) : Cal P w K mg base 2 "_law_depth" (sp__law_depth K mg) := by
  refine T.d__law_depth.cal (k := 1) sc__law_depth (by intro vs H Q E h; unfold sp__law_depth at h; split at h <;> first | rfl | exact h.elim) fun f cdv A outer s H vs Q E hr h => ?_
  refine ⟨_, (pss_cons (ps_if (pt_cmpR (op_eqA hr) (pv 0) pe_str (nomark _))
    (pss_one (ps_ret pe_int))
    pss_nil)
    (pss_cons (ps_set (i := 1) sc__law_depth.nd rfl (.inl rfl) (pe_bm PySem.F.plainAttrs_str PySem.F.slot_str_split PySem.F.type_str_split mt_split (pv 0) (pa_cons pe_str pa_nil)))
    (pss_cons (ps_if (PW.pt (pw_or (pt_cmpR op_gt (pe_callB call_lenA (by rfl) T.n_len (by decide +kernel) (pa_cons (pv 1) pa_nil)) pe_int (nomark _)) (pw_or1 (pt_cmpR op_inA pe_bl (pe_lc (own := [("_law_name", 2)]) (g := (gName 2)) (tt := tYes) (te := (tCall (sp__law_is_name K mg) [] E0 (tCons (tVar 2) tNil))) rfl sc__law_depth.nd (pi_list (pv 1)) (blkOk_by (N := ["_law_word", "_law_names_here", "_law_name"]) (sc := defScope s__law_depth) (by decide +kernel)) (fun _ _ _ _ _ => by exact (pg_name (i := 2) sc__law_depth.nd rfl (.inl rfl))) (fun _ _ _ _ _ => pts_nil) (fun _ _ _ _ _ => by exact (pe_c (c__law_is_name T) hr (by decide) (by rfl) (pa_cons (pv 2) pa_nil)))) (by rfl)))))
    (pss_one (ps_ret pe_non))
    pss_nil)
    (pss_one (ps_ret (pe_callB call_lenA (by rfl) T.n_len (by decide +kernel) (pa_cons (pv 1) pa_nil))))))), ?_⟩
  try simp only [cxOf_K, cxOf_K', cxOf_mg, cxOf_mg']
  unfold sp__law_depth at h
  split at h
  case h_2 => exact h.elim
  rename_i z
  rw [show L2.start ["_law_word", "_law_names_here", "_law_name"] [V.str z] = [some (V.str z), none, none] from rfl]
  obtain ⟨hz, q⟩ := h
  have hl := hz.1
  unfold pathOf at q
  walk_at "sts"
  refine L_d (fun c1 => ?_) (fun c1 => ?_)
  · rw [if_pos c1] at q
    walk_at "sts"
    exact q _ (Same.refl _)
  rw [if_neg c1] at q
  walk_at "sts"
  refine L_tyS ?_
  walk_at "sts"
  refine ⟨z, ".", rfl, rfl, rfl, sz_dec (by omega), ?_⟩
  rw [show ("." : Str) = ⟨#[46]⟩ from rfl, split_is (by decide)]
  walk_at "nwp"
  rename_i p1 hp1 H1 s1 e1
  walk_at "sts"
  refine L_lenL (.of e1) ?_
  rw [List.length_map]
  walk_at "sts"
  refine L_d (fun c2 => ?_) (fun c2 => ?_)
  · rw [if_neg (fun h => by omega)] at q
    walk_at "sts"
    exact q _ s1
  have hwk : ∀ w ∈ cutAt 46 z, WK 1000 w := fun w hw => ⟨Nat.le_trans (cutAt_len hw) hl, fun c hc => by
    obtain ⟨l, h1, rfl⟩ := List.mem_map.mp hw
    rcases (spl_part [46] _ 0 [] l h1).2 c hc with h | h
    · cases h
    · exact hz.2 c h⟩
  walk_at "sts"
  refine L_rl (.of e1) ?_
  refine lc_fm walk_list (fun i => ((cutAt 46 z)[i]?).map fun w => V.bl (isName w)) (by rw [List.length_map]; omega) (fun H' s => .of (s _ _ e1)) ?_ ?_
  · rintro i x H2 H2' R R' hi sm ⟨e2, hx⟩ r1 r2
    subst e2
    rw [List.getElem?_map] at hx
    obtain ⟨w, hw, rfl⟩ := Option.map_eq_some_iff.mp hx
    walk_at "sts"
    refine ⟨rfl, ?_⟩
    walk_at "sts"
    refine ⟨hwk w (List.mem_of_getElem? hw), fun H3 s3 => ?_⟩
    exact r1 _ _ (by rw [hw]; rfl) s3
  intro p2 H2 hp2 s2 e2
  rw [List.length_map, fm_get, show ((cutAt 46 z).map fun w => V.bl (isName w)) = ((cutAt 46 z).map isName).map V.bl by rw [List.map_map]; rfl] at e2
  refine L_inBl (.of e2) ?_
  rw [List.all_map]
  walk_at "sts"
  cases hall : (cutAt 46 z).all (id ∘ isName) with
  | false =>
    rw [if_neg (fun h => by rw [show (cutAt 46 z).all isName = (cutAt 46 z).all (id ∘ isName) from rfl, hall] at h; cases h.2)] at q
    walk_at "sts"
    exact q _ (s1.trans s2)
  | true =>
    rw [if_pos ⟨by omega, hall⟩] at q
    walk_at "sts"
    refine L_lenL (.of (s2 _ _ e1)) ?_
    rw [List.length_map]
    exact q _ (s1.trans s2)
def sp__law_odd_word (K : PySem.W.Frag) (mg : Str → Option Value) : Sp := fun vs H Q _ => match vs with | [.ref a, .int at_, .int n] => ∃ ws : List Str, SqL K H a (ws.map V.str) ∧ ws.length = 4 ∧ (∀ w ∈ ws, WK 102 w) ∧ 0 ≤ at_ ∧ at_ < 4 ∧ ∀ p (vs : List Str) H', H p = none → Same H H' → H' p = some (.lst (vs.map V.str)) → vs.length ≤ 9 → (∀ w ∈ vs, WK 102 w) → Q (.ref p) H' | _ => False
theorem q__law_odd_word {H : Hp} {Q : VK} {E : XK} {a : Addr} {at_ : Int} {n : Int} (q : ∃ ws : List Str, SqL K H a (ws.map V.str) ∧ ws.length = 4 ∧ (∀ w ∈ ws, WK 102 w) ∧ 0 ≤ at_ ∧ at_ < 4 ∧ ∀ p (vs : List Str) H', H p = none → Same H H' → H' p = some (.lst (vs.map V.str)) → vs.length ≤ 9 → (∀ w ∈ vs, WK 102 w) → Q (.ref p) H') : sp__law_odd_word K mg [.ref a, .int at_, .int n] H Q E := q
local macro_rules | `(tactic| walk_at "op") => `(tactic| with_reducible refine q__law_odd_word ?_)
theorem c__law_odd_word (T : Txt K mg) : Cal P w K mg base 1 "_law_odd_word" (sp__law_odd_word K mg) := by
  refine T.d__law_odd_word.cal (k := 0) sc__law_odd_word (by intro vs H Q E h; unfold sp__law_odd_word at h; split at h <;> first | rfl | exact h.elim) fun f cdv A outer s H vs Q E hr h => ?_
  refine ⟨_, (pss_cons (ps_set (i := 3) sc__law_odd_word.nd rfl (.inl rfl) (pe_lst (pa_cons (pe_lst (pa_cons pe_str (pa_cons pe_str (pa_cons pe_str (pa_cons pe_str (pa_cons pe_str (pa_cons pe_str (pa_cons pe_str (pa_cons pe_str pa_nil))))))))) pa_nil)))
    (pss_cons (ps_expr (pe_bm PySem.F.plainAttrs_list PySem.F.slot_list_append PySem.F.type_list_append mt_append (pv 3) (pa_cons (pe_lst (pa_cons pe_str (pa_cons pe_str (pa_cons pe_str (pa_cons pe_str (pa_cons pe_str (pa_cons pe_str (pa_cons pe_str (pa_cons pe_str pa_nil))))))))) pa_nil)))
    (pss_cons (ps_expr (pe_bm PySem.F.plainAttrs_list PySem.F.slot_list_append PySem.F.type_list_append mt_append (pv 3) (pa_cons (pe_lst (pa_cons pe_str (pa_cons pe_str (pa_cons pe_str (pa_cons pe_str (pa_cons pe_str (pa_cons pe_str (pa_cons pe_str pa_nil)))))))) pa_nil)))
    (pss_cons (ps_expr (pe_bm PySem.F.plainAttrs_list PySem.F.slot_list_append PySem.F.type_list_append mt_append (pv 3) (pa_cons (pe_lst (pa_cons pe_str (pa_cons pe_str (pa_cons pe_str (pa_cons pe_str (pa_cons pe_str (pa_cons pe_str (pa_cons pe_str (pa_cons pe_str (pa_cons pe_str pa_nil)))))))))) pa_nil)))
    (Evl.pss_cut (ps_set (i := 4) sc__law_odd_word.nd rfl (.inl rfl) (pe_ix ix_seq (pv 3) (pv 1) (fun _ _ => rfl)))
    (pss_one (ps_ret (pe_op op_addA (pe_op op_addA (pe_slice sl_list (pv 0) po_none (po_some (pv 1))) (pe_lst (pa_cons (pe_ix ix_seq (pv 4) (pe_op op_mod (pv 2) (pe_callB call_lenA (by rfl) T.n_len (by decide +kernel) (pa_cons (pv 4) pa_nil))) (fun _ _ => rfl)) pa_nil))) (pe_slice sl_list (pv 0) (po_some (pe_op op_addA (pv 1) pe_int)) po_none))))))))), ?_⟩
  try simp only [cxOf_K, cxOf_K', cxOf_mg, cxOf_mg']
  unfold sp__law_odd_word at h
  split at h
  case h_2 => exact h.elim
  rename_i a at_ n
  rw [show L2.start ["_law_words", "_law_at", "_law_number", "_law_odd", "_law_some"] [V.ref a, V.int at_, V.int n] = [some (V.ref a), some (V.int at_), some (V.int n), none, none] from rfl]
  obtain ⟨ws, hL, hl, hW, h0, h4, q⟩ := h
  walk_at "sts"
  walk_at "nw"
  rename_i p1 hp1 H1 s1 e1
  walk_at "sts"
  walk_at "nw"
  rename_i p2 hp2 H2 s2 e2
  walk_at "sts"
  refine L_tyL (.of e2) ?_
  walk_at "sts"
  walk_at "nw"
  rename_i p3 hp3 H3 s3 e3
  walk_at "sts"
  refine L_app (s3 _ _ e2) (sz_lt (by simp)) ?_
  have n3 : p3 ≠ p2 := ne_new hp3 ⟨_, e2⟩
  have n1 : p1 ≠ p2 := (ne_new hp2 ⟨_, e1⟩).symm
  have s14 : Same H1 (upd H3 p2 (.lst ([.ref p1] ++ [.ref p3]))) := same_mut (s2.trans s3) hp2
  have e4 : (upd H3 p2 (.lst ([.ref p1] ++ [.ref p3]))) p2 = _ := upd_same
  have e43 : (upd H3 p2 (.lst ([.ref p1] ++ [.ref p3]))) p3 = _ := (upd_ne n3).trans e3
  generalize upd H3 p2 (.lst ([.ref p1] ++ [.ref p3])) = H4 at s14 e4 e43
  walk_at "sts"
  refine L_tyL (.of e4) ?_
  walk_at "sts"
  walk_at "nw"
  rename_i p5 hp5 H5 s5 e5
  walk_at "sts"
  refine L_app (s5 _ _ e4) (sz_lt (by simp)) ?_
  have n5 : p5 ≠ p2 := ne_new hp5 ⟨_, e4⟩
  have s16 : Same H1 (upd H5 p2 (.lst ([.ref p1] ++ [.ref p3] ++ [.ref p5]))) := same_mut (s14.trans s5) hp2
  have e6 : (upd H5 p2 (.lst ([.ref p1] ++ [.ref p3] ++ [.ref p5]))) p2 = _ := upd_same
  have e63 : (upd H5 p2 (.lst ([.ref p1] ++ [.ref p3] ++ [.ref p5]))) p3 = _ := (upd_ne n3).trans (s5 _ _ e43)
  have e65 : (upd H5 p2 (.lst ([.ref p1] ++ [.ref p3] ++ [.ref p5]))) p5 = _ := (upd_ne n5).trans e5
  generalize upd H5 p2 (.lst ([.ref p1] ++ [.ref p3] ++ [.ref p5])) = H6 at s16 e6 e63 e65
  walk_at "sts"
  refine L_tyL (.of e6) ?_
  walk_at "sts"
  walk_at "nw"
  rename_i p7 hp7 H7 s7 e7
  walk_at "sts"
  refine L_app (s7 _ _ e6) (sz_lt (by simp)) ?_
  have n7 : p7 ≠ p2 := ne_new hp7 ⟨_, e6⟩
  have s18 : Same H1 (upd H7 p2 (.lst ([.ref p1] ++ [.ref p3] ++ [.ref p5] ++ [.ref p7]))) := same_mut (s16.trans s7) hp2
  have e8 : (upd H7 p2 (.lst ([.ref p1] ++ [.ref p3] ++ [.ref p5] ++ [.ref p7]))) p2 = _ := upd_same
  have e83 : (upd H7 p2 (.lst ([.ref p1] ++ [.ref p3] ++ [.ref p5] ++ [.ref p7]))) p3 = _ := (upd_ne n3).trans (s7 _ _ e63)
  have e85 : (upd H7 p2 (.lst ([.ref p1] ++ [.ref p3] ++ [.ref p5] ++ [.ref p7]))) p5 = _ := (upd_ne n5).trans (s7 _ _ e65)
  have e87 : (upd H7 p2 (.lst ([.ref p1] ++ [.ref p3] ++ [.ref p5] ++ [.ref p7]))) p7 = _ := (upd_ne n7).trans e7
  generalize upd H7 p2 (.lst ([.ref p1] ++ [.ref p3] ++ [.ref p5] ++ [.ref p7])) = H8 at s18 e8 e83 e85 e87
  have e81 := s18 _ _ e1
  walk_at "sts"
  refine L_cut (Mid := fun σ' H' => ∃ (po qo : Addr) (os : List Str), σ' = [some (.ref a), some (.int at_), some (.int n), some (.ref po), some (.ref qo)] ∧ Same H H' ∧ H' qo = some (.lst (os.map V.str)) ∧ 1 ≤ os.length ∧ ∀ w ∈ os, WK 102 w) ?_ ?_
  · walk_at "sts"
    refine L_menuV (.of e8) h0 (by simp; omega) fun v hv => ?_
    simp only [List.mem_append, List.mem_singleton] at hv
    obtain ⟨qo, os, rfl, hq, hol, how⟩ : ∃ (qo : Addr) (os : List Str), v = .ref qo ∧ H8 qo = some (.lst (os.map V.str)) ∧ 1 ≤ os.length ∧ wkb 102 os = true := by
      rcases hv with ((rfl | rfl) | rfl) | rfl
      · exact ⟨_, ["", "Abc", "a-", "abcdefghi", "0", "a.b", "a\n", "a\tb"], rfl, e81, by decide, by decide +kernel⟩
      · exact ⟨_, ["", "1000000001", "-1000000001", "+1", "01", "-0", "1.0", "1\n"], rfl, e83, by decide, by decide +kernel⟩
      · exact ⟨_, ["", "0", "1000001", "-1", "007", "x", "\t1"], rfl, e85, by decide, by decide +kernel⟩
      · exact ⟨_, ["", "a.", ".a", "a..b", "A", "a.b.c.d", "--", "-.a", "abcdefghi"], rfl, e87, by decide, by decide +kernel⟩
    walk_at "sts"
    exact ⟨_, qo, os, rfl, s1.trans s18, hq, hol, wk_of how⟩
  rintro σ' H1 ⟨po, qo, os, rfl, s1, e1, hol, how⟩
  walk_at "sts"
  refine L_slL (s1.seq hL) fun p2 hp2 => ?_
  rw [cutV_map]
  have s2 := same_new (o := HO.lst ((cutG ws none (some at_)).map V.str)) hp2
  have e2 : upd H1 p2 (HO.lst ((cutG ws none (some at_)).map V.str)) p2 = _ := upd_same
  generalize upd H1 p2 (HO.lst ((cutG ws none (some at_)).map V.str)) = H2 at s2 e2
  walk_at "sts"
  refine L_lenL (.of (s2 _ _ e1)) ?_
  rw [List.length_map]
  walk_at "sts"
  refine L_I (show (0 : Int) < os.length by omega) ?_
  refine L_menuV (.of (s2 _ _ e1)) (Int.emod_nonneg _ (by omega)) (by rw [List.length_map]; exact Int.emod_lt_of_pos _ (by omega)) fun v hv => ?_
  obtain ⟨w, hw, rfl⟩ := List.mem_map.mp hv
  walk_at "sts"
  walk_at "nw"
  rename_i p3 hp3 H3 s3 e3
  have l1 := cutG_len ws none (some at_)
  have l2 := cutG_len ws (some (at_ + 1)) none
  refine L_addL (s3 _ _ e2) e3 (sz_dec (by rw [List.length_map, List.length_singleton]; omega)) ?_
  walk_at "nwp"
  rename_i p4 hp4 H4 s4 e4
  walk_at "sts"
  refine L_slL ((s1.trans (s2.trans (s3.trans s4))).seq hL) fun p5 hp5 => ?_
  rw [cutV_map]
  have s5 := same_new (o := HO.lst ((cutG ws (some (at_ + 1)) none).map V.str)) hp5
  have e5 : upd H4 p5 (HO.lst ((cutG ws (some (at_ + 1)) none).map V.str)) p5 = _ := upd_same
  generalize upd H4 p5 (HO.lst ((cutG ws (some (at_ + 1)) none).map V.str)) = H5 at s5 e5
  walk_at "sts"
  refine L_addL (s5 _ _ e4) e5 (sz_dec (by rw [List.length_append, List.length_map, List.length_map, List.length_singleton]; omega)) ?_
  walk_at "nwp"
  rename_i p6 hp6 H6 s6 e6
  have e6' : H6 p6 = some (.lst ((cutG ws none (some at_) ++ [w] ++ cutG ws (some (at_ + 1)) none).map V.str)) := by rw [e6, List.map_append, List.map_append]; rfl
  have s15 := s1.trans (s2.trans (s3.trans (s4.trans s5)))
  refine q p6 _ H6 (s15.free hp6) (s15.trans s6) e6' (by rw [List.length_append, List.length_append, List.length_singleton]; omega) fun x hx => ?_
  rcases List.mem_append.mp hx with hx | hx
  · rcases List.mem_append.mp hx with hx | hx
    · exact hW x (cutG_mem hx)
    · rw [List.mem_singleton.mp hx]; exact how w hw
  · exact hW x (cutG_mem hx)
theorem line_words {d : Nat} {u : Un} (g : GU d u) : ∃ x y z, cutAt 32 (lineOf u) = [u.1, x, y, z] ∧ ∀ w ∈ cutAt 32 (lineOf u), WK 100 w := by
  refine ⟨_, _, _, line_cut g, fun w hw => ?_⟩
  rw [line_cut g] at hw
  have gv := g.v
  have gs := g.s
  simp only [List.mem_cons, List.not_mem_nil, or_false] at hw
  rcases hw with rfl | rfl | rfl | rfl
  · exact ⟨Nat.le_trans g.n.2.1 (by decide), fun c hc => by have := g.n.2.2 c hc; omega⟩
  · exact ⟨Nat.le_trans (str_lenB (by omega)) (by decide), fun c hc => by have := no_txt hc; omega⟩
  · exact ⟨Nat.le_trans (str_lenB (by omega)) (by decide), fun c hc => by have := no_txt hc; omega⟩
  · exact ⟨word_len (by have := g.p; omega) g.g, fun c hc => by have := no_word g.g hc; omega⟩
theorem WK.mono {n m : Nat} {w : Str} (h : WK n w) (l : n ≤ m) : WK m w := ⟨Nat.le_trans h.1 l, h.2⟩
theorem WK.app {n m : Nat} {a b : Str} (ha : WK n a) (hb : WK m b) : WK (n + m) (a ++ b) := ⟨by rw [str_len_append]; have := ha.1; have := hb.1; omega, fun c hc => by
  rw [str_app_list] at hc
  rcases List.mem_append.mp hc with hc | hc
  · exact ha.2 c hc
  · exact hb.2 c hc⟩
theorem wk_join {vs : List Str} (hl : vs.length ≤ 9) (h : ∀ w ∈ vs, WK 102 w) : WK 1000 (Txt.join " " vs) ∧ (vs.map (·.length)).sum ≤ 918 := by
  have hs : (vs.map (·.length)).sum ≤ 102 * vs.length := by
    clear hl
    induction vs with
    | nil => simp
    | cons w vs ih =>
      have h1 := (h w (List.mem_cons_self ..)).1
      have h2 := ih fun x hx => h x (List.mem_cons_of_mem _ hx)
      rw [List.map_cons, List.sum_cons, List.length_cons]
      omega
  refine ⟨⟨?_, fun c hc => ?_⟩, by omega⟩
  · rw [show (" " : Str) = ⟨#[32]⟩ from rfl, join_is, SX.S_len]
    have h1 := joinL_len [32] (vs.map fun z => z.cps.toList)
    rw [List.length_map, List.length_singleton, List.map_map, show ((vs.map ((fun x => x.length) ∘ fun z => z.cps.toList))) = vs.map (·.length) from List.map_congr_left fun z _ => str_len] at h1
    omega
  · rw [show (" " : Str) = ⟨#[32]⟩ from rfl, join_is] at hc
    rcases mem_joinL (S := [32]) (ls := vs.map fun z => z.cps.toList) hc with h1 | ⟨p, hp, h1⟩
    · rw [List.mem_singleton.mp h1]; decide
    · obtain ⟨z, hz, rfl⟩ := List.mem_map.mp hp
      exact (h z hz).2 c h1
/-- what a line may be spoiled to -/
def OD (D : PyData) : Prop := D = .none ∨ D = .int 7 ∨ D = .bool true ∨ ∃ z, WK 1000 z ∧ (D = .str z ∨ D = .list [.str z] ∨ D = .tuple [.str z])
def sp__law_odd_line (K : PySem.W.Frag) (mg : Str → Option Value) : Sp := fun vs H Q _ => match vs with | [.ref a, .int at_, .int c] => ∃ (U : List Un) (d : Nat), SqL K H a ((U.map lineOf).map V.str) ∧ (∀ u ∈ U, GU d u) ∧ 0 ≤ at_ ∧ at_ < U.length ∧ U.length ≤ 24 ∧ ∀ v D H', Same H H' → Dp K (rs (fun b => H b = none) H') v D → OD D → Q v H' | _ => False
theorem q__law_odd_line {H : Hp} {Q : VK} {E : XK} {a : Addr} {at_ : Int} {c : Int} (q : ∃ (U : List Un) (d : Nat), SqL K H a ((U.map lineOf).map V.str) ∧ (∀ u ∈ U, GU d u) ∧ 0 ≤ at_ ∧ at_ < U.length ∧ U.length ≤ 24 ∧ ∀ v D H', Same H H' → Dp K (rs (fun b => H b = none) H') v D → OD D → Q v H') : sp__law_odd_line K mg [.ref a, .int at_, .int c] H Q E := q
local macro_rules | `(tactic| walk_at "op") => `(tactic| with_reducible refine q__law_odd_line ?_)
theorem c__law_odd_line (T : Txt K mg) : Cal P w K mg base 2 "_law_odd_line" (sp__law_odd_line K mg) := by
  refine T.d__law_odd_line.cal (k := 1) sc__law_odd_line (by intro vs H Q E h; unfold sp__law_odd_line at h; split at h <;> first | rfl | exact h.elim) fun f cdv A outer s H vs Q E hr h => ?_
  refine ⟨_, (pss_cons (ps_set (i := 3) sc__law_odd_line.nd rfl (.inl rfl) (pe_c (c__law_mixed T) hr (by decide) (by rfl) (pa_cons (pv 2) (pa_cons pe_int pa_nil))))
    (pss_cons (ps_set (i := 4) sc__law_odd_line.nd rfl (.inl rfl) (pe_op op_mod (pv 3) pe_int))
    (pss_cons (ps_set (i := 5) sc__law_odd_line.nd rfl (.inl rfl) (pe_op op_fdivW (pv 3) pe_int))
    (pss_cons (ps_set (i := 6) sc__law_odd_line.nd rfl (.inl rfl) (pe_bm PySem.F.plainAttrs_str PySem.F.slot_str_split PySem.F.type_str_split mt_split (pe_ix ix_seq (pv 0) (pv 1) (fun _ _ => rfl)) (pa_cons pe_str pa_nil)))
    (Evl.pss_cut (ps_if (pt_cmpR op_ltA (pv 4) pe_int (nomark _))
    (pss_one (ps_set (i := 6) sc__law_odd_line.nd rfl (.inl rfl) (pe_c (c__law_odd_word T) hr (by decide) (by rfl) (pa_cons (pv 6) (pa_cons (pe_op op_mod (pv 5) pe_int) (pa_cons (pe_op op_fdivW (pv 5) pe_int) pa_nil))))))
    (pss_one (ps_if (pt_cmpR (op_eqA hr) (pv 4) pe_int (nomark _))
    (pss_one (ps_set (i := 6) sc__law_odd_line.nd rfl (.inl rfl) (pe_slice sl_list (pv 6) po_none (po_some (pe_op op_mod (pv 5) pe_int)))))
    (pss_one (ps_if (pt_cmpR (op_eqA hr) (pv 4) pe_int (nomark _))
    (pss_one (ps_set (i := 6) sc__law_odd_line.nd rfl (.inl rfl) (pe_op op_addA (pe_op op_addA (pe_slice sl_list (pv 6) po_none (po_some (pe_op op_mod (pv 5) pe_int))) (pe_lst (pa_cons (pe_ix ix_seq (pe_lst (pa_cons pe_str (pa_cons pe_str (pa_cons pe_str (pa_cons pe_str (pa_cons pe_str pa_nil)))))) (pe_op op_mod (pe_op op_fdivW (pv 5) pe_int) pe_int) (fun _ _ => rfl)) pa_nil))) (pe_slice sl_list (pv 6) (po_some (pe_op op_mod (pv 5) pe_int)) po_none))))
    (pss_one (ps_if (pt_cmpR (op_eqA hr) (pv 4) pe_int (nomark _))
    (pss_one (ps_set (i := 6) sc__law_odd_line.nd rfl (.inl rfl) (pe_op op_addA (pe_lst (pa_cons (pe_ix ix_seq (pe_bm PySem.F.plainAttrs_str PySem.F.slot_str_split PySem.F.type_str_split mt_split (pe_ix ix_seq (pv 0) (pe_op op_mod (pv 5) (pe_callB call_lenA (by rfl) T.n_len (by decide +kernel) (pa_cons (pv 0) pa_nil))) (fun _ _ => rfl)) (pa_cons pe_str pa_nil)) pe_int (fun _ _ => rfl)) pa_nil)) (pe_slice sl_list (pv 6) (po_some pe_int) po_none))))
    (pss_one (ps_set (i := 6) sc__law_odd_line.nd rfl (.inl rfl) (pe_op op_addA (pe_slice sl_list (pv 6) po_none (po_some pe_int)) (pe_lst (pa_cons (pe_ix ix_seq (pe_lst (pa_cons (pe_op op_addA (pe_ix ix_seq (pv 6) pe_int (fun _ _ => rfl)) pe_str) (pa_cons pe_str (pa_cons pe_str (pa_cons pe_str pa_nil))))) (pe_op op_mod (pv 5) pe_int) (fun _ _ => rfl)) pa_nil))))))))))))
    (pss_cons (ps_if (pt_cmpR (op_eqA hr) (pe_op op_mod (pe_op op_fdivW (pv 3) pe_int) pe_int) pe_int (nomark _))
    (pss_one (ps_ret (pe_ix ix_seq (pe_lst (pa_cons pe_non (pa_cons pe_int (pa_cons (pe_lst (pa_cons (pe_ix ix_seq (pv 0) (pv 1) (fun _ _ => rfl)) pa_nil)) (pa_cons (pe_tup (pa_cons (pe_ix ix_seq (pv 0) (pv 1) (fun _ _ => rfl)) pa_nil)) (pa_cons pe_bl pa_nil)))))) (pe_op op_mod (pv 5) pe_int) (fun _ _ => rfl))))
    pss_nil)
    (pss_one (ps_ret (pe_bm PySem.F.plainAttrs_str PySem.F.slot_str_join PySem.F.type_str_join mt_join pe_str (pa_cons (pv 6) pa_nil)))))))))), ?_⟩
  try simp only [cxOf_K, cxOf_K', cxOf_mg, cxOf_mg']
  unfold sp__law_odd_line at h
  split at h
  case h_2 => exact h.elim
  rename_i a at_ c
  rw [show L2.start ["_law_lines", "_law_at", "_law_cell_here", "_law_number", "_law_way", "_law_odd", "_law_words"] [V.ref a, V.int at_, V.int c] = [some (V.ref a), some (V.int at_), some (V.int c), none, none, none, none] from rfl]
  obtain ⟨U, d, hL, hU, a0, a1, l2, q⟩ := h
  obtain ⟨at_, rfl⟩ : ∃ n : Nat, at_ = n := ⟨at_.toNat, by omega⟩
  obtain ⟨u, hu⟩ : ∃ u, U[at_]? = some u := ⟨U[at_], List.getElem?_eq_getElem (by omega)⟩
  have gu := hU u (List.mem_of_getElem? hu)
  have hat : ((U.map lineOf).map V.str)[at_]? = some (.str (lineOf u)) := by rw [List.getElem?_map, List.getElem?_map, hu]; rfl
  have ll := line_len gu
  obtain ⟨x, y, z, hcut, hwk⟩ := line_words gu
  have one_ : ∀ j : Int, 0 ≤ j → j < U.length → ∃ u' ∈ U, ((U.map lineOf).map V.str)[j.toNat]? = some (.str (lineOf u')) := fun j h0 h1 => by
    have hlt : j.toNat < U.length := by omega
    refine ⟨U[j.toNat], List.getElem_mem hlt, ?_⟩
    rw [List.getElem?_map, List.getElem?_map, List.getElem?_eq_getElem hlt]
    rfl
  walk_at "sts"
  refine ⟨by decide, by decide, fun r r0 r1 => ?_⟩
  walk_at "sa"
  have w0 := Int.emod_nonneg r (show (8 : Int) ≠ 0 by decide)
  have w1 := Int.emod_lt_of_pos r (show (0 : Int) < 8 by decide)
  have od0 : 0 ≤ r / 8 := by omega
  generalize hodd : r / 8 = odd at od0
  refine L_ixL hL (atI_nat hat) ?_
  walk_at "sts"
  refine L_tyS ?_
  walk_at "sts"
  refine ⟨_, " ", rfl, rfl, rfl, sz_dec (by omega), ?_⟩
  rw [show (" " : Str) = ⟨#[32]⟩ from rfl, split_is (by decide)]
  walk_at "nwp"
  rename_i p1 hp1 H1 s1 e1
  rw [hcut] at e1
  walk_at "sts"
  refine L_cut (Mid := fun σ' H' => ∃ (qo : Addr) (vs : List Str), σ' = [some (.ref a), some (.int (at_ : Int)), some (.int c), some (.int r), some (.int (r % 8)), some (.int odd), some (.ref qo)] ∧ Same H H' ∧ H' qo = some (.lst (vs.map V.str)) ∧ vs.length ≤ 9 ∧ ∀ w ∈ vs, WK 102 w) ?_ ?_
  · rw [hcut] at hwk
    have hwk2 : ∀ w ∈ [u.1, x, y, z], WK 102 w := fun w hw => (hwk w hw).mono (by decide)
    have out : ∀ (qo : Addr) (vs : List Str) H', Same H1 H' → H' qo = some (.lst (vs.map V.str)) → vs.length ≤ 9 → (∀ w ∈ vs, WK 102 w) → ∃ (qo' : Addr) (vs : List Str), [some (V.ref a), some (.int (at_ : Int)), some (.int c), some (.int r), some (.int (r % 8)), some (.int odd), some (.ref qo)] = [some (V.ref a), some (.int (at_ : Int)), some (.int c), some (.int r), some (.int (r % 8)), some (.int odd), some (.ref qo')] ∧ Same H H' ∧ H' qo' = some (.lst (vs.map V.str)) ∧ vs.length ≤ 9 ∧ ∀ w ∈ vs, WK 102 w := fun qo vs H' s e l w => ⟨qo, vs, rfl, s1.trans s, e, l, w⟩
    walk_at "sts"
    refine L_d (fun c1 => ?_) (fun c1 => ?_)
    · walk_at "sa"
      refine ⟨[u.1, x, y, z], .of e1, rfl, hwk2, Int.emod_nonneg _ (by decide), Int.emod_lt_of_pos _ (by decide), fun p vs H' hp s e l w => ?_⟩
      walk_at "sts"
      exact out _ _ _ s e l w
    walk_at "sts"
    refine L_d (fun c2 => ?_) (fun c2 => ?_)
    · walk_at "sa"
      refine L_slL (.of e1) fun p2 hp2 => ?_
      rw [cutV_map]
      walk_at "sts"
      exact out _ _ _ (same_new hp2) upd_same (Nat.le_trans (cutG_len _ _ _) (by simp)) fun w hw => hwk2 w (cutG_mem hw)
    walk_at "sts"
    refine L_d (fun c3 => ?_) (fun c3 => ?_)
    · walk_at "sa"
      refine L_slL (.of e1) fun p2 hp2 => ?_
      rw [cutV_map]
      have l1 := cutG_len [u.1, x, y, z] none (some (odd % 5))
      have l2' := cutG_len [u.1, x, y, z] (some (odd % 5)) none
      have s2 := same_new (o := HO.lst ((cutG [u.1, x, y, z] none (some (odd % 5))).map V.str)) hp2
      have e2 : upd H1 p2 (HO.lst ((cutG [u.1, x, y, z] none (some (odd % 5))).map V.str)) p2 = _ := upd_same
      generalize upd H1 p2 (HO.lst ((cutG [u.1, x, y, z] none (some (odd % 5))).map V.str)) = H2 at s2 e2
      walk_at "sts"
      walk_at "nw"
      rename_i p3 hp3 H3 s3 e3
      walk_at "sa"
      refine L_menuV (.of e3) (Int.emod_nonneg _ (by decide)) (Int.emod_lt_of_pos _ (by decide)) fun v hv => ?_
      obtain ⟨w, rfl, hw⟩ : ∃ w : Str, v = .str w ∧ WK 102 w := by
        simp only [List.mem_cons, List.not_mem_nil, or_false] at hv
        have hk : ∀ w ∈ (["", "", "a", "-", "7"] : List Str), WK 102 w := wk_of (by decide +kernel)
        rcases hv with rfl | rfl | rfl | rfl | rfl <;> exact ⟨_, rfl, hk _ (by simp)⟩
      walk_at "sts"
      walk_at "nw"
      rename_i p4 hp4 H4 s4 e4
      refine L_addL ((s3.trans s4) _ _ e2) e4 (sz_dec (by rw [List.length_map, List.length_singleton]; simp at l1 ⊢; omega)) ?_
      walk_at "nwp"
      rename_i p5 hp5 H5 s5 e5
      walk_at "sa"
      refine L_slL (.of ((s2.trans (s3.trans (s4.trans s5))) _ _ e1)) fun p6 hp6 => ?_
      rw [cutV_map]
      have s6 := same_new (o := HO.lst ((cutG [u.1, x, y, z] (some (odd % 5)) none).map V.str)) hp6
      have e6 : upd H5 p6 (HO.lst ((cutG [u.1, x, y, z] (some (odd % 5)) none).map V.str)) p6 = _ := upd_same
      generalize upd H5 p6 (HO.lst ((cutG [u.1, x, y, z] (some (odd % 5)) none).map V.str)) = H6 at s6 e6
      walk_at "sts"
      refine L_addL (s6 _ _ e5) e6 (sz_dec (by rw [List.length_append, List.length_map, List.length_map, List.length_singleton]; simp at l1 l2' ⊢; omega)) ?_
      walk_at "nwp"
      rename_i p7 hp7 H7 s7 e7
      walk_at "sts"
      refine out p7 (cutG [u.1, x, y, z] none (some (odd % 5)) ++ [w] ++ cutG [u.1, x, y, z] (some (odd % 5)) none) _ (s2.trans (s3.trans (s4.trans (s5.trans (s6.trans s7))))) (by rw [e7, List.map_append, List.map_append]; rfl) (by rw [List.length_append, List.length_append, List.length_singleton]; simp at l1 l2' ⊢; omega) fun b hb => ?_
      rcases List.mem_append.mp hb with hb | hb
      · rcases List.mem_append.mp hb with hb | hb
        · exact hwk2 b (cutG_mem hb)
        · rw [List.mem_singleton.mp hb]; exact hw
      · exact hwk2 b (cutG_mem hb)
    walk_at "sts"
    refine L_d (fun c4 => ?_) (fun c4 => ?_)
    · walk_at "sts"
      refine L_lenL (s1.seq hL) ?_
      rw [List.length_map, List.length_map]
      walk_at "sts"
      refine L_I (show (0 : Int) < U.length by omega) ?_
      have j0 := Int.emod_nonneg odd (show (U.length : Int) ≠ 0 by omega)
      have j1 := Int.emod_lt_of_pos odd (show (0 : Int) < U.length by omega)
      obtain ⟨u', hu', hat'⟩ := one_ _ j0 j1
      have gu' := hU u' hu'
      obtain ⟨x', y', z', hcut', hwk'⟩ := line_words gu'
      have ll' := line_len gu'
      refine L_ixL (s1.seq hL) (atI_int j0 hat') ?_
      walk_at "sts"
      refine L_tyS ?_
      walk_at "sts"
      refine ⟨_, " ", rfl, rfl, rfl, sz_dec (by omega), ?_⟩
      rw [show (" " : Str) = ⟨#[32]⟩ from rfl, split_is (by decide)]
      walk_at "nwp"
      rename_i p2 hp2 H2 s2 e2
      rw [hcut'] at e2
      walk_at "sts"
      refine L_ixL (.of e2) (atI_int (show (0 : Int) ≤ 0 by decide) rfl) ?_
      walk_at "sts"
      walk_at "nw"
      rename_i p3 hp3 H3 s3 e3
      walk_at "sts"
      refine L_slL (.of ((s2.trans s3) _ _ e1)) fun p4 hp4 => ?_
      have s4 := same_new (o := HO.lst (cutV ([u.1, x, y, z].map V.str) (some 1) none)) hp4
      have e4 : upd H3 p4 (HO.lst (cutV ([u.1, x, y, z].map V.str) (some 1) none)) p4 = _ := upd_same
      generalize upd H3 p4 (HO.lst (cutV ([u.1, x, y, z].map V.str) (some 1) none)) = H4 at s4 e4
      rw [show cutV ([u.1, x, y, z].map V.str) (some 1) none = [x, y, z].map V.str from rfl] at e4
      walk_at "sts"
      refine L_addL (s4 _ _ e3) e4 (sz_dec (by simp)) ?_
      walk_at "nwp"
      rename_i p5 hp5 H5 s5 e5
      walk_at "sts"
      refine out p5 [u'.1, x, y, z] _ (s2.trans (s3.trans (s4.trans s5))) e5 (by simp) fun b hb => ?_
      rcases List.mem_cons.mp hb with rfl | hb
      · exact (hwk' _ (by rw [hcut']; exact List.mem_cons_self ..)).mono (by decide)
      · exact hwk2 b (List.mem_cons_of_mem _ hb)
    walk_at "sts"
    refine L_slL (.of e1) fun p2 hp2 => ?_
    have s2 := same_new (o := HO.lst (cutV ([u.1, x, y, z].map V.str) none (some 3))) hp2
    have e2 : upd H1 p2 (HO.lst (cutV ([u.1, x, y, z].map V.str) none (some 3))) p2 = _ := upd_same
    generalize upd H1 p2 (HO.lst (cutV ([u.1, x, y, z].map V.str) none (some 3))) = H2 at s2 e2
    rw [show cutV ([u.1, x, y, z].map V.str) none (some 3) = [u.1, x, y].map V.str from rfl] at e2
    walk_at "sts"
    refine L_ixL (.of (s2 _ _ e1)) (atI_int (show (0 : Int) ≤ 3 by decide) rfl) ?_
    walk_at "sts"
    have hz := hwk z (by simp)
    have hza : WK 102 (z ++ ".a") := hz.app (m := 2) (wk_of (n := 2) (ws := [".a"]) (by decide +kernel) _ (by simp))
    refine L_addS (sz_dec (by have := hz.1; rw [show (".a" : Str).length = 2 from rfl]; omega)) ?_
    walk_at "sts"
    walk_at "nw"
    rename_i p3 hp3 H3 s3 e3
    walk_at "sa"
    refine L_menuV (.of e3) (Int.emod_nonneg _ (by decide)) (Int.emod_lt_of_pos _ (by decide)) fun v hv => ?_
    obtain ⟨w, rfl, hw⟩ : ∃ w : Str, v = .str w ∧ WK 102 w := by
      simp only [List.mem_cons, List.not_mem_nil, or_false] at hv
      have hk : ∀ w ∈ (["a", "-", "a.b"] : List Str), WK 102 w := wk_of (by decide +kernel)
      rcases hv with rfl | rfl | rfl | rfl
      · exact ⟨_, rfl, hza⟩
      · exact ⟨_, rfl, hk _ (by simp)⟩
      · exact ⟨_, rfl, hk _ (by simp)⟩
      · exact ⟨_, rfl, hk _ (by simp)⟩
    walk_at "sts"
    walk_at "nw"
    rename_i p4 hp4 H4 s4 e4
    refine L_addL ((s3.trans s4) _ _ e2) e4 (sz_dec (by simp)) ?_
    walk_at "nwp"
    rename_i p5 hp5 H5 s5 e5
    walk_at "sts"
    refine out p5 [u.1, x, y, w] _ (s2.trans (s3.trans (s4.trans s5))) e5 (by simp) fun b hb => ?_
    simp only [List.mem_cons, List.not_mem_nil, or_false] at hb
    rcases hb with rfl | rfl | rfl | rfl
    · exact hwk2 _ (by simp)
    · exact hwk2 _ (by simp)
    · exact hwk2 _ (by simp)
    · exact hw
  rintro σ' H2 ⟨qo, vs, rfl, s2, e2, hvl, hvw⟩
  have hlk : WK 1000 (lineOf u) := ⟨by omega, fun c hc => by
    rw [line_list] at hc
    rcases mem_joinL hc with h | ⟨p, hp, h⟩
    · rw [List.mem_singleton.mp h]; decide
    · simp only [List.mem_cons, List.not_mem_nil, or_false] at hp
      rcases hp with rfl | rfl | rfl | rfl
      · have := gu.n.2.2 c h; omega
      · have := no_txt h; omega
      · have := no_txt h; omega
      · have := no_word gu.g h; omega⟩
  have fresh : ∀ {H' : Hp} {b : Addr} {o : HO}, H b = none → H' b = some o → rs (fun b => H b = none) H' b = some o := fun h e => rs_at h e
  walk_at "sa"
  refine L_d (fun c1 => ?_) (fun c1 => ?_)
  · walk_at "sts"
    refine L_ixL (s2.seq hL) (atI_nat hat) ?_
    walk_at "sts"
    walk_at "nw"
    rename_i p3 hp3 H3 s3 e3
    walk_at "sts"
    refine L_ixL ((s2.trans s3).seq hL) (atI_nat hat) ?_
    walk_at "sts"
    walk_at "nw"
    rename_i p4 hp4 H4 s4 e4
    walk_at "sts"
    walk_at "nw"
    rename_i p5 hp5 H5 s5 e5
    walk_at "sa"
    refine L_menuV (.of e5) (Int.emod_nonneg _ (by decide)) (Int.emod_lt_of_pos _ (by decide)) fun v hv => ?_
    have s05 := s2.trans (s3.trans (s4.trans s5))
    simp only [List.mem_cons, List.not_mem_nil, or_false] at hv
    rcases hv with rfl | rfl | rfl | rfl | rfl
    · exact q _ .none _ s05 .non (.inl rfl)
    · exact q _ (.int 7) _ s05 (.int _) (.inr (.inl rfl))
    · exact q _ (.list [.str (lineOf u)]) _ s05 (.lst (.of (fresh (s2.free hp3) ((s4.trans s5) _ _ e3))) (.cons (.str _) .nil)) (.inr (.inr (.inr ⟨_, hlk, .inr (.inl rfl)⟩)))
    · exact q _ (.tuple [.str (lineOf u)]) _ s05 (.tup (.of (fresh ((s2.trans s3).free hp4) (s5 _ _ e4))) (.cons (.str _) .nil)) (.inr (.inr (.inr ⟨_, hlk, .inr (.inr rfl)⟩)))
    · exact q _ (.bool true) _ s05 (.bl _) (.inr (.inr (.inl rfl)))
  · obtain ⟨hj, hsum⟩ := wk_join hvl hvw
    walk_at "sts"
    refine L_tyS ?_
    walk_at "sts"
    refine ⟨" ", qo, vs, rfl, rfl, .inl (.of e2), ?_, ?_⟩
    · rw [show (" " : Str).length = 1 from rfl]
      omega
    exact q _ (.str _) _ s2 (.str _) (.inr (.inr (.inr ⟨_, hj, .inl rfl⟩)))
def boolsW (ns : List Str) (dp : Option Nat) (w : Str) : List Bool := [isName w && !decide (w ∈ ns), (within (-1000000000) 1000000000 (num w.cps.toList)).isSome, (within 1 1000000 (num w.cps.toList)).isSome, match pathOf w with
  | none => false
  | some ps => dp.all fun d => decide (ps.length = d)]
theorem boolsW_at (ns : List Str) (dp : Option Nat) (w : Str) {i : Nat} (hi : i < 4) : (boolsW ns dp w)[i]? = some (okW ns dp w i) := by
  obtain rfl | rfl | rfl | rfl : i = 0 ∨ i = 1 ∨ i = 2 ∨ i = 3 := by omega
  · show some _ = some _
    unfold okW
    rw [th0]
    by_cases c : isName w = true
    · rw [if_pos c, c, Bool.true_and]
    · rw [if_neg c, Bool.eq_false_iff.mpr c, Bool.false_and]
  · show some _ = some _
    unfold okW
    rw [th1]
    cases within (-1000000000) 1000000000 (num w.cps.toList) <;> rfl
  · show some _ = some _
    unfold okW
    rw [th2]
    cases within 1 1000000 (num w.cps.toList) <;> rfl
  · show some _ = some _
    unfold okW
    rw [th3]
    cases pathOf w <;> rfl
theorem wk_cut {z : Str} {c : Nat} (h : WK 1000 z) : ∀ w ∈ cutAt c z, WK 1000 w := fun w hw => ⟨Nat.le_trans (cutAt_len hw) h.1, fun d hd => by
  obtain ⟨l, h1, rfl⟩ := List.mem_map.mp hw
  rcases (spl_part [c] _ 0 [] l h1).2 d hd with h2 | h2
  · cases h2
  · exact h.2 d h2⟩
def wrongO (ns : List Str) (dp : Option Nat) : Option Str → Option Nat
  | none => some 0
  | some z => wrongW ns dp (cutAt 32 z)
/-- a line of few signs, or another thing -/
def LW (K : PySem.W.Frag) (H : Hp) (v : V) : Option Str → Prop
  | none => NotS K H v
  | some z => v = .str z ∧ WK 1000 z
theorem LW.same {K : PySem.W.Frag} {H H' : Hp} {v : V} {o : Option Str} (h : LW K H v o) (s : Same H H') : LW K H' v o := by
  cases o with
  | none => exact NotS.same h s
  | some z => exact h
def sp__law_wrong_word (K : PySem.W.Frag) (mg : Str → Option Value) : Sp := fun vs H Q _ => match vs with | [v, .ref pn, dv] => ∃ (o : Option Str) (ns : List Str) (dp : Option Nat), LW K H v o ∧ SqL K H pn (ns.map V.str) ∧ dv = optI dp ∧ ∀ H', Same H H' → Q (optI (wrongO ns dp o)) H' | _ => False
theorem q__law_wrong_word {H : Hp} {Q : VK} {E : XK} {v : V} {pn : Addr} {dv : V} (q : ∃ (o : Option Str) (ns : List Str) (dp : Option Nat), LW K H v o ∧ SqL K H pn (ns.map V.str) ∧ dv = optI dp ∧ ∀ H', Same H H' → Q (optI (wrongO ns dp o)) H') : sp__law_wrong_word K mg [v, .ref pn, dv] H Q E := q
local macro_rules | `(tactic| walk_at "op") => `(tactic| with_reducible refine q__law_wrong_word ?_)
theorem c__law_wrong_word (T : Txt K mg) : Cal P w K mg base 3 "_law_wrong_word" (sp__law_wrong_word K mg) := by
  refine T.d__law_wrong_word.cal (k := 2) sc__law_wrong_word (by intro vs H Q E h; unfold sp__law_wrong_word at h; split at h <;> first | rfl | exact h.elim) fun f cdv A outer s H vs Q E hr h => ?_
  refine ⟨_, (pss_cons (ps_if (pt_not (pt_val (pe_callB call_isi (by rfl) T.n_isinstance (by decide +kernel) (pa_cons (pv 0) (pa_cons (pe_ty "str" (by rfl) T.n_str (by decide +kernel)) pa_nil)))))
    (pss_one (ps_ret pe_int))
    pss_nil)
    (pss_cons (ps_set (i := 3) sc__law_wrong_word.nd rfl (.inl rfl) (pe_bm PySem.F.plainAttrs_str PySem.F.slot_str_split PySem.F.type_str_split mt_split (pv 0) (pa_cons pe_str pa_nil)))
    (pss_cons (ps_for PassesOwn.never rfl (pi_range1 (by rfl) T.n_range (pa_cons (pe_callB (call_min2A rfl) (by rfl) T.n_min (by decide +kernel) (pa_cons pe_int (pa_cons (pe_callB call_lenA (by rfl) T.n_len (by decide +kernel) (pa_cons (pv 3) pa_nil)) pa_nil))) pa_nil)) (pg_name (i := 4) sc__law_wrong_word.nd rfl (.inl rfl))
    (pss_cons (ps_set (i := 5) sc__law_wrong_word.nd rfl (.inl rfl) (pe_lst (pa_cons pe_bl (pa_cons pe_bl (pa_cons pe_bl (pa_cons pe_bl pa_nil))))))
    (Evl.pss_cut (ps_asg (pe_and (pe_c (c__law_is_name T) hr (by decide) (by rfl) (pa_cons (pe_ix ix_seq (pv 3) (pv 4) (fun _ _ => rfl)) pa_nil)) (pe_one (pe_cmpR op_notInA (pe_ix ix_seq (pv 3) (pv 4) (fun _ _ => rfl)) (pv 1) (by rfl)))) (pg_sub (pv 5) pe_int set_list))
    (pss_cons (ps_asg (pe_c (c__law_is_number T) hr (by decide) (by rfl) (pa_cons (pe_ix ix_seq (pv 3) (pv 4) (fun _ _ => rfl)) (pa_cons (pe_op op_sub pe_int (pe_op op_pow pe_int pe_int)) (pa_cons (pe_op op_pow pe_int pe_int) pa_nil)))) (pg_sub (pv 5) pe_int set_list))
    (pss_cons (ps_asg (pe_c (c__law_is_number T) hr (by decide) (by rfl) (pa_cons (pe_ix ix_seq (pv 3) (pv 4) (fun _ _ => rfl)) (pa_cons pe_int (pa_cons (pe_op op_pow pe_int pe_int) pa_nil)))) (pg_sub (pv 5) pe_int set_list))
    (Evl.pss_cut (ps_asg (pe_and (pe_cmpR op_notNA (pe_c (c__law_depth T) hr (by decide) (by rfl) (pa_cons (pe_ix ix_seq (pv 3) (pv 4) (fun _ _ => rfl)) pa_nil)) pe_non (nomark _)) (pe_one (pe_or (pe_cmpR op_isNA (pv 2) pe_non (nomark _)) (pe_one (pe_cmpR (op_eqA hr) (pe_c (c__law_depth T) hr (by decide) (by rfl) (pa_cons (pe_ix ix_seq (pv 3) (pv 4) (fun _ _ => rfl)) pa_nil)) (pv 2) (nomark _)))))) (pg_sub (pv 5) pe_int set_list))
    (pss_one (ps_if (pt_not (pt_val (pe_ix ix_seq (pv 5) (pv 4) (fun _ _ => rfl))))
    (pss_one (ps_ret (pv 4)))
    pss_nil))))))))
    (pss_cons (ps_if (pt_cmpR (op_eqA hr) (pe_callB call_lenA (by rfl) T.n_len (by decide +kernel) (pa_cons (pv 3) pa_nil)) pe_int (nomark _))
    (pss_one (ps_ret pe_non))
    pss_nil)
    (pss_one (ps_ret (pe_callB (call_min2A rfl) (by rfl) T.n_min (by decide +kernel) (pa_cons pe_int (pa_cons (pe_callB call_lenA (by rfl) T.n_len (by decide +kernel) (pa_cons (pv 3) pa_nil)) pa_nil))))))))), ?_⟩
  try simp only [cxOf_K, cxOf_K', cxOf_mg, cxOf_mg']
  unfold sp__law_wrong_word at h
  split at h
  case h_2 => exact h.elim
  rename_i v pn dv
  rw [show L2.start ["_law_line_here", "_law_names_here", "_law_deep", "_law_words", "_law_at", "_law_good"] [v, V.ref pn, dv] = [some (v), some (V.ref pn), some (dv), none, none, none] from rfl]
  obtain ⟨o, ns, dp, hv, hN, rfl, q⟩ := h
  cases o with
  | none =>
    obtain ⟨ty, h1, h2⟩ := hv
    walk_at "sts"
    refine L_isi h1 h2 ?_
    walk_at "sts"
    exact q _ (Same.refl _)
  | some z =>
    obtain ⟨rfl, hz⟩ := hv
    have hl := hz.1
    replace q : ∀ H', Same H H' → Q (optI (wrongW ns dp (cutAt 32 z))) H' := q
    walk_at "sts"
    refine L_isi (.base (.str _)) (b := true) (by decide +kernel) ?_
    walk_at "sts"
    refine L_tyS ?_
    walk_at "sts"
    refine ⟨z, " ", rfl, rfl, rfl, sz_dec (by omega), ?_⟩
    rw [show (" " : Str) = ⟨#[32]⟩ from rfl, split_is (by decide)]
    have hwk := wk_cut (c := 32) hz
    generalize cutAt 32 z = ws at q hwk
    walk_at "nwp"
    rename_i p hp H1 s1 e1
    walk_at "sts"
    refine L_lenL (.of e1) ?_
    rw [List.length_map]
    walk_at "sts"
    rw [show min (4 : Int) ((ws.length : Nat) : Int) = ((min 4 ws.length : Nat) : Int) by omega]
    refine L_r1 (by omega) (by omega) ?_
    refine f_range (fun i σ' H' => ∃ (v4 v5 : Option V), σ' = [some (.str z), some (.ref pn), some (optI dp), some (.ref p), v4, v5] ∧ Same H1 H' ∧ wrongAt ns dp 0 (ws.take 4) = wrongAt ns dp i ((ws.take 4).drop i)) ⟨_, _, rfl, Same.refl _, by rw [List.drop_zero]⟩ ?_ ?_
    · rintro i σ' H2 hi ⟨v4, v5, rfl, s2, hk⟩
      have hi4 : i < 4 ∧ i < ws.length := by omega
      obtain ⟨w, hw⟩ : ∃ w, ws[i]? = some w := ⟨ws[i], List.getElem?_eq_getElem hi4.2⟩
      have hwt : (ws.take 4)[i]? = some w := by rw [List.getElem?_take_of_lt hi4.1]; exact hw
      have hd : (ws.take 4).drop i = w :: (ws.take 4).drop (i + 1) := by
        obtain ⟨hlt, e⟩ := List.getElem?_eq_some_iff.mp hwt
        rw [← e]
        exact List.drop_eq_getElem_cons hlt
      rw [hd, wrongAt] at hk
      have hwW := hwk w (List.mem_of_getElem? hw)
      have hatw : (ws.map V.str)[i]? = some (.str w) := by rw [List.getElem?_map, hw]; rfl
      have hatw' : atI (ws.map V.str) (0 + (i : Int)) = some (.str w) := by rw [Int.zero_add]; exact atI_nat hatw
      walk_at "sts"
      walk_at "nw"
      rename_i p3 hp3 H3 s3 e3
      walk_at "sts"
      refine L_cut (Mid := fun σ' H' => σ' = [some (.str z), some (.ref pn), some (optI dp), some (.ref p), some (.int (0 + (i : Int))), some (.ref p3)] ∧ Same H2 H' ∧ H' p3 = some (.lst [.bl (isName w && !decide (w ∈ ns)), .bl true, .bl true, .bl true])) ?_ ?_
      · walk_at "sts"
        refine L_ixL (.of ((s2.trans s3) _ _ e1)) hatw' ?_
        walk_at "sts"
        refine ⟨hwW, fun H4 s4 => ?_⟩
        have s34 := s3.trans s4
        cases hn : isName w with
        | true =>
          walk_at "sts"
          refine L_ixL (.of ((s2.trans s34) _ _ e1)) hatw' ?_
          walk_at "sts"
          refine L_notInSs ((s1.trans (s2.trans s34)).seq hN) ?_
          walk_at "sts"
          refine L_setL (s4 _ _ e3) (ixN_of (by decide) (by simp)) ?_
          exact ⟨rfl, same_mut s34 hp3, upd_same⟩
        | false =>
          walk_at "sts"
          refine L_setL (s4 _ _ e3) (ixN_of (by decide) (by simp)) ?_
          exact ⟨rfl, same_mut s34 hp3, upd_same⟩
      rintro σ' H4 ⟨rfl, s4, e4⟩
      walk_at "sa"
      refine L_ixL (.of ((s2.trans s4) _ _ e1)) hatw' ?_
      walk_at "sa"
      refine ⟨hwW, fun H5 s5 => ?_⟩
      walk_at "sa"
      refine L_setL (s5 _ _ e4) (ixN_of (by decide) (by simp)) ?_
      have s6 := same_mut (o := .lst (([.bl (isName w && !decide (w ∈ ns)), .bl true, .bl true, .bl true] : List V).set (1 : Int).toNat (.bl (within (0 - 1000000000) 1000000000 (num w.cps.toList)).isSome))) (s4.trans s5) hp3
      have e6 : (upd H5 p3 (.lst (([.bl (isName w && !decide (w ∈ ns)), .bl true, .bl true, .bl true] : List V).set (1 : Int).toNat (.bl (within (0 - 1000000000) 1000000000 (num w.cps.toList)).isSome)))) p3 = _ := upd_same
      generalize upd H5 p3 _ = H6 at s6 e6
      walk_at "sa"
      refine L_ixL (.of ((s2.trans s6) _ _ e1)) hatw' ?_
      walk_at "sa"
      refine ⟨hwW, fun H7 s7 => ?_⟩
      walk_at "sa"
      refine L_setL (s7 _ _ e6) (ixN_of (by decide) (by simp)) ?_
      have s8 := same_mut (o := .lst ((([.bl (isName w && !decide (w ∈ ns)), .bl true, .bl true, .bl true] : List V).set (1 : Int).toNat (.bl (within (0 - 1000000000) 1000000000 (num w.cps.toList)).isSome)).set (2 : Int).toNat (.bl (within 1 1000000 (num w.cps.toList)).isSome))) (s6.trans s7) hp3
      have e8 : (upd H7 p3 (.lst ((([.bl (isName w && !decide (w ∈ ns)), .bl true, .bl true, .bl true] : List V).set (1 : Int).toNat (.bl (within (0 - 1000000000) 1000000000 (num w.cps.toList)).isSome)).set (2 : Int).toNat (.bl (within 1 1000000 (num w.cps.toList)).isSome)))) p3 = _ := upd_same
      generalize upd H7 p3 _ = H8 at s8 e8
      refine L_cut (Mid := fun σ' H' => σ' = [some (.str z), some (.ref pn), some (optI dp), some (.ref p), some (.int (0 + (i : Int))), some (.ref p3)] ∧ Same H2 H' ∧ H' p3 = some (.lst ((boolsW ns dp w).map V.bl))) ?_ ?_
      · have fin : ∀ (b : Bool) (H' : Hp), Same H8 H' → b = (match pathOf w with | none => false | some ps => dp.all fun d => decide (ps.length = d)) → [some (V.str z), some (.ref pn), some (optI dp), some (.ref p), some (.int (0 + (i : Int))), some (.ref p3)] = [some (V.str z), some (.ref pn), some (optI dp), some (.ref p), some (.int (0 + (i : Int))), some (.ref p3)] ∧ Same H2 (upd H' p3 (.lst (((([.bl (isName w && !decide (w ∈ ns)), .bl true, .bl true, .bl true] : List V).set (1 : Int).toNat (.bl (within (0 - 1000000000) 1000000000 (num w.cps.toList)).isSome)).set (2 : Int).toNat (.bl (within 1 1000000 (num w.cps.toList)).isSome)).set (3 : Int).toNat (.bl b)))) ∧ (upd H' p3 (.lst (((([.bl (isName w && !decide (w ∈ ns)), .bl true, .bl true, .bl true] : List V).set (1 : Int).toNat (.bl (within (0 - 1000000000) 1000000000 (num w.cps.toList)).isSome)).set (2 : Int).toNat (.bl (within 1 1000000 (num w.cps.toList)).isSome)).set (3 : Int).toNat (.bl b)))) p3 = some (.lst ((boolsW ns dp w).map V.bl)) := fun b H' s hb => ⟨rfl, same_mut (s8.trans s) hp3, by rw [hb]; exact upd_same⟩
        walk_at "sa"
        refine L_ixL (.of ((s2.trans s8) _ _ e1)) hatw' ?_
        walk_at "sa"
        refine ⟨hwW, fun H9 s9 => ?_⟩
        cases hp : pathOf w with
        | none =>
          rw [hp] at fin
          walk_at "sts"
          refine L_ndF rfl ?_
          walk_at "sts"
          refine L_setL (s9 _ _ e8) (ixN_of (by decide) (by simp)) ?_
          exact fin false H9 s9 rfl
        | some ps =>
          rw [hp] at fin
          walk_at "sts"
          refine L_ndT (fun z => nomatch z) ?_
          walk_at "sts"
          cases dp with
          | none =>
            refine L_dT rfl ?_
            walk_at "sts"
            refine L_setL (s9 _ _ e8) (ixN_of (by decide) (by simp)) ?_
            exact fin true H9 s9 rfl
          | some d =>
            refine L_dF (fun z => nomatch z) ?_
            walk_at "sts"
            refine L_ixL (.of ((s2.trans (s8.trans s9)) _ _ e1)) hatw' ?_
            walk_at "sts"
            refine ⟨hwW, fun H10 s10 => ?_⟩
            rw [hp]
            walk_at "sts"
            refine L_eqI (i := (ps.length : Int)) (j := (d : Int)) ?_
            walk_at "sts"
            refine L_setL ((s9.trans s10) _ _ e8) (ixN_of (by decide) (by simp)) ?_
            refine fin _ H10 (s9.trans s10) ?_
            show _ = decide (ps.length = d)
            exact decide_eq_decide.mpr (by omega)
      rintro σ' H9 ⟨rfl, s9, e9⟩
      walk_at "sa"
      refine L_ixL (.of e9) (by rw [Int.zero_add]; exact atI_nat (by rw [List.getElem?_map, boolsW_at ns dp w hi4.1]; rfl)) ?_
      walk_at "sts"
      cases hok : okW ns dp w i with
      | true =>
        rw [hok, if_pos rfl] at hk
        walk_at "sts"
        exact ⟨_, _, rfl, s2.trans s9, hk⟩
      | false =>
        rw [hok, if_neg Bool.false_ne_true] at hk
        walk_at "sts"
        rw [Int.zero_add]
        have hk1 : wrongW ns dp ws = some i := by
          unfold wrongW
          rw [hk]
        rw [hk1] at q
        exact q _ (s1.trans (s2.trans s9))
    · rintro σ' H2 ⟨v4, v5, rfl, s2, hk⟩
      have hk0 : wrongW ns dp ws = if ws.length = 4 then none else some (min ws.length 4) := by
        unfold wrongW
        rw [hk, show (ws.take 4).drop ((min 4 ws.length : Nat) : Int).toNat = [] from List.drop_eq_nil_of_le (by rw [List.length_take]; omega)]
        rfl
      rw [hk0] at q
      walk_at "sts"
      refine L_lenL (.of (s2 _ _ e1)) ?_
      rw [List.length_map]
      walk_at "sts"
      refine L_d (fun c1 => ?_) (fun c1 => ?_)
      · rw [if_pos (by omega)] at q
        walk_at "sts"
        exact q _ (s1.trans s2)
      · rw [if_neg (by omega)] at q
        walk_at "sts"
        refine L_lenL (.of (s2 _ _ e1)) ?_
        rw [List.length_map]
        walk_at "sts"
        rw [show min (4 : Int) ((ws.length : Nat) : Int) = ((min ws.length 4 : Nat) : Int) by omega]
        exact q _ (s1.trans s2)
def wordsO : Option Str → List Str
  | none => []
  | some z => cutAt 32 z
/-- what is told of lines: nothing, or the line and the word -/
def ToldV (K : PySem.W.Frag) (H : Hp) (v : V) : Sum (Nat × Nat) (List Un) → Prop
  | .inr _ => v = .non
  | .inl (n, i) => ∃ t, v = .ref t ∧ SqT K H t [.int (n : Int), .int (i : Int)]
theorem ToldV.same {K : PySem.W.Frag} {H H' : Hp} {v : V} {o : Sum (Nat × Nat) (List Un)} (h : ToldV K H v o) (s : Same H H') : ToldV K H' v o := by
  cases o with
  | inr _ => exact h
  | inl p =>
    obtain ⟨t, rfl, hT⟩ := h
    exact ⟨t, rfl, s.seqT hT⟩
theorem deepU_app (U : List Un) (u : Un) (h : ∀ d, deepU U = some d → u.2.2.2.length = d) : deepU (U ++ [u]) = some u.2.2.2.length := by
  cases U with
  | nil => rfl
  | cons y U =>
    show some y.2.2.2.length = _
    rw [h _ rfl]
def sp__law_due (K : PySem.W.Frag) (mg : Str → Option Value) : Sp := fun vs H Q _ => match vs with | [.ref a] => ∃ (xs : List V) (ls : List (Option Str)), SqL K H a xs ∧ Paired (LW K H) xs ls ∧ xs.length ≤ 24 ∧ ∀ v H', Same H H' → ToldV K H' v (readL [] 0 ls) → Q v H' | _ => False
theorem q__law_due {H : Hp} {Q : VK} {E : XK} {a : Addr} (q : ∃ (xs : List V) (ls : List (Option Str)), SqL K H a xs ∧ Paired (LW K H) xs ls ∧ xs.length ≤ 24 ∧ ∀ v H', Same H H' → ToldV K H' v (readL [] 0 ls) → Q v H') : sp__law_due K mg [.ref a] H Q E := q
local macro_rules | `(tactic| walk_at "op") => `(tactic| with_reducible refine q__law_due ?_)
theorem c__law_due (T : Txt K mg) : Cal P w K mg base 4 "_law_due" (sp__law_due K mg) := by
  refine T.d__law_due.cal (k := 3) sc__law_due (by intro vs H Q E h; unfold sp__law_due at h; split at h <;> first | rfl | exact h.elim) fun f cdv A outer s H vs Q E hr h => ?_
  refine ⟨_, (pss_cons (ps_set (i := 1) sc__law_due.nd rfl (.inl rfl) (pe_lst pa_nil))
    (pss_cons (ps_set (i := 2) sc__law_due.nd rfl (.inl rfl) pe_non)
    (pss_cons (ps_for PassesOwn.never rfl (pi_enum (by rfl) T.n_enumerate (pa_cons (pv 0) pa_nil)) (pg_tup rfl (pgs_cons (pg_name (i := 3) sc__law_due.nd rfl (.inl rfl)) (pgs_cons (pg_name (i := 4) sc__law_due.nd rfl (.inl rfl)) pgs_nil)))
    (pss_cons (ps_set (i := 5) sc__law_due.nd rfl (.inl rfl) (pe_c (c__law_wrong_word T) hr (by decide) (by rfl) (pa_cons (pv 4) (pa_cons (pv 1) (pa_cons (pv 2) pa_nil)))))
    (pss_cons (ps_if (pt_cmpR op_notNA (pv 5) pe_non (nomark _))
    (pss_one (ps_ret (pe_tup (pa_cons (pv 3) (pa_cons (pv 5) pa_nil)))))
    pss_nil)
    (pss_cons (ps_set (i := 6) sc__law_due.nd rfl (.inl rfl) (pe_bm PySem.F.plainAttrs_str PySem.F.slot_str_split PySem.F.type_str_split mt_split (pv 4) (pa_cons pe_str pa_nil)))
    (pss_cons (ps_expr (pe_bm PySem.F.plainAttrs_list PySem.F.slot_list_append PySem.F.type_list_append mt_append (pv 1) (pa_cons (pe_ix ix_seq (pv 6) pe_int (fun _ _ => rfl)) pa_nil)))
    (pss_one (ps_set (i := 2) sc__law_due.nd rfl (.inl rfl) (pe_c (c__law_depth T) hr (by decide) (by rfl) (pa_cons (pe_ix ix_seq (pv 6) pe_int (fun _ _ => rfl)) pa_nil)))))))))
    (pss_one (ps_ret pe_non))))), ?_⟩
  try simp only [cxOf_K, cxOf_K', cxOf_mg, cxOf_mg']
  unfold sp__law_due at h
  split at h
  case h_2 => exact h.elim
  rename_i a
  rw [show L2.start ["_law_lines", "_law_names_here", "_law_deep", "_law_number", "_law_line_here", "_law_at", "_law_words"] [V.ref a] = [some (V.ref a), none, none, none, none, none, none] from rfl]
  obtain ⟨xs, ls, hL, hP, hl, q⟩ := h
  have hlen := pd_len hP
  walk_at "sts"
  walk_at "nw"
  rename_i p hp H1 s1 e1
  walk_at "sts"
  refine L_re (s1.seq hL) ?_
  refine f_it walk_enum (fun i σ' H' => ∃ (v3 v4 v5 v6 : Option V) (U : List Un), σ' = [some (.ref a), some (.ref p), some (optI (deepU U)), v3, v4, v5, v6] ∧ Same H H' ∧ H' p = some (.lst ((U.map (·.1)).map V.str)) ∧ U.length = i ∧ readL [] 0 ls = readL U i (ls.drop i)) ⟨_, _, _, _, [], rfl, s1, e1, rfl, by rw [List.drop_zero]⟩ (fun _ _ _ _ ⟨_, _, _, _, _, _, s, _⟩ => s.seq hL) ?_ ?_
  · rintro i x σ' H2 H2' hi ⟨v3, v4, v5, v6, U, rfl, s2, e2, hlu, hk⟩ ⟨T1, k0, t0, rfl, hTn, rfl, hk0, hx⟩
    cases hk0
    replace hx : xs[i]? = some t0 := hx
    obtain ⟨o, ho, hlv⟩ := LiI.paired_get hP hx
    have hd : ls.drop i = o :: ls.drop (i + 1) := by
      obtain ⟨hlt, e⟩ := List.getElem?_eq_some_iff.mp ho
      rw [← e]
      exact List.drop_eq_getElem_cons hlt
    rw [hd] at hk
    refine L_gTup (.of upd_same) rfl ?_
    have s3 := same_new (o := HO.tup [V.int (i : Int), t0]) hTn
    generalize upd H2 T1 (HO.tup [V.int (i : Int), t0]) = H3 at s3
    have hlv3 := hlv.same (s2.trans s3)
    walk_at "sts"
    refine ⟨o, U.map (·.1), deepU U, hlv3, .of (s3 _ _ e2), rfl, fun H4 s4 => ?_⟩
    have s34 := s3.trans s4
    cases hw : wrongO (U.map (·.1)) (deepU U) o with
    | some j =>
      walk_at "sts"
      refine L_ndT (fun z => nomatch z) ?_
      walk_at "sts"
      walk_at "nw"
      rename_i p5 hp5 H5 s5 e5
      walk_at "sts"
      refine q _ _ (s2.trans (s34.trans s5)) ?_
      have : readL [] 0 ls = .inl (i, j) := by
        rw [hk]
        cases o with
        | none => cases hw; rfl
        | some z =>
          unfold readL
          rw [show wrongW (U.map (·.1)) (deepU U) (cutAt 32 z) = some j from hw]
      rw [this]
      exact ⟨p5, rfl, .of e5⟩
    | none =>
      cases o with
      | none => cases hw
      | some z =>
        replace hw : wrongW (U.map (·.1)) (deepU U) (cutAt 32 z) = none := hw
        obtain ⟨rfl, hz⟩ := hlv3
        have hl := hz.1
        obtain ⟨u, hu⟩ := unitIn_ok hw
        have hkn : readL [] 0 ls = readL (U ++ [u]) (i + 1) (ls.drop (i + 1)) := by
          rw [hk]
          conv => lhs; unfold readL
          rw [hw, hu]
        obtain ⟨wa, wb, wc, wd, hc, h0, h1, h2, h3⟩ := unitIn_some hu
        have hwrong := wrongW_none hw
        rw [hc] at hwrong
        obtain ⟨g0, hw1⟩ := wrongAt_cons hwrong.1
        obtain ⟨g1, hw2⟩ := wrongAt_cons hw1
        obtain ⟨g2, hw3⟩ := wrongAt_cons hw2
        obtain ⟨g3, hw4⟩ := wrongAt_cons hw3
        obtain ⟨_, _, k0⟩ := okW0 g0
        obtain ⟨ps, k1, k2, k3⟩ := okW3 g3
        have hwd : WK 1000 wd := wk_cut hz wd (by rw [hc]; simp)
        rw [h0] at k0
        have hwa : wa = u.1 := (Th.nm.inj k0).symm
        rw [h3] at k2
        have hps : ps = u.2.2.2 := (Th.path.inj k2).symm
        subst hwa hps
        walk_at "sts"
        refine L_ndF rfl ?_
        walk_at "sts"
        refine L_tyS ?_
        walk_at "sts"
        refine ⟨z, " ", rfl, rfl, rfl, sz_dec (by omega), ?_⟩
        rw [show (" " : Str) = ⟨#[32]⟩ from rfl, split_is (by decide), hc]
        walk_at "nwp"
        rename_i p5 hp5 H5 s5 e5
        walk_at "sts"
        have e2' := (s34.trans s5) _ _ e2
        refine L_tyL (.of e2') ?_
        walk_at "sts"
        refine L_ixL (.of e5) (atI_int (show (0 : Int) ≤ 0 by decide) rfl) ?_
        walk_at "sts"
        refine L_app e2' (by rw [List.length_map, List.length_map]; exact sz_lt (by omega)) ?_
        have n5 : p5 ≠ p := ne_new hp5 ⟨_, s34 _ _ e2⟩
        have s26 : Same H (upd H5 p (.lst ((U.map (·.1)).map V.str ++ [.str u.1]))) := same_mut (s2.trans (s34.trans s5)) hp
        have e6 : (upd H5 p (.lst ((U.map (·.1)).map V.str ++ [.str u.1]))) p5 = _ := (upd_ne n5).trans e5
        have e6p : (upd H5 p (.lst ((U.map (·.1)).map V.str ++ [.str u.1]))) p = _ := upd_same
        generalize upd H5 p (.lst ((U.map (·.1)).map V.str ++ [.str u.1])) = H6 at s26 e6 e6p
        walk_at "sts"
        refine L_ixL (.of e6) (atI_int (show (0 : Int) ≤ 3 by decide) rfl) ?_
        walk_at "sts"
        refine ⟨hwd, fun H7 s7 => ?_⟩
        rw [k1]
        walk_at "sts"
        refine ⟨some (.int (i : Int)), some (.str z), some .non, some (.ref p5), U ++ [u], ?_, s26.trans s7, ?_, by simp [hlu], hkn⟩
        · rw [deepU_app U u k3]
          rfl
        · rw [s7 _ _ e6p, List.map_append, List.map_append]
          rfl
  · rintro σ' H2 ⟨v3, v4, v5, v6, U, rfl, s2, e2, hlu, hk⟩
    rw [show ls.drop xs.length = [] from List.drop_eq_nil_of_le (by omega)] at hk
    walk_at "sts"
    refine q _ _ s2 ?_
    rw [hk]
    rfl
def sp__law_told (K : PySem.W.Frag) (mg : Str → Option Value) : Sp := fun vs H Q _ => match vs with | [.ref a] => ∃ (xs : List V) (ls : List (Option Str)), SqL K H a xs ∧ Paired (LV K H) xs ls ∧ 1 ≤ xs.length ∧ xs.length ≤ 24 ∧ ∀ v H', Same H H' → ToldV K H' v (readL [] 0 ls) → Q v H' | _ => False
theorem q__law_told {H : Hp} {Q : VK} {E : XK} {a : Addr} (q : ∃ (xs : List V) (ls : List (Option Str)), SqL K H a xs ∧ Paired (LV K H) xs ls ∧ 1 ≤ xs.length ∧ xs.length ≤ 24 ∧ ∀ v H', Same H H' → ToldV K H' v (readL [] 0 ls) → Q v H') : sp__law_told K mg [.ref a] H Q E := q
local macro_rules | `(tactic| walk_at "op") => `(tactic| with_reducible refine q__law_told ?_)
theorem c__law_told (T : Txt K mg) : Cal P w K mg base 7 "_law_told" (sp__law_told K mg) := by
  refine T.d__law_told.cal (k := 6) sc__law_told (by intro vs H Q E h; unfold sp__law_told at h; split at h <;> first | rfl | exact h.elim) fun f cdv A outer s H vs Q E hr h => ?_
  refine ⟨_, (pss_cons (ps_set (i := 1) sc__law_told.nd rfl (.inl rfl) pe_non)
    (pss_cons (ps_try_asT (i := 2) (tb := fun W => (tDrop (tCallS (sp_listing_of K mg) (fun σ => WE W σ) (tCons (tVar 0) tNil)))) (ts := fun xa xcls xd => (tSeq (tAsg (tTup (tCons (tXf xa xcls xd (cA mg "NoListing") "line" (tVar 2)) (tCons (tXf xa xcls xd (cA mg "NoListing") "word" (tVar 2)) tNil))) (gName 1)) (tIfS (tOr (tB (tCB (rIsST K xa xcls xd) (tCons (tVar 2) (tCons (tTup (tCons (tC (.ref (cA mg "NoUnits"))) (tCons (tC (.ref (cA mg "NoPlan"))) (tCons (tC (.ref (cA mg "NoLevel"))) tNil)))) tNil)))) (tNot (tB (tCB (rIsS K xa xcls xd) (tCons (tVar 2) (tCons (tC (.ty "ValueError")) tNil)))))) (tAsg (tC (.str "other")) (gName 1)) tNext))) rfl rfl sc__law_told.nd rfl rfl rfl ⟨rfl, by decide, .inl T.m_NoListing⟩ takes0 (fun W pn xe tk po => by exact (pss_one (ps_expr (pe_xS (c_listing_of T) hr (by decide) (by rfl) (fun σ => passAt tk σ) (pa_cons (pv 0) pa_nil))))) (fun a oe cls d pn hz hf => by exact (pss_cons (ps_set (i := 1) sc__law_told.nd rfl (.inl rfl) (pe_tup (pa_cons (pe_xf (ExcC.xf T.z_NoListing) T.na_NoListing_line hz hf (pv 2)) (pa_cons (pe_xf (ExcC.xf T.z_NoListing) T.na_NoListing_word hz hf (pv 2)) pa_nil))))
    (pss_one (ps_if (PW.pt (pw_or (pt_val (pe_callB (call_isST hz hf) (by rfl) T.n_isinstance (by decide +kernel) (pa_cons (pv 2) (pa_cons (pe_tup (pa_cons (pe_glob (v := .ref (cA mg "NoUnits")) (by rfl) T.m_NoUnits rfl) (pa_cons (pe_glob (v := .ref (cA mg "NoPlan")) (by rfl) T.m_NoPlan rfl) (pa_cons (pe_glob (v := .ref (cA mg "NoLevel")) (by rfl) T.m_NoLevel rfl) pa_nil)))) pa_nil)))) (pw_or1 (pt_not (pt_val (pe_callB (call_isS hz hf) (by rfl) T.n_isinstance (by decide +kernel) (pa_cons (pv 2) (pa_cons (pe_ty "ValueError" (by rfl) T.n_ValueError (by decide +kernel)) pa_nil))))))))
    (pss_one (ps_set (i := 1) sc__law_told.nd rfl (.inl rfl) pe_str))
    pss_nil)))))
    (pss_one (ps_ret (pv 1))))), ?_⟩
  try simp only [cxOf_K, cxOf_K', cxOf_mg, cxOf_mg']
  unfold sp__law_told at h
  split at h
  case h_2 => exact h.elim
  rename_i a
  rw [show L2.start ["_law_lines", "_law_told_here", "e"] [V.ref a] = [some (V.ref a), none, none] from rfl]
  obtain ⟨xs, ls, hL, hP, hl1, hl, q⟩ := h
  walk_at "sts"
  refine .inr ⟨a, xs, rfl, hL, by omega, .inr ⟨hl1, hl, ls, hP, fun n i hr d H' s e => ?_, fun U hr p vs H' hp s e hA => ?_⟩⟩
  · refine L_asT (T.y_NoListing.exm T.e_NoListing_NoListing) fun a2 na => ?_
    walk_at "sts"
    refine L_xf ?_
    walk_at "sts"
    refine ⟨rfl, rfl, d, _, _, rfl, e, rfl, ?_⟩
    walk_at "sts"
    refine L_xf ?_
    walk_at "sts"
    refine ⟨rfl, rfl, d, _, _, rfl, e, rfl, ?_⟩
    walk_at "sts"
    walk_at "nw"
    rename_i p1 hp1 H1 s1 e1
    walk_at "sts"
    walk_at "nw"
    rename_i p2 hp2 H2 s2 e2
    walk_at "sts"
    refine L_isST (fun dd z => ⟨_, by cases z; exact (s1.trans s2) _ _ e⟩) T.z_NoListing e2 (.cons (.own _) (.cons (.own _) (.cons (.own _) .nil))) (kit_none fun u hu => ?_) ?_
    · simp only [List.mem_cons, List.not_mem_nil, or_false] at hu
      rcases hu with rfl | rfl | rfl
      · exact kit_ref T.e_NoListing_NoListing T.y_NoUnits T.e_NoListing_NoUnits
      · exact kit_ref T.e_NoListing_NoListing T.y_NoPlan T.e_NoListing_NoPlan
      · exact kit_ref T.e_NoListing_NoListing T.y_NoLevel T.e_NoListing_NoLevel
    walk_at "sts"
    refine L_isS (fun dd z => ⟨_, by cases z; exact (s1.trans s2) _ _ e⟩) T.z_NoListing (.ty _) (kit_typ (by decide +kernel) T.et_NoListing_ValueError) ?_
    walk_at "sts"
    intro na1
    walk_at "sts"
    refine q _ _ (s.trans (s1.trans (s2.trans (same_new na1)))) ?_
    rw [hr]
    exact ⟨p1, rfl, .of (same_new na1 _ _ (s2 _ _ e1))⟩
  · walk_at "sts"
    refine q _ _ s ?_
    rw [hr]
    rfl
/-- no list of one to twenty-four things -/
def BadL (K : PySem.W.Frag) (H : Hp) (v : V) : Prop := NotL K H v ∨ ∃ a xs, v = .ref a ∧ SqL K H a xs ∧ xs.length ≤ 1000 ∧ ¬ (1 ≤ xs.length ∧ xs.length ≤ 24)
def sp__law_no_units (K : PySem.W.Frag) (mg : Str → Option Value) : Sp := fun vs H Q _ => match vs with | [v] => BadL K H v ∧ ∀ H', Same H H' → Q (.bl true) H' | _ => False
theorem q__law_no_units {H : Hp} {Q : VK} {E : XK} {v : V} (q : BadL K H v ∧ ∀ H', Same H H' → Q (.bl true) H') : sp__law_no_units K mg [v] H Q E := q
local macro_rules | `(tactic| walk_at "op") => `(tactic| with_reducible refine q__law_no_units ?_)
theorem c__law_no_units (T : Txt K mg) : Cal P w K mg base 7 "_law_no_units" (sp__law_no_units K mg) := by
  refine T.d__law_no_units.cal (k := 6) sc__law_no_units (by intro vs H Q E h; unfold sp__law_no_units at h; split at h <;> first | rfl | exact h.elim) fun f cdv A outer s H vs Q E hr h => ?_
  refine ⟨_, (pss_cons (ps_set (i := 1) sc__law_no_units.nd rfl (.inl rfl) pe_non)
    (pss_cons (ps_try_asT (i := 2) (tb := fun W => (tDrop (tCallS (sp_listing_of K mg) (fun σ => WE W σ) (tCons (tVar 0) tNil)))) (ts := fun xa xcls xd => (tAsg (tVar 2) (gName 1))) rfl rfl sc__law_no_units.nd rfl rfl rfl ⟨rfl, by decide, .inl T.m_SpeakError⟩ takes0 (fun W pn xe tk po => by exact (pss_one (ps_expr (pe_xS (c_listing_of T) hr (by decide) (by rfl) (fun σ => passAt tk σ) (pa_cons (pv 0) pa_nil))))) (fun a oe cls d pn hz hf => by exact (pss_one (ps_set (i := 1) sc__law_no_units.nd rfl (.inl rfl) (pv 2)))))
    (pss_one (ps_ret (pe_and (pe_callB call_isX (by rfl) T.n_isinstance (by decide +kernel) (pa_cons (pv 1) (pa_cons (pe_glob (v := .ref (cA mg "NoUnits")) (by rfl) T.m_NoUnits rfl) pa_nil))) (pe_one (pe_not (pe_callB call_isX (by rfl) T.n_isinstance (by decide +kernel) (pa_cons (pv 1) (pa_cons (pe_glob (v := .ref (cA mg "NoListing")) (by rfl) T.m_NoListing rfl) pa_nil)))))))))), ?_⟩
  try simp only [cxOf_K, cxOf_K', cxOf_mg, cxOf_mg']
  unfold sp__law_no_units at h
  split at h
  case h_2 => exact h.elim
  rename_i v
  rw [show L2.start ["_law_thing", "_law_error", "e"] [v] = [some (v), none, none] from rfl]
  obtain ⟨hB, q⟩ := h
  walk_at "sts"
  have hE : ∀ (E' : XK), (∀ H', Same H H' → E' (.ref (cA mg "NoUnits")) none H') → ∀ Q', sp_listing_of K mg [v] H Q' E' := fun E' e Q' => by
    rcases hB with h | ⟨a, xs, rfl, h1, h2, h3⟩
    · exact .inl ⟨h, e⟩
    · exact .inr ⟨a, xs, rfl, h1, h2, .inl ⟨h3, e⟩⟩
  refine hE _ (fun H0 s0 => ?_) _
  refine L_asT (T.y_SpeakError.exm T.e_NoUnits_SpeakError) fun a na => ?_
  walk_at "sts"
  intro na2
  have s1 := same_new (o := ExI (.ref (cA mg "NoUnits")) none a) na2
  have e1 : (upd H0 a (ExI (.ref (cA mg "NoUnits")) none a)) a = some (ExI (.ref (cA mg "NoUnits")) none a) := upd_same
  generalize upd H0 a (ExI (.ref (cA mg "NoUnits")) none a) = H1 at s1 e1
  walk_at "sts"
  refine L_isX e1 T.z_NoUnits (.own _) (kit_ref T.e_NoUnits_NoUnits T.y_NoUnits T.e_NoUnits_NoUnits) ?_
  walk_at "sts"
  refine L_isX e1 T.z_NoUnits (.own _) (kit_ref T.e_NoUnits_NoUnits T.y_NoListing T.e_NoUnits_NoListing) ?_
  walk_at "sts"
  exact q _ (s0.trans s1)
theorem dp_set {K : PySem.W.Frag} {H : Hp} : ∀ {xs : List V} {ds : List PyData} {v : V} {d : PyData} (j : Nat), DpAll K H xs ds → Dp K H v d → DpAll K H (xs.set j v) (ds.set j d)
  | [], _, _, _, _, .nil, _ => .nil
  | x :: xs, _, _, _, 0, .cons _ t, h => .cons h t
  | x :: xs, _, _, _, j + 1, .cons a t, h => .cons a (dp_set j t h)
def toL : PyData → Option Str
  | .str z => some z
  | _ => none
theorem lw_of {K : PySem.W.Frag} {H : Hp} {v : V} {D : PyData} (h : OD D) (hd : Dp K H v D) : LW K H v (toL D) := by
  rcases h with rfl | rfl | rfl | ⟨z, hz, rfl | rfl | rfl⟩
  · rw [of_non hd]; exact ⟨_, .base .non, by decide +kernel⟩
  · rw [of_int hd]; exact ⟨_, .base (.int _), by decide +kernel⟩
  · rw [of_bl hd]; exact ⟨_, .base (.bl _), by decide +kernel⟩
  · exact ⟨of_str hd, hz⟩
  · obtain ⟨a, xs, rfl, h1, _⟩ := of_lst hd
    exact ⟨_, tyx_L h1, by decide +kernel⟩
  · obtain ⟨a, xs, rfl, h1, _⟩ := of_tup hd
    exact ⟨_, tyx_T h1, by decide +kernel⟩
theorem lw_all {K : PySem.W.Frag} {H : Hp} : ∀ {xs : List V} {Ds : List PyData}, (∀ D ∈ Ds, OD D) → DpAll K H xs Ds → Paired (LW K H) xs (Ds.map toL)
  | [], [], _, _ => .nil
  | x :: xs, D :: Ds, h, .cons a t => .cons (lw_of (h D (List.mem_cons_self ..)) a) (lw_all (fun y hy => h y (List.mem_cons_of_mem _ hy)) t)
theorem LW.lv {K : PySem.W.Frag} {H : Hp} {v : V} {o : Option Str} (h : LW K H v o) : LV K H v o := by
  cases o with
  | none => exact h
  | some z => exact ⟨h.1, h.2.1⟩
theorem OD.shp {D : PyData} (h : OD D) : Shp 1 D := by
  rcases h with rfl | rfl | rfl | ⟨z, hz, rfl | rfl | rfl⟩
  · exact shp_non
  · exact shp_int
  · exact shp_bl
  · exact shp_str hz.ok
  · exact shp_lst (n := 0) (shp_cons (shp_str hz.ok) shp_nil)
  · exact shp_tup (n := 0) (shp_cons (shp_str hz.ok) shp_nil)
def toD : Sum (Nat × Nat) (List Un) → PyData
  | .inr _ => .none
  | .inl (n, i) => .tuple [.int (n : Int), .int (i : Int)]
theorem ToldV.dp {K : PySem.W.Frag} {H : Hp} {v : V} {o : Sum (Nat × Nat) (List Un)} (h : ToldV K H v o) : Dp K H v (toD o) := by
  cases o with
  | inr _ =>
    have h : v = .non := h
    rw [h]; exact .non
  | inl p =>
    obtain ⟨t, rfl, hT⟩ := h
    exact .tup hT (.cons (.int _) (.cons (.int _) .nil))
theorem toD_shp (o : Sum (Nat × Nat) (List Un)) : SeqAt.shaped (toD o) = true := by
  cases o with
  | inr _ => rfl
  | inl p => exact (shp_tup (n := 0) (shp_cons shp_int (shp_cons shp_int shp_nil))).ok
theorem lw_line {d : Nat} {u : Un} (gu : GU d u) : WK 1000 (lineOf u) := ⟨Nat.le_trans (line_len gu) (by decide), fun c hc => by
  rw [line_list] at hc
  rcases mem_joinL hc with h | ⟨p, hp, h⟩
  · rw [List.mem_singleton.mp h]; decide
  · simp only [List.mem_cons, List.not_mem_nil, or_false] at hp
    rcases hp with rfl | rfl | rfl | rfl
    · have := gu.n.2.2 c h; omega
    · have := no_txt h; omega
    · have := no_txt h; omega
    · have := no_word gu.g h; omega⟩
def sp_law (K : PySem.W.Frag) (mg : Str → Option Value) : Sp := fun vs H Q _ => match vs with | [.ref a] => ∃ ns : List Int, SqL K H a (ns.map V.int) ∧ ns.length ≤ 63 ∧ (∀ z ∈ ns, Builtin.Int.intBits z ≤ 1048576) ∧ ∀ H', Q (.bl true) H' | _ => False
theorem q_law {H : Hp} {Q : VK} {E : XK} {a : Addr} (q : ∃ ns : List Int, SqL K H a (ns.map V.int) ∧ ns.length ≤ 63 ∧ (∀ z ∈ ns, Builtin.Int.intBits z ≤ 1048576) ∧ ∀ H', Q (.bl true) H') : sp_law K mg [.ref a] H Q E := q
local macro_rules | `(tactic| walk_at "op") => `(tactic| with_reducible refine q_law ?_)
theorem c_law (T : Txt K mg) {f : Addr} {fd : FuncData} (F : Fun K "law" "law" s_law f fd) : FnOk P w K mg base CX0 8 f fd ["_law_script"] (sp_law K mg) := by
  refine F.ok (k := 7) sc_law (by intro vs H Q E h; unfold sp_law at h; split at h <;> first | rfl | exact h.elim) fun cdv A outer s H vs Q E hr h => ?_
  refine ⟨_, (pss_cons (ps_setLc (i := 1) (own := [("_law_unit", 9)]) (g := (gName 9)) (tt := tYes) (te := (tCall (sp__law_line K mg) [] E0 (tCons (tVar 9) tNil))) rfl sc_law.nd rfl rfl (sw_true rfl rfl rfl (by decide +kernel)) (pi_list (pe_c (c__law_units T) hr (by decide) (by rfl) (pa_cons (pe_c (c__law_cell T) hr (by decide) (by rfl) (pa_cons (pv 0) (pa_cons pe_int pa_nil))) pa_nil))) (blkOk_by (N := ["_law_script", "_law_lines", "_law_k", "_law_cell_here", "_law_spoiled", "_law_j", "_law_at", "_law_handed", "_law_thing", "_law_unit"]) (sc := defScope s_law) (by decide +kernel)) (fun _ _ _ _ _ => by exact (pg_name (i := 9) sc_law.nd rfl (.inl rfl))) (fun _ _ _ _ _ => pts_nil) (fun _ _ _ _ _ => by exact (pe_c (c__law_line T) hr (by decide) (by rfl) (pa_cons (pv 9) pa_nil))))
    (pss_cons (ps_if (pt_cmpR op_notNA (pe_c (c__law_told T) hr (by decide) (by rfl) (pa_cons (pv 1) pa_nil)) pe_non (nomark _))
    (pss_one (ps_ret pe_bl))
    pss_nil)
    (pss_cons (ps_for PassesOwn.never rfl (pi_range2 (by rfl) T.n_range (pa_cons pe_int (pa_cons (pe_callB (call_max2A rfl) (by rfl) T.n_max (by decide +kernel) (pa_cons pe_int (pa_cons (pe_callB (call_min2A rfl) (by rfl) T.n_min (by decide +kernel) (pa_cons pe_int (pa_cons (pe_callB call_lenA (by rfl) T.n_len (by decide +kernel) (pa_cons (pv 0) pa_nil)) pa_nil))) pa_nil))) pa_nil))) (pg_name (i := 2) sc_law.nd rfl (.inl rfl))
    (pss_cons (ps_set (i := 3) sc_law.nd rfl (.inl rfl) (pe_c (c__law_cell T) hr (by decide) (by rfl) (pa_cons (pv 0) (pa_cons (pv 2) pa_nil))))
    (pss_cons (ps_set (i := 4) sc_law.nd rfl (.inl rfl) (pe_callTy call_list1A (by rfl) T.n_list (by decide +kernel) (pa_cons (pv 1) pa_nil)))
    (pss_cons (ps_for PassesOwn.never rfl (pi_range1 (by rfl) T.n_range (pa_cons (pe_op op_addA pe_int (pe_op op_mod (pe_c (c__law_mixed T) hr (by decide) (by rfl) (pa_cons (pv 3) (pa_cons pe_int pa_nil))) pe_int)) pa_nil)) (pg_name (i := 5) sc_law.nd rfl (.inl rfl))
    (pss_cons (ps_set (i := 6) sc_law.nd rfl (.inl rfl) (pe_op op_mod (pe_c (c__law_mixed T) hr (by decide) (by rfl) (pa_cons (pv 3) (pa_cons (pe_op op_addA pe_int (pv 5)) pa_nil))) (pe_callB call_lenA (by rfl) T.n_len (by decide +kernel) (pa_cons (pv 1) pa_nil))))
    (pss_one (ps_asg (pe_c (c__law_odd_line T) hr (by decide) (by rfl) (pa_cons (pv 1) (pa_cons (pv 6) (pa_cons (pe_op op_addA (pv 3) (pe_op op_mulA pe_int (pv 5))) pa_nil)))) (pg_sub (pv 4) (pv 6) set_list)))))
    (pss_cons (ps_set (i := 7) sc_law.nd rfl (.inl rfl) (pe_callTy call_list1A (by rfl) T.n_list (by decide +kernel) (pa_cons (pv 4) pa_nil)))
    (pss_one (ps_if (PW.pt (pw_or (pt_cmpR (op_neA hr) (pe_c (c__law_told T) hr (by decide) (by rfl) (pa_cons (pv 7) pa_nil)) (pe_c (c__law_due T) hr (by decide) (by rfl) (pa_cons (pv 4) pa_nil)) (nomark _)) (pw_or1 (pt_cmpR (op_neA hr) (pv 7) (pv 4) (nomark _)))))
    (pss_one (ps_ret pe_bl))
    pss_nil)))))))
    (pss_cons (ps_for PassesOwn.never rfl (pi_list (pe_lst (pa_cons pe_non (pa_cons (pe_lst pa_nil) (pa_cons (pe_callTy call_tuple1A (by rfl) T.n_tuple (by decide +kernel) (pa_cons (pv 1) pa_nil)) (pa_cons (pe_bm PySem.F.plainAttrs_str PySem.F.slot_str_join PySem.F.type_str_join mt_join pe_str (pa_cons (pv 1) pa_nil)) (pa_cons (pe_slice sl_list (pe_op op_addA (pv 1) (pe_op op_mulA (pe_lst (pa_cons pe_str pa_nil)) pe_int)) po_none (po_some pe_int)) (pa_cons pe_dnewK pa_nil)))))))) (pg_name (i := 8) sc_law.nd rfl (.inl rfl))
    (pss_one (ps_if (pt_not (pt_val (pe_c (c__law_no_units T) hr (by decide) (by rfl) (pa_cons (pv 8) pa_nil))))
    (pss_one (ps_ret pe_bl))
    pss_nil)))
    (pss_one (ps_ret pe_bl)))))), ?_⟩
  try simp only [cxOf_K, cxOf_K', cxOf_mg, cxOf_mg']
  unfold sp_law at h
  split at h
  case h_2 => exact h.elim
  rename_i a
  rw [show L2.start ["_law_script", "_law_lines", "_law_k", "_law_cell_here", "_law_spoiled", "_law_j", "_law_at", "_law_handed", "_law_thing", "_law_unit"] [V.ref a] = [some (V.ref a), none, none, none, none, none, none, none, none, none] from rfl]
  obtain ⟨ns, hS, hl, hbits, q⟩ := h
  walk_at "sts"
  refine ⟨ns, hS, by omega, by omega, fun c => ?_⟩
  walk_at "sts"
  intro p us U d H1 hp s1 e1 hA l1 l2 hnd hU
  have hA1 := hA.same rs_sub
  have hul : us.length = U.length := by rw [hA.len, List.length_map]
  walk_at "sts"
  refine L_rl (.of e1) ?_
  refine lc_fm walk_list (fun i => (U[i]?).map fun u => V.str (lineOf u)) (by omega) (fun H' s => .of (s _ _ e1)) ?_ ?_
  · rintro i x H2 H2' R R' hi sm ⟨e2, hx⟩ r1 r2
    subst e2
    obtain ⟨u, t, pq, hu, rfl, hT, hP⟩ := hit4 hA1 hx
    walk_at "sts"
    refine ⟨rfl, ?_⟩
    walk_at "sts"
    refine ⟨u, d, pq, sm.seqT hT, sm.seqT hP, hU u (List.mem_of_getElem? hu), fun H3 s3 => ?_⟩
    exact r1 _ _ (by rw [hu]; rfl) s3
  intro p1 H2 hp1 s2 e2
  have eLS : (U.map fun u => V.str (lineOf u)) = (U.map lineOf).map V.str := by rw [List.map_map]; rfl
  rw [hul, fm_get, eLS] at e2
  have hread : readL [] 0 (((U.map lineOf).map PyData.str).map toL) = .inr U := by
    rw [List.map_map, List.map_map]
    exact readL_lines U [] 0 hU hnd
  have hOD : ∀ D ∈ (U.map lineOf).map PyData.str, OD D := fun D hD => by
    rw [List.map_map] at hD
    obtain ⟨u, hu, rfl⟩ := List.mem_map.mp hD
    exact .inr (.inr (.inr ⟨_, lw_line (hU u hu), .inl rfl⟩))
  have hLl : (U.map lineOf).length = U.length := List.length_map ..
  have sH := s1.trans s2
  walk_at "sts"
  refine ⟨_, _, .of e2, paired_imp2 (fun _ _ h => h.lv) (lw_all hOD (dp_strs _)), by rw [List.length_map]; omega, by rw [List.length_map]; omega, fun v H3 s3 hv => ?_⟩
  rw [hread] at hv
  obtain rfl : v = .non := hv
  walk_at "sts"
  refine L_ndF rfl ?_
  walk_at "sts"
  refine L_lenL ((sH.trans s3).seq hS) ?_
  walk_at "sa"
  rw [List.length_map]
  refine L_r2 ⟨by omega, by omega, by omega, by omega⟩ ?_
  have e3 := s3 _ _ e2
  have sH3 := sH.trans s3
  clear e1 hA hA1 hul e2 s3
  refine f_range (fun k σ' H' => Same H3 H' ∧ ∃ v2 v3 v4 v5 v6 v7 v8 v9 : Option V, σ' = [some (.ref a), some (.ref p1), v2, v3, v4, v5, v6, v7, v8, v9]) ⟨Same.refl _, _, _, _, _, _, _, _, _, rfl⟩ ?_ ?_
  · rintro k σ' H4 hk ⟨s4, v2, v3, v4, v5, v6, v7, v8, v9, rfl⟩
    walk_at "sts"
    refine ⟨ns, (sH3.trans s4).seq hS, by omega, by omega, fun c2 => ?_⟩
    walk_at "sts"
    refine L_list1 (.of (s4 _ _ e3)) ?_
    walk_at "nwp"
    rename_i p5 hp5 H5 s5 e5
    walk_at "sts"
    refine ⟨by decide, by decide, fun r r0 r1 => ?_⟩
    walk_at "sa"
    refine L_r1 (by omega) (by omega) ?_
    have s03 := sH3.trans s4
    have eL4 := s4 _ _ e3
    refine f_range (fun j σ' H' => ∃ (xs : List V) (Ds : List PyData) (v5 v6 v7 v8 v9 : Option V), σ' = [some (.ref a), some (.ref p1), some (.int (1 + (k : Int))), some (.int c2), some (.ref p5), v5, v6, v7, v8, v9] ∧ Same H4 H' ∧ H' p5 = some (.lst xs) ∧ DpAll K (rs (· ≠ p5) H') xs Ds ∧ Ds.length = U.length ∧ ∀ D ∈ Ds, OD D) ⟨_, _, _, _, _, _, _, rfl, s5, e5, dp_strs _, by rw [List.length_map]; exact hLl, hOD⟩ ?_ ?_
    · rintro j σ' H6 hj ⟨xs, Ds, v5, v6, v7, v8, v9, rfl, s6, e6, h6, hDl, hD⟩
      have hxl : xs.length = U.length := by rw [h6.len, hDl]
      walk_at "sts"
      refine ⟨by omega, by omega, fun r2 r20 r21 => ?_⟩
      walk_at "sts"
      refine L_lenL (.of (s6 _ _ eL4)) ?_
      rw [List.length_map, hLl]
      walk_at "sts"
      refine L_I (show (0 : Int) < U.length by omega) ?_
      have a0 := Int.emod_nonneg r2 (show (U.length : Int) ≠ 0 by omega)
      have a1 := Int.emod_lt_of_pos r2 (show (0 : Int) < U.length by omega)
      generalize r2 % (U.length : Int) = at_ at a0 a1
      walk_at "sa"
      refine ⟨U, d, .of (s6 _ _ eL4), hU, a0, a1, l2, fun v D H7 s7 hv hOv => ?_⟩
      walk_at "sts"
      refine L_setL (s7 _ _ e6) (ixN_of a0 (by omega)) ?_
      refine ⟨_, Ds.set at_.toNat D, _, _, _, _, _, rfl, same_mut (s6.trans s7) hp5, upd_same, ?_, by rw [List.length_set]; exact hDl, fun D' hD' => ?_⟩
      · refine dp_set _ (h6.same (rs_same fun b o nb hb => ⟨nb, by rw [upd_ne nb]; exact s7 _ _ hb⟩)) (hv.same (rs_same fun b o nb hb => ?_))
        have nbp : b ≠ p5 := fun z => by rw [z, e6] at nb; cases nb
        exact ⟨nbp, by rw [upd_ne nbp]; exact hb⟩
      · rcases List.mem_or_eq_of_mem_set hD' with h | rfl
        · exact hD D' h
        · exact hOv
    · rintro σ' H6 ⟨xs, Ds, v5, v6, v7, v8, v9, rfl, s6, e6, h6, hDl, hD⟩
      have hxl : xs.length = U.length := by rw [h6.len, hDl]
      have h6' := h6.same rs_sub
      walk_at "sts"
      refine L_list1 (.of e6) ?_
      walk_at "nwp"
      rename_i p7 hp7 H7 s7 e7
      walk_at "sts"
      have P7 := lw_all hD (h6'.same s7)
      refine ⟨xs, Ds.map toL, .of e7, paired_imp2 (fun _ _ h => h.lv) P7, by omega, by omega, fun v H8 s8 hv => ?_⟩
      walk_at "sts"
      have s68 := s7.trans s8
      refine ⟨xs, Ds.map toL, .of (s68 _ _ e6), paired_imp2 (fun _ _ h => h.same s8) P7, by omega, fun v' H9 s9 hv' => ?_⟩
      refine L_neR (hv.same s9).dp hv'.dp (toD_shp _) ?_
      walk_at "sts"
      have s69 := s68.trans s9
      refine L_neR (d := .list Ds) (.lst (.of ((s8.trans s9) _ _ e7)) (h6'.same s69)) (.lst (.of (s69 _ _ e6)) (h6'.same s69)) (Shp.ok (shp_lst (n := 1) fun D h => (hD D h).shp)) ?_
      walk_at "sts"
      exact ⟨s4.trans (s6.trans s69), _, _, _, _, _, _, _, _, rfl⟩
  · rintro σ' H4 ⟨s4, v2, v3, v4, v5, v6, v7, v8, v9, rfl⟩
    have e4 := s4 _ _ e3
    have hsum : ∀ l : List Str, (∀ z ∈ l, z.length ≤ 200) → (l.map (·.length)).sum ≤ 200 * l.length := fun l => by
      induction l with
      | nil => intro _; simp
      | cons z l ih =>
        intro h
        have h1 := h z (List.mem_cons_self ..)
        have h2 := ih fun y hy => h y (List.mem_cons_of_mem _ hy)
        rw [List.map_cons, List.sum_cons, List.length_cons]
        omega
    have hs := hsum (U.map lineOf) fun z hz => by
      obtain ⟨u, hu, rfl⟩ := List.mem_map.mp hz
      exact line_len (hU u hu)
    walk_at "sts"
    walk_at "nw"
    rename_i p5 hp5 H5 s5 e5
    walk_at "sts"
    refine L_tuple1 (.of (s5 _ _ e4)) ?_
    walk_at "nwp"
    rename_i p6 hp6 H6 s6 e6
    walk_at "sts"
    refine L_tyS ?_
    walk_at "sts"
    have s46 := s5.trans s6
    refine ⟨" ", p1, U.map lineOf, rfl, rfl, .inl (.of (s46 _ _ e4)), ?_, ?_⟩
    · rw [show (" " : Str).length = 1 from rfl]
      omega
    walk_at "sts"
    walk_at "nw"
    rename_i p7 hp7 H7 s7 e7
    walk_at "sts"
    refine L_repL e7 (by decide) (by decide) (sz_dec (by simp)) ?_
    walk_at "nwp"
    rename_i p8 hp8 H8 s8 e8
    have s48 := s46.trans (s7.trans s8)
    refine L_addL (s48 _ _ e4) e8 (sz_dec (by simp; omega)) ?_
    walk_at "nwp"
    rename_i p9 hp9 H9 s9 e9
    walk_at "sts"
    refine L_slL (.of e9) ?_
    walk_at "nwp"
    rename_i p10 hp10 H10 s10 e10
    walk_at "sts"
    walk_at "nwp"
    rename_i p11 hp11 H11 s11 e11
    walk_at "sts"
    walk_at "nw"
    rename_i p12 hp12 H12 s12 e12
    walk_at "sts"
    refine L_rl (.of e12) ?_
    refine f_it walk_list (fun i σ' H' => Same H12 H' ∧ ∃ v8 : Option V, σ' = [some (.ref a), some (.ref p1), v2, v3, v4, v5, v6, v7, v8, v9]) ⟨Same.refl _, _, rfl⟩ (fun _ _ _ _ ⟨s, _⟩ => .of (s _ _ e12)) ?_ ?_
    · rintro i x σ' H' H'' hi ⟨s, v8, rfl⟩ ⟨rfl, hx⟩
      have s512 : Same H5 H12 := s6.trans (s7.trans (s8.trans (s9.trans (s10.trans (s11.trans s12)))))
      have hb : BadL K H12 x := by
        have hxm := List.mem_of_getElem? hx
        simp only [List.mem_cons, List.not_mem_nil, or_false] at hxm
        rcases hxm with rfl | rfl | rfl | rfl | rfl | rfl
        · exact .inl notl_non
        · exact .inr ⟨p5, [], rfl, .of (s512 _ _ e5), by simp, by simp⟩
        · exact .inl (notl_tup (.of ((s7.trans (s8.trans (s9.trans (s10.trans (s11.trans s12))))) _ _ e6)))
        · exact .inl notl_str
        · refine .inr ⟨p10, _, rfl, .of ((s11.trans s12) _ _ e10), ?_, ?_⟩
          · refine Nat.le_trans (cutG_len _ _ _) ?_
            rw [List.length_append, List.length_map, hLl, rep_len, List.length_singleton]
            simp
            omega
          · rw [show cutV ((U.map lineOf).map V.str ++ (List.replicate (24 : Int).toNat [V.str "q 0 1 -"]).flatten) none (some 25) = cutG ((U.map lineOf).map V.str ++ (List.replicate (24 : Int).toNat [V.str "q 0 1 -"]).flatten) none (some ((25 : Nat) : Int)) from rfl, cutG_take, List.length_take, List.length_append, List.length_map, hLl, show (List.replicate (24 : Int).toNat [V.str "q 0 1 -"]).flatten.length = 24 from rfl]
            omega
        · exact .inl (notl_dK (s12 _ _ e11))
      walk_at "sts"
      refine ⟨?_, fun H2 s2 => ?_⟩
      · rcases hb with ⟨ty, h1, h2⟩ | ⟨b, xs, rfl, h1, h2, h3⟩
        · exact .inl ⟨ty, TyX_same s h1, h2⟩
        · exact .inr ⟨b, xs, rfl, s.seq h1, h2, h3⟩
      walk_at "sts"
      exact ⟨s.trans s2, _, rfl⟩
    · rintro σ' H' ⟨s, v8, rfl⟩
      walk_at "sts"
      exact q _
end
theorem txt_mk {K : PySem.W.Frag} {h : Heap} {mg : Str → Option Value} (X : K.In h) (G : h.Ns mainGlobals mg)
    (z_n_len : PySem.W.nsIn K mainGlobals "len" = some none)
    {u_g_FIGURES : Value} (z_g_FIGURES : PySem.W.nsIn K mainGlobals "FIGURES" = some (some u_g_FIGURES)) (y_g_FIGURES : RelV (.str "0123456789") u_g_FIGURES)
    (z_n_int : PySem.W.nsIn K mainGlobals "int" = some none)
    (z_n_isinstance : PySem.W.nsIn K mainGlobals "isinstance" = some none)
    (z_n_str : PySem.W.nsIn K mainGlobals "str" = some none)
    {u_g_LETTERS : Value} (z_g_LETTERS : PySem.W.nsIn K mainGlobals "LETTERS" = some (some u_g_LETTERS)) (y_g_LETTERS : RelV (.str "abcdefghijklmnopqrstuvwxyz") u_g_LETTERS)
    (z_n_tuple : PySem.W.nsIn K mainGlobals "tuple" = some none)
    {u_g_DEEPEST : Value} (z_g_DEEPEST : PySem.W.nsIn K mainGlobals "DEEPEST" = some (some u_g_DEEPEST)) (y_g_DEEPEST : RelV (.int 3) u_g_DEEPEST)
    (z_n_range : PySem.W.nsIn K mainGlobals "range" = some none)
    {u_g_MOST_SIZE : Value} (z_g_MOST_SIZE : PySem.W.nsIn K mainGlobals "MOST_SIZE" = some (some u_g_MOST_SIZE)) (y_g_MOST_SIZE : RelV (.int 1000000) u_g_MOST_SIZE)
    {u_g_MOST_VALUE : Value} (z_g_MOST_VALUE : PySem.W.nsIn K mainGlobals "MOST_VALUE" = some (some u_g_MOST_VALUE)) (y_g_MOST_VALUE : RelV (.int 1000000000) u_g_MOST_VALUE)
    {C_SpeakError : Addr} (aC_SpeakError : PySem.W.nsIn K mainGlobals "SpeakError" = some (some (.ref C_SpeakError)))
    (bi0_SpeakError : PySem.W.readsIn K C_SpeakError (.type "type") = true) (bi1_SpeakError : PySem.W.specialIn K (.ref C_SpeakError) "__getattribute__" = some (some (.builtin "type.__getattribute__"))) (bi2_SpeakError : PySem.W.findCls K (.ref C_SpeakError) (.type "type") "__init__" = some (.val (.builtin "ValueError.__init__")))
    {C_NoListing : Addr} (aC_NoListing : PySem.W.nsIn K mainGlobals "NoListing" = some (some (.ref C_NoListing)))
    (ox_NoListing : ∃ nm q N bs bm sn sub ab col dd k0 k1 k2 k3 k5, K.lookup C_NoListing = some (excClassObj nm q C_NoListing N bs bm true sn sub ab col dd k0 k1 k2 k3 k5 "ValueError.__new__") ∧ PySem.HandSPX.refsVE bm = true) (o0_NoListing : PySem.W.findIn K (.ref C_NoListing) "__setattr__" = some (some (.builtin "object.__setattr__"))) (o1_NoListing : PySem.W.subIn K (.ref C_NoListing) (.type "BaseException") = some true) (o2_NoListing : PySem.W.typeIn K (.ref C_NoListing) = some (.type "type")) (o3_NoListing : PySem.W.keepIn K (.ref C_NoListing) = true)
    (na_NoListing_line : PySem.W.findIn K (.ref C_NoListing) "line" = some none)
    (na_NoListing_word : PySem.W.findIn K (.ref C_NoListing) "word" = some none)
    {C_NoPlan : Addr} (aC_NoPlan : PySem.W.nsIn K mainGlobals "NoPlan" = some (some (.ref C_NoPlan)))
    (ox_NoPlan : ∃ nm q N bs bm sn sub ab col dd k0 k1 k2 k3 k5, K.lookup C_NoPlan = some (excClassObj nm q C_NoPlan N bs bm true sn sub ab col dd k0 k1 k2 k3 k5 "ValueError.__new__") ∧ PySem.HandSPX.refsVE bm = true) (o0_NoPlan : PySem.W.findIn K (.ref C_NoPlan) "__setattr__" = some (some (.builtin "object.__setattr__"))) (o1_NoPlan : PySem.W.subIn K (.ref C_NoPlan) (.type "BaseException") = some true) (o2_NoPlan : PySem.W.typeIn K (.ref C_NoPlan) = some (.type "type")) (o3_NoPlan : PySem.W.keepIn K (.ref C_NoPlan) = true)
    (na_NoPlan_place : PySem.W.findIn K (.ref C_NoPlan) "place" = some none)
    (z_n_enumerate : PySem.W.nsIn K mainGlobals "enumerate" = some none)
    (z_n_min : PySem.W.nsIn K mainGlobals "min" = some none)
    (z_n_list : PySem.W.nsIn K mainGlobals "list" = some none)
    {u_g_MOST_UNITS : Value} (z_g_MOST_UNITS : PySem.W.nsIn K mainGlobals "MOST_UNITS" = some (some u_g_MOST_UNITS)) (y_g_MOST_UNITS : RelV (.int 24) u_g_MOST_UNITS)
    {C_NoUnits : Addr} (aC_NoUnits : PySem.W.nsIn K mainGlobals "NoUnits" = some (some (.ref C_NoUnits)))
    (xx_NoUnits : PySem.W.excIn K C_NoUnits [.type "ValueError", .type "Exception", .type "BaseException", .type "object"] "ValueError.__new__" = true) (xk_NoUnits : PySem.W.keepIn K (.ref C_NoUnits) = true) (xb_NoUnits : PySem.W.subIn K (.ref C_NoUnits) (.type "BaseException") = some true) (xt_NoUnits : PySem.W.typeIn K (.ref C_NoUnits) = some (.type "type"))
    (z_n_ValueError : PySem.W.nsIn K mainGlobals "ValueError" = some none)
    {C_NoLevel : Addr} (aC_NoLevel : PySem.W.nsIn K mainGlobals "NoLevel" = some (some (.ref C_NoLevel)))
    (yb_NoListing : PySem.W.subIn K (.ref C_NoListing) (.type "BaseException") = some true) (yi_NoListing : PySem.W.isClsIn K C_NoListing = true) (yt_NoListing : PySem.W.typeIn K (.ref C_NoListing) = some (.type "type"))
    (z0_NoListing : PySem.W.findIn K (.ref C_NoListing) "__getattribute__" = some (some (.builtin "BaseException.__getattribute__"))) (z1_NoListing : PySem.W.findIn K (.ref C_NoListing) "__getattr__" = some none) (z2_NoListing : PySem.W.subIn K (.ref C_NoListing) (.type "BaseException") = some true) (z3_NoListing : PySem.W.hasDictIn K C_NoListing = true) (z4_NoListing : PySem.W.findIn K (.ref C_NoListing) "__class__" = some (some (.builtin "object.__class__"))) (z5_NoListing : PySem.W.specialIn K (.builtin "object.__class__") "__get__" = some (some (.builtin "getset_descriptor.__get__"))) (z6_NoListing : PySem.W.takesIn K (.builtin "object.__class__") = some true) (z7_NoListing : PySem.W.mroIn K C_NoListing (.type "object") = some true)
    (yb_SpeakError : PySem.W.subIn K (.ref C_SpeakError) (.type "BaseException") = some true) (yi_SpeakError : PySem.W.isClsIn K C_SpeakError = true) (yt_SpeakError : PySem.W.typeIn K (.ref C_SpeakError) = some (.type "type"))
    (z_n_max : PySem.W.nsIn K mainGlobals "max" = some none)
    (z0_NoUnits : PySem.W.findIn K (.ref C_NoUnits) "__getattribute__" = some (some (.builtin "BaseException.__getattribute__"))) (z1_NoUnits : PySem.W.findIn K (.ref C_NoUnits) "__getattr__" = some none) (z2_NoUnits : PySem.W.subIn K (.ref C_NoUnits) (.type "BaseException") = some true) (z3_NoUnits : PySem.W.hasDictIn K C_NoUnits = true) (z4_NoUnits : PySem.W.findIn K (.ref C_NoUnits) "__class__" = some (some (.builtin "object.__class__"))) (z5_NoUnits : PySem.W.specialIn K (.builtin "object.__class__") "__get__" = some (some (.builtin "getset_descriptor.__get__"))) (z6_NoUnits : PySem.W.takesIn K (.builtin "object.__class__") = some true) (z7_NoUnits : PySem.W.mroIn K C_NoUnits (.type "object") = some true)
    (z0_NoPlan : PySem.W.findIn K (.ref C_NoPlan) "__getattribute__" = some (some (.builtin "BaseException.__getattribute__"))) (z1_NoPlan : PySem.W.findIn K (.ref C_NoPlan) "__getattr__" = some none) (z2_NoPlan : PySem.W.subIn K (.ref C_NoPlan) (.type "BaseException") = some true) (z3_NoPlan : PySem.W.hasDictIn K C_NoPlan = true) (z4_NoPlan : PySem.W.findIn K (.ref C_NoPlan) "__class__" = some (some (.builtin "object.__class__"))) (z5_NoPlan : PySem.W.specialIn K (.builtin "object.__class__") "__get__" = some (some (.builtin "getset_descriptor.__get__"))) (z6_NoPlan : PySem.W.takesIn K (.builtin "object.__class__") = some true) (z7_NoPlan : PySem.W.mroIn K C_NoPlan (.type "object") = some true)
    (yb_NoUnits : PySem.W.subIn K (.ref C_NoUnits) (.type "BaseException") = some true) (yi_NoUnits : PySem.W.isClsIn K C_NoUnits = true) (yt_NoUnits : PySem.W.typeIn K (.ref C_NoUnits) = some (.type "type"))
    (yb_NoPlan : PySem.W.subIn K (.ref C_NoPlan) (.type "BaseException") = some true) (yi_NoPlan : PySem.W.isClsIn K C_NoPlan = true) (yt_NoPlan : PySem.W.typeIn K (.ref C_NoPlan) = some (.type "type"))
    (yb_NoLevel : PySem.W.subIn K (.ref C_NoLevel) (.type "BaseException") = some true) (yi_NoLevel : PySem.W.isClsIn K C_NoLevel = true) (yt_NoLevel : PySem.W.typeIn K (.ref C_NoLevel) = some (.type "type"))
    (es_NoUnits_NoUnits : PySem.W.subIn K (.ref C_NoUnits) (.ref C_NoUnits) = some true)
    (es_NoUnits_SpeakError : PySem.W.subIn K (.ref C_NoUnits) (.ref C_SpeakError) = some true)
    (es_NoUnits_NoListing : PySem.W.subIn K (.ref C_NoUnits) (.ref C_NoListing) = some false)
    (es_NoListing_NoListing : PySem.W.subIn K (.ref C_NoListing) (.ref C_NoListing) = some true)
    (es_NoListing_NoUnits : PySem.W.subIn K (.ref C_NoListing) (.ref C_NoUnits) = some false)
    (es_NoListing_NoPlan : PySem.W.subIn K (.ref C_NoListing) (.ref C_NoPlan) = some false)
    (es_NoListing_NoLevel : PySem.W.subIn K (.ref C_NoListing) (.ref C_NoLevel) = some false)
    (et_NoListing_ValueError : PySem.W.subIn K (.ref C_NoListing) (.type "ValueError") = some true)
    {f__law_cell : Addr} {od__law_cell an__law_cell : Option Addr} {sl__law_cell : Array (Option Value)} {oc__law_cell kV__law_cell dc__law_cell pm__law_cell cd__law_cell ct__law_cell : Value}
    (a__law_cell : PySem.W.nsIn K mainGlobals "_law_cell" = some (some (.ref f__law_cell))) (l__law_cell : K.lookup f__law_cell = some ⟨oc__law_cell, od__law_cell, .func (PySem.W.fnOf "_law_cell" "_law_cell" (defArgs s__law_cell) (defBody s__law_cell) (defScope s__law_cell) .none kV__law_cell dc__law_cell pm__law_cell an__law_cell cd__law_cell ct__law_cell), sl__law_cell⟩) (c__law_cell : PySem.W.codeIn K cd__law_cell "_law_cell" = true) (k__law_cell : PySem.W.keepIn K (.ref f__law_cell) = true)
    {f__law_mixed : Addr} {od__law_mixed an__law_mixed : Option Addr} {sl__law_mixed : Array (Option Value)} {oc__law_mixed kV__law_mixed dc__law_mixed pm__law_mixed cd__law_mixed ct__law_mixed : Value}
    (a__law_mixed : PySem.W.nsIn K mainGlobals "_law_mixed" = some (some (.ref f__law_mixed))) (l__law_mixed : K.lookup f__law_mixed = some ⟨oc__law_mixed, od__law_mixed, .func (PySem.W.fnOf "_law_mixed" "_law_mixed" (defArgs s__law_mixed) (defBody s__law_mixed) (defScope s__law_mixed) .none kV__law_mixed dc__law_mixed pm__law_mixed an__law_mixed cd__law_mixed ct__law_mixed), sl__law_mixed⟩) (c__law_mixed : PySem.W.codeIn K cd__law_mixed "_law_mixed" = true) (k__law_mixed : PySem.W.keepIn K (.ref f__law_mixed) = true)
    {f_are_figures : Addr} {od_are_figures an_are_figures : Option Addr} {sl_are_figures : Array (Option Value)} {oc_are_figures kV_are_figures dc_are_figures pm_are_figures cd_are_figures ct_are_figures : Value}
    (a_are_figures : PySem.W.nsIn K mainGlobals "are_figures" = some (some (.ref f_are_figures))) (l_are_figures : K.lookup f_are_figures = some ⟨oc_are_figures, od_are_figures, .func (PySem.W.fnOf "are_figures" "are_figures" (defArgs s_are_figures) (defBody s_are_figures) (defScope s_are_figures) .none kV_are_figures dc_are_figures pm_are_figures an_are_figures cd_are_figures ct_are_figures), sl_are_figures⟩) (c_are_figures : PySem.W.codeIn K cd_are_figures "are_figures" = true) (k_are_figures : PySem.W.keepIn K (.ref f_are_figures) = true)
    {f_number_of : Addr} {od_number_of an_number_of : Option Addr} {sl_number_of : Array (Option Value)} {oc_number_of kV_number_of dc_number_of pm_number_of cd_number_of ct_number_of : Value}
    (a_number_of : PySem.W.nsIn K mainGlobals "number_of" = some (some (.ref f_number_of))) (l_number_of : K.lookup f_number_of = some ⟨oc_number_of, od_number_of, .func (PySem.W.fnOf "number_of" "number_of" (defArgs s_number_of) (defBody s_number_of) (defScope s_number_of) .none kV_number_of dc_number_of pm_number_of an_number_of cd_number_of ct_number_of), sl_number_of⟩) (c_number_of : PySem.W.codeIn K cd_number_of "number_of" = true) (k_number_of : PySem.W.keepIn K (.ref f_number_of) = true)
    {f_is_name : Addr} {od_is_name an_is_name : Option Addr} {sl_is_name : Array (Option Value)} {oc_is_name kV_is_name dc_is_name pm_is_name cd_is_name ct_is_name : Value}
    (a_is_name : PySem.W.nsIn K mainGlobals "is_name" = some (some (.ref f_is_name))) (l_is_name : K.lookup f_is_name = some ⟨oc_is_name, od_is_name, .func (PySem.W.fnOf "is_name" "is_name" (defArgs s_is_name) (defBody s_is_name) (defScope s_is_name) .none kV_is_name dc_is_name pm_is_name an_is_name cd_is_name ct_is_name), sl_is_name⟩) (c_is_name : PySem.W.codeIn K cd_is_name "is_name" = true) (k_is_name : PySem.W.keepIn K (.ref f_is_name) = true)
    {f_is_path : Addr} {od_is_path an_is_path : Option Addr} {sl_is_path : Array (Option Value)} {oc_is_path kV_is_path dc_is_path pm_is_path cd_is_path ct_is_path : Value}
    (a_is_path : PySem.W.nsIn K mainGlobals "is_path" = some (some (.ref f_is_path))) (l_is_path : K.lookup f_is_path = some ⟨oc_is_path, od_is_path, .func (PySem.W.fnOf "is_path" "is_path" (defArgs s_is_path) (defBody s_is_path) (defScope s_is_path) .none kV_is_path dc_is_path pm_is_path an_is_path cd_is_path ct_is_path), sl_is_path⟩) (c_is_path : PySem.W.codeIn K cd_is_path "is_path" = true) (k_is_path : PySem.W.keepIn K (.ref f_is_path) = true)
    {f__law_names : Addr} {od__law_names an__law_names : Option Addr} {sl__law_names : Array (Option Value)} {oc__law_names kV__law_names dc__law_names pm__law_names cd__law_names ct__law_names : Value}
    (a__law_names : PySem.W.nsIn K mainGlobals "_law_names" = some (some (.ref f__law_names))) (l__law_names : K.lookup f__law_names = some ⟨oc__law_names, od__law_names, .func (PySem.W.fnOf "_law_names" "_law_names" (defArgs s__law_names) (defBody s__law_names) (defScope s__law_names) .none kV__law_names dc__law_names pm__law_names an__law_names cd__law_names ct__law_names), sl__law_names⟩) (c__law_names : PySem.W.codeIn K cd__law_names "_law_names" = true) (k__law_names : PySem.W.keepIn K (.ref f__law_names) = true)
    {f__law_units : Addr} {od__law_units an__law_units : Option Addr} {sl__law_units : Array (Option Value)} {oc__law_units kV__law_units dc__law_units pm__law_units cd__law_units ct__law_units : Value}
    (a__law_units : PySem.W.nsIn K mainGlobals "_law_units" = some (some (.ref f__law_units))) (l__law_units : K.lookup f__law_units = some ⟨oc__law_units, od__law_units, .func (PySem.W.fnOf "_law_units" "_law_units" (defArgs s__law_units) (defBody s__law_units) (defScope s__law_units) .none kV__law_units dc__law_units pm__law_units an__law_units cd__law_units ct__law_units), sl__law_units⟩) (c__law_units : PySem.W.codeIn K cd__law_units "_law_units" = true) (k__law_units : PySem.W.keepIn K (.ref f__law_units) = true)
    {f_path_of : Addr} {od_path_of an_path_of : Option Addr} {sl_path_of : Array (Option Value)} {oc_path_of kV_path_of dc_path_of pm_path_of cd_path_of ct_path_of : Value}
    (a_path_of : PySem.W.nsIn K mainGlobals "path_of" = some (some (.ref f_path_of))) (l_path_of : K.lookup f_path_of = some ⟨oc_path_of, od_path_of, .func (PySem.W.fnOf "path_of" "path_of" (defArgs s_path_of) (defBody s_path_of) (defScope s_path_of) .none kV_path_of dc_path_of pm_path_of an_path_of cd_path_of ct_path_of), sl_path_of⟩) (c_path_of : PySem.W.codeIn K cd_path_of "path_of" = true) (k_path_of : PySem.W.keepIn K (.ref f_path_of) = true)
    {f_thing_of : Addr} {od_thing_of an_thing_of : Option Addr} {sl_thing_of : Array (Option Value)} {oc_thing_of kV_thing_of dc_thing_of pm_thing_of cd_thing_of ct_thing_of : Value}
    (a_thing_of : PySem.W.nsIn K mainGlobals "thing_of" = some (some (.ref f_thing_of))) (l_thing_of : K.lookup f_thing_of = some ⟨oc_thing_of, od_thing_of, .func (PySem.W.fnOf "thing_of" "thing_of" (defArgs s_thing_of) (defBody s_thing_of) (defScope s_thing_of) .none kV_thing_of dc_thing_of pm_thing_of an_thing_of cd_thing_of ct_thing_of), sl_thing_of⟩) (c_thing_of : PySem.W.codeIn K cd_thing_of "thing_of" = true) (k_thing_of : PySem.W.keepIn K (.ref f_thing_of) = true)
    {f_NoListing___init__ : Addr} {od_NoListing___init__ an_NoListing___init__ : Option Addr} {sl_NoListing___init__ : Array (Option Value)} {oc_NoListing___init__ kV_NoListing___init__ dc_NoListing___init__ pm_NoListing___init__ cd_NoListing___init__ ct_NoListing___init__ : Value}
    (a_NoListing___init__ : PySem.W.findIn K (.ref C_NoListing) "__init__" = some (some (.ref f_NoListing___init__))) (i_NoListing___init__ : PySem.W.isFn K (.ref f_NoListing___init__) = true) (l_NoListing___init__ : K.lookup f_NoListing___init__ = some ⟨oc_NoListing___init__, od_NoListing___init__, .func (PySem.W.fnOf "__init__" "NoListing.__init__" (defArgs s_NoListing___init__) (defBody s_NoListing___init__) (defScope s_NoListing___init__) .none kV_NoListing___init__ dc_NoListing___init__ pm_NoListing___init__ an_NoListing___init__ cd_NoListing___init__ ct_NoListing___init__), sl_NoListing___init__⟩) (c_NoListing___init__ : PySem.W.codeIn K cd_NoListing___init__ "NoListing.__init__" = true) (k_NoListing___init__ : PySem.W.keepIn K (.ref f_NoListing___init__) = true)
    {f_NoPlan___init__ : Addr} {od_NoPlan___init__ an_NoPlan___init__ : Option Addr} {sl_NoPlan___init__ : Array (Option Value)} {oc_NoPlan___init__ kV_NoPlan___init__ dc_NoPlan___init__ pm_NoPlan___init__ cd_NoPlan___init__ ct_NoPlan___init__ : Value}
    (a_NoPlan___init__ : PySem.W.findIn K (.ref C_NoPlan) "__init__" = some (some (.ref f_NoPlan___init__))) (i_NoPlan___init__ : PySem.W.isFn K (.ref f_NoPlan___init__) = true) (l_NoPlan___init__ : K.lookup f_NoPlan___init__ = some ⟨oc_NoPlan___init__, od_NoPlan___init__, .func (PySem.W.fnOf "__init__" "NoPlan.__init__" (defArgs s_NoPlan___init__) (defBody s_NoPlan___init__) (defScope s_NoPlan___init__) .none kV_NoPlan___init__ dc_NoPlan___init__ pm_NoPlan___init__ an_NoPlan___init__ cd_NoPlan___init__ ct_NoPlan___init__), sl_NoPlan___init__⟩) (c_NoPlan___init__ : PySem.W.codeIn K cd_NoPlan___init__ "NoPlan.__init__" = true) (k_NoPlan___init__ : PySem.W.keepIn K (.ref f_NoPlan___init__) = true)
    {f_unit_of : Addr} {od_unit_of an_unit_of : Option Addr} {sl_unit_of : Array (Option Value)} {oc_unit_of kV_unit_of dc_unit_of pm_unit_of cd_unit_of ct_unit_of : Value}
    (a_unit_of : PySem.W.nsIn K mainGlobals "unit_of" = some (some (.ref f_unit_of))) (l_unit_of : K.lookup f_unit_of = some ⟨oc_unit_of, od_unit_of, .func (PySem.W.fnOf "unit_of" "unit_of" (defArgs s_unit_of) (defBody s_unit_of) (defScope s_unit_of) .none kV_unit_of dc_unit_of pm_unit_of an_unit_of cd_unit_of ct_unit_of), sl_unit_of⟩) (c_unit_of : PySem.W.codeIn K cd_unit_of "unit_of" = true) (k_unit_of : PySem.W.keepIn K (.ref f_unit_of) = true)
    {f_listing_of : Addr} {od_listing_of an_listing_of : Option Addr} {sl_listing_of : Array (Option Value)} {oc_listing_of kV_listing_of dc_listing_of pm_listing_of cd_listing_of ct_listing_of : Value}
    (a_listing_of : PySem.W.nsIn K mainGlobals "listing_of" = some (some (.ref f_listing_of))) (l_listing_of : K.lookup f_listing_of = some ⟨oc_listing_of, od_listing_of, .func (PySem.W.fnOf "listing_of" "listing_of" (defArgs s_listing_of) (defBody s_listing_of) (defScope s_listing_of) .none kV_listing_of dc_listing_of pm_listing_of an_listing_of cd_listing_of ct_listing_of), sl_listing_of⟩) (c_listing_of : PySem.W.codeIn K cd_listing_of "listing_of" = true) (k_listing_of : PySem.W.keepIn K (.ref f_listing_of) = true)
    {f__law_line : Addr} {od__law_line an__law_line : Option Addr} {sl__law_line : Array (Option Value)} {oc__law_line kV__law_line dc__law_line pm__law_line cd__law_line ct__law_line : Value}
    (a__law_line : PySem.W.nsIn K mainGlobals "_law_line" = some (some (.ref f__law_line))) (l__law_line : K.lookup f__law_line = some ⟨oc__law_line, od__law_line, .func (PySem.W.fnOf "_law_line" "_law_line" (defArgs s__law_line) (defBody s__law_line) (defScope s__law_line) .none kV__law_line dc__law_line pm__law_line an__law_line cd__law_line ct__law_line), sl__law_line⟩) (c__law_line : PySem.W.codeIn K cd__law_line "_law_line" = true) (k__law_line : PySem.W.keepIn K (.ref f__law_line) = true)
    {f__law_is_name : Addr} {od__law_is_name an__law_is_name : Option Addr} {sl__law_is_name : Array (Option Value)} {oc__law_is_name kV__law_is_name dc__law_is_name pm__law_is_name cd__law_is_name ct__law_is_name : Value}
    (a__law_is_name : PySem.W.nsIn K mainGlobals "_law_is_name" = some (some (.ref f__law_is_name))) (l__law_is_name : K.lookup f__law_is_name = some ⟨oc__law_is_name, od__law_is_name, .func (PySem.W.fnOf "_law_is_name" "_law_is_name" (defArgs s__law_is_name) (defBody s__law_is_name) (defScope s__law_is_name) .none kV__law_is_name dc__law_is_name pm__law_is_name an__law_is_name cd__law_is_name ct__law_is_name), sl__law_is_name⟩) (c__law_is_name : PySem.W.codeIn K cd__law_is_name "_law_is_name" = true) (k__law_is_name : PySem.W.keepIn K (.ref f__law_is_name) = true)
    {f__law_is_number : Addr} {od__law_is_number an__law_is_number : Option Addr} {sl__law_is_number : Array (Option Value)} {oc__law_is_number kV__law_is_number dc__law_is_number pm__law_is_number cd__law_is_number ct__law_is_number : Value}
    (a__law_is_number : PySem.W.nsIn K mainGlobals "_law_is_number" = some (some (.ref f__law_is_number))) (l__law_is_number : K.lookup f__law_is_number = some ⟨oc__law_is_number, od__law_is_number, .func (PySem.W.fnOf "_law_is_number" "_law_is_number" (defArgs s__law_is_number) (defBody s__law_is_number) (defScope s__law_is_number) .none kV__law_is_number dc__law_is_number pm__law_is_number an__law_is_number cd__law_is_number ct__law_is_number), sl__law_is_number⟩) (c__law_is_number : PySem.W.codeIn K cd__law_is_number "_law_is_number" = true) (k__law_is_number : PySem.W.keepIn K (.ref f__law_is_number) = true)
    {f__law_depth : Addr} {od__law_depth an__law_depth : Option Addr} {sl__law_depth : Array (Option Value)} {oc__law_depth kV__law_depth dc__law_depth pm__law_depth cd__law_depth ct__law_depth : Value}
    (a__law_depth : PySem.W.nsIn K mainGlobals "_law_depth" = some (some (.ref f__law_depth))) (l__law_depth : K.lookup f__law_depth = some ⟨oc__law_depth, od__law_depth, .func (PySem.W.fnOf "_law_depth" "_law_depth" (defArgs s__law_depth) (defBody s__law_depth) (defScope s__law_depth) .none kV__law_depth dc__law_depth pm__law_depth an__law_depth cd__law_depth ct__law_depth), sl__law_depth⟩) (c__law_depth : PySem.W.codeIn K cd__law_depth "_law_depth" = true) (k__law_depth : PySem.W.keepIn K (.ref f__law_depth) = true)
    {f__law_odd_word : Addr} {od__law_odd_word an__law_odd_word : Option Addr} {sl__law_odd_word : Array (Option Value)} {oc__law_odd_word kV__law_odd_word dc__law_odd_word pm__law_odd_word cd__law_odd_word ct__law_odd_word : Value}
    (a__law_odd_word : PySem.W.nsIn K mainGlobals "_law_odd_word" = some (some (.ref f__law_odd_word))) (l__law_odd_word : K.lookup f__law_odd_word = some ⟨oc__law_odd_word, od__law_odd_word, .func (PySem.W.fnOf "_law_odd_word" "_law_odd_word" (defArgs s__law_odd_word) (defBody s__law_odd_word) (defScope s__law_odd_word) .none kV__law_odd_word dc__law_odd_word pm__law_odd_word an__law_odd_word cd__law_odd_word ct__law_odd_word), sl__law_odd_word⟩) (c__law_odd_word : PySem.W.codeIn K cd__law_odd_word "_law_odd_word" = true) (k__law_odd_word : PySem.W.keepIn K (.ref f__law_odd_word) = true)
    {f__law_odd_line : Addr} {od__law_odd_line an__law_odd_line : Option Addr} {sl__law_odd_line : Array (Option Value)} {oc__law_odd_line kV__law_odd_line dc__law_odd_line pm__law_odd_line cd__law_odd_line ct__law_odd_line : Value}
    (a__law_odd_line : PySem.W.nsIn K mainGlobals "_law_odd_line" = some (some (.ref f__law_odd_line))) (l__law_odd_line : K.lookup f__law_odd_line = some ⟨oc__law_odd_line, od__law_odd_line, .func (PySem.W.fnOf "_law_odd_line" "_law_odd_line" (defArgs s__law_odd_line) (defBody s__law_odd_line) (defScope s__law_odd_line) .none kV__law_odd_line dc__law_odd_line pm__law_odd_line an__law_odd_line cd__law_odd_line ct__law_odd_line), sl__law_odd_line⟩) (c__law_odd_line : PySem.W.codeIn K cd__law_odd_line "_law_odd_line" = true) (k__law_odd_line : PySem.W.keepIn K (.ref f__law_odd_line) = true)
    {f__law_wrong_word : Addr} {od__law_wrong_word an__law_wrong_word : Option Addr} {sl__law_wrong_word : Array (Option Value)} {oc__law_wrong_word kV__law_wrong_word dc__law_wrong_word pm__law_wrong_word cd__law_wrong_word ct__law_wrong_word : Value}
    (a__law_wrong_word : PySem.W.nsIn K mainGlobals "_law_wrong_word" = some (some (.ref f__law_wrong_word))) (l__law_wrong_word : K.lookup f__law_wrong_word = some ⟨oc__law_wrong_word, od__law_wrong_word, .func (PySem.W.fnOf "_law_wrong_word" "_law_wrong_word" (defArgs s__law_wrong_word) (defBody s__law_wrong_word) (defScope s__law_wrong_word) .none kV__law_wrong_word dc__law_wrong_word pm__law_wrong_word an__law_wrong_word cd__law_wrong_word ct__law_wrong_word), sl__law_wrong_word⟩) (c__law_wrong_word : PySem.W.codeIn K cd__law_wrong_word "_law_wrong_word" = true) (k__law_wrong_word : PySem.W.keepIn K (.ref f__law_wrong_word) = true)
    {f__law_due : Addr} {od__law_due an__law_due : Option Addr} {sl__law_due : Array (Option Value)} {oc__law_due kV__law_due dc__law_due pm__law_due cd__law_due ct__law_due : Value}
    (a__law_due : PySem.W.nsIn K mainGlobals "_law_due" = some (some (.ref f__law_due))) (l__law_due : K.lookup f__law_due = some ⟨oc__law_due, od__law_due, .func (PySem.W.fnOf "_law_due" "_law_due" (defArgs s__law_due) (defBody s__law_due) (defScope s__law_due) .none kV__law_due dc__law_due pm__law_due an__law_due cd__law_due ct__law_due), sl__law_due⟩) (c__law_due : PySem.W.codeIn K cd__law_due "_law_due" = true) (k__law_due : PySem.W.keepIn K (.ref f__law_due) = true)
    {f__law_told : Addr} {od__law_told an__law_told : Option Addr} {sl__law_told : Array (Option Value)} {oc__law_told kV__law_told dc__law_told pm__law_told cd__law_told ct__law_told : Value}
    (a__law_told : PySem.W.nsIn K mainGlobals "_law_told" = some (some (.ref f__law_told))) (l__law_told : K.lookup f__law_told = some ⟨oc__law_told, od__law_told, .func (PySem.W.fnOf "_law_told" "_law_told" (defArgs s__law_told) (defBody s__law_told) (defScope s__law_told) .none kV__law_told dc__law_told pm__law_told an__law_told cd__law_told ct__law_told), sl__law_told⟩) (c__law_told : PySem.W.codeIn K cd__law_told "_law_told" = true) (k__law_told : PySem.W.keepIn K (.ref f__law_told) = true)
    {f__law_no_units : Addr} {od__law_no_units an__law_no_units : Option Addr} {sl__law_no_units : Array (Option Value)} {oc__law_no_units kV__law_no_units dc__law_no_units pm__law_no_units cd__law_no_units ct__law_no_units : Value}
    (a__law_no_units : PySem.W.nsIn K mainGlobals "_law_no_units" = some (some (.ref f__law_no_units))) (l__law_no_units : K.lookup f__law_no_units = some ⟨oc__law_no_units, od__law_no_units, .func (PySem.W.fnOf "_law_no_units" "_law_no_units" (defArgs s__law_no_units) (defBody s__law_no_units) (defScope s__law_no_units) .none kV__law_no_units dc__law_no_units pm__law_no_units an__law_no_units cd__law_no_units ct__law_no_units), sl__law_no_units⟩) (c__law_no_units : PySem.W.codeIn K cd__law_no_units "_law_no_units" = true) (k__law_no_units : PySem.W.keepIn K (.ref f__law_no_units) = true)
    {f_law : Addr} {od_law an_law : Option Addr} {sl_law : Array (Option Value)} {oc_law kV_law dc_law pm_law cd_law ct_law : Value}
    (a_law : PySem.W.nsIn K mainGlobals "law" = some (some (.ref f_law))) (l_law : K.lookup f_law = some ⟨oc_law, od_law, .func (PySem.W.fnOf "law" "law" (defArgs s_law) (defBody s_law) (defScope s_law) .none kV_law dc_law pm_law an_law cd_law ct_law), sl_law⟩) (c_law : PySem.W.codeIn K cd_law "law" = true) (k_law : PySem.W.keepIn K (.ref f_law) = true) : Txt K mg := by
  have e_SpeakError : cA mg "SpeakError" = C_SpeakError := cA_of (PySem.W.mg_of X G aC_SpeakError)
  have e_NoListing : cA mg "NoListing" = C_NoListing := cA_of (PySem.W.mg_of X G aC_NoListing)
  have e_NoPlan : cA mg "NoPlan" = C_NoPlan := cA_of (PySem.W.mg_of X G aC_NoPlan)
  have e_NoUnits : cA mg "NoUnits" = C_NoUnits := cA_of (PySem.W.mg_of X G aC_NoUnits)
  have e_NoLevel : cA mg "NoLevel" = C_NoLevel := cA_of (PySem.W.mg_of X G aC_NoLevel)
  exact ⟨(PySem.W.mg_none_of X G z_n_len), (⟨_, PySem.W.mg_of X G z_g_FIGURES, y_g_FIGURES⟩), (PySem.W.mg_none_of X G z_n_int), (PySem.W.mg_none_of X G z_n_isinstance), (PySem.W.mg_none_of X G z_n_str), (⟨_, PySem.W.mg_of X G z_g_LETTERS, y_g_LETTERS⟩), (PySem.W.mg_none_of X G z_n_tuple), (⟨_, PySem.W.mg_of X G z_g_DEEPEST, y_g_DEEPEST⟩), (PySem.W.mg_none_of X G z_n_range), (⟨_, PySem.W.mg_of X G z_g_MOST_SIZE, y_g_MOST_SIZE⟩), (⟨_, PySem.W.mg_of X G z_g_MOST_VALUE, y_g_MOST_VALUE⟩), (by rw [e_SpeakError]; exact PySem.W.mg_of X G aC_SpeakError), (by rw [e_SpeakError]; exact ⟨bi0_SpeakError, bi1_SpeakError, bi2_SpeakError⟩), (by rw [e_NoListing]; exact PySem.W.mg_of X G aC_NoListing), (by rw [e_NoListing]; exact ⟨ox_NoListing, o0_NoListing, o1_NoListing, o2_NoListing, o3_NoListing⟩), (by rw [e_NoListing]; exact na_NoListing_line), (by rw [e_NoListing]; exact na_NoListing_word), (by rw [e_NoPlan]; exact PySem.W.mg_of X G aC_NoPlan), (by rw [e_NoPlan]; exact ⟨ox_NoPlan, o0_NoPlan, o1_NoPlan, o2_NoPlan, o3_NoPlan⟩), (by rw [e_NoPlan]; exact na_NoPlan_place), (PySem.W.mg_none_of X G z_n_enumerate), (PySem.W.mg_none_of X G z_n_min), (PySem.W.mg_none_of X G z_n_list), (⟨_, PySem.W.mg_of X G z_g_MOST_UNITS, y_g_MOST_UNITS⟩), (by rw [e_NoUnits]; exact PySem.W.mg_of X G aC_NoUnits), (by rw [e_NoUnits]; exact ⟨xx_NoUnits, xk_NoUnits, xb_NoUnits, xt_NoUnits⟩), (PySem.W.mg_none_of X G z_n_ValueError), (by rw [e_NoLevel]; exact PySem.W.mg_of X G aC_NoLevel), (by rw [e_NoListing]; exact ⟨yb_NoListing, yi_NoListing, yt_NoListing⟩), (by rw [e_NoListing]; exact ⟨z0_NoListing, z1_NoListing, z2_NoListing, z3_NoListing, z4_NoListing, z5_NoListing, z6_NoListing, z7_NoListing⟩), (by rw [e_SpeakError]; exact ⟨yb_SpeakError, yi_SpeakError, yt_SpeakError⟩), (PySem.W.mg_none_of X G z_n_max), (by rw [e_NoUnits]; exact ⟨z0_NoUnits, z1_NoUnits, z2_NoUnits, z3_NoUnits, z4_NoUnits, z5_NoUnits, z6_NoUnits, z7_NoUnits⟩), (by rw [e_NoPlan]; exact ⟨z0_NoPlan, z1_NoPlan, z2_NoPlan, z3_NoPlan, z4_NoPlan, z5_NoPlan, z6_NoPlan, z7_NoPlan⟩), (by rw [e_NoUnits]; exact ⟨yb_NoUnits, yi_NoUnits, yt_NoUnits⟩), (by rw [e_NoPlan]; exact ⟨yb_NoPlan, yi_NoPlan, yt_NoPlan⟩), (by rw [e_NoLevel]; exact ⟨yb_NoLevel, yi_NoLevel, yt_NoLevel⟩), (by rw [e_NoUnits]; exact es_NoUnits_NoUnits), (by rw [e_NoUnits, e_SpeakError]; exact es_NoUnits_SpeakError), (by rw [e_NoUnits, e_NoListing]; exact es_NoUnits_NoListing), (by rw [e_NoListing]; exact es_NoListing_NoListing), (by rw [e_NoListing, e_NoUnits]; exact es_NoListing_NoUnits), (by rw [e_NoListing, e_NoPlan]; exact es_NoListing_NoPlan), (by rw [e_NoListing, e_NoLevel]; exact es_NoListing_NoLevel), (by rw [e_NoListing]; exact et_NoListing_ValueError), (⟨f__law_cell, _, fun_mk (st := s__law_cell) l__law_cell c__law_cell k__law_cell, PySem.W.mg_of X G a__law_cell, (fun_mk (st := s__law_cell) l__law_cell c__law_cell k__law_cell).binds (ps := ["_law_script", "_law_k"]) fun _ _ _ _ _ _ us hl => match us, hl with | [_, _], _ => rfl⟩), (⟨f__law_mixed, _, fun_mk (st := s__law_mixed) l__law_mixed c__law_mixed k__law_mixed, PySem.W.mg_of X G a__law_mixed, (fun_mk (st := s__law_mixed) l__law_mixed c__law_mixed k__law_mixed).binds (ps := ["_law_cell_here", "_law_k"]) fun _ _ _ _ _ _ us hl => match us, hl with | [_, _], _ => rfl⟩), (⟨f_are_figures, _, fun_mk (st := s_are_figures) l_are_figures c_are_figures k_are_figures, PySem.W.mg_of X G a_are_figures, (fun_mk (st := s_are_figures) l_are_figures c_are_figures k_are_figures).binds (ps := ["text"]) fun _ _ _ _ _ _ us hl => match us, hl with | [_], _ => rfl⟩), (⟨f_number_of, _, fun_mk (st := s_number_of) l_number_of c_number_of k_number_of, PySem.W.mg_of X G a_number_of, (fun_mk (st := s_number_of) l_number_of c_number_of k_number_of).binds (ps := ["text", "low", "high"]) fun _ _ _ _ _ _ us hl => match us, hl with | [_, _, _], _ => rfl⟩), (⟨f_is_name, _, fun_mk (st := s_is_name) l_is_name c_is_name k_is_name, PySem.W.mg_of X G a_is_name, (fun_mk (st := s_is_name) l_is_name c_is_name k_is_name).binds (ps := ["thing"]) fun _ _ _ _ _ _ us hl => match us, hl with | [_], _ => rfl⟩), (⟨f_is_path, _, fun_mk (st := s_is_path) l_is_path c_is_path k_is_path, PySem.W.mg_of X G a_is_path, (fun_mk (st := s_is_path) l_is_path c_is_path k_is_path).binds (ps := ["thing"]) fun _ _ _ _ _ _ us hl => match us, hl with | [_], _ => rfl⟩), (⟨f__law_names, _, fun_mk (st := s__law_names) l__law_names c__law_names k__law_names, PySem.W.mg_of X G a__law_names, (fun_mk (st := s__law_names) l__law_names c__law_names k__law_names).binds (ps := ["_law_cell_here", "_law_many"]) fun _ _ _ _ _ _ us hl => match us, hl with | [_, _], _ => rfl⟩), (⟨f__law_units, _, fun_mk (st := s__law_units) l__law_units c__law_units k__law_units, PySem.W.mg_of X G a__law_units, (fun_mk (st := s__law_units) l__law_units c__law_units k__law_units).binds (ps := ["_law_cell_here"]) fun _ _ _ _ _ _ us hl => match us, hl with | [_], _ => rfl⟩), (⟨f_path_of, _, fun_mk (st := s_path_of) l_path_of c_path_of k_path_of, PySem.W.mg_of X G a_path_of, (fun_mk (st := s_path_of) l_path_of c_path_of k_path_of).binds (ps := ["word"]) fun _ _ _ _ _ _ us hl => match us, hl with | [_], _ => rfl⟩), (⟨f_thing_of, _, fun_mk (st := s_thing_of) l_thing_of c_thing_of k_thing_of, PySem.W.mg_of X G a_thing_of, (fun_mk (st := s_thing_of) l_thing_of c_thing_of k_thing_of).binds (ps := ["word", "place"]) fun _ _ _ _ _ _ us hl => match us, hl with | [_, _], _ => rfl⟩), (by rw [e_NoListing]; exact ⟨f_NoListing___init__, _, fun_mk (st := s_NoListing___init__) l_NoListing___init__ c_NoListing___init__ k_NoListing___init__, a_NoListing___init__, i_NoListing___init__, (fun_mk (st := s_NoListing___init__) l_NoListing___init__ c_NoListing___init__ k_NoListing___init__).binds (ps := ["self", "line", "word"]) fun _ _ _ _ _ _ us hl => match us, hl with | [_, _, _], _ => rfl⟩), (by rw [e_NoPlan]; exact ⟨f_NoPlan___init__, _, fun_mk (st := s_NoPlan___init__) l_NoPlan___init__ c_NoPlan___init__ k_NoPlan___init__, a_NoPlan___init__, i_NoPlan___init__, (fun_mk (st := s_NoPlan___init__) l_NoPlan___init__ c_NoPlan___init__ k_NoPlan___init__).binds (ps := ["self", "place"]) fun _ _ _ _ _ _ us hl => match us, hl with | [_, _], _ => rfl⟩), (⟨f_unit_of, _, fun_mk (st := s_unit_of) l_unit_of c_unit_of k_unit_of, PySem.W.mg_of X G a_unit_of, (fun_mk (st := s_unit_of) l_unit_of c_unit_of k_unit_of).binds (ps := ["line", "number", "units"]) fun _ _ _ _ _ _ us hl => match us, hl with | [_, _, _], _ => rfl⟩), (⟨f_listing_of, _, fun_mk (st := s_listing_of) l_listing_of c_listing_of k_listing_of, PySem.W.mg_of X G a_listing_of, (fun_mk (st := s_listing_of) l_listing_of c_listing_of k_listing_of).binds (ps := ["lines"]) fun _ _ _ _ _ _ us hl => match us, hl with | [_], _ => rfl⟩), (⟨f__law_line, _, fun_mk (st := s__law_line) l__law_line c__law_line k__law_line, PySem.W.mg_of X G a__law_line, (fun_mk (st := s__law_line) l__law_line c__law_line k__law_line).binds (ps := ["_law_unit"]) fun _ _ _ _ _ _ us hl => match us, hl with | [_], _ => rfl⟩), (⟨f__law_is_name, _, fun_mk (st := s__law_is_name) l__law_is_name c__law_is_name k__law_is_name, PySem.W.mg_of X G a__law_is_name, (fun_mk (st := s__law_is_name) l__law_is_name c__law_is_name k__law_is_name).binds (ps := ["_law_text"]) fun _ _ _ _ _ _ us hl => match us, hl with | [_], _ => rfl⟩), (⟨f__law_is_number, _, fun_mk (st := s__law_is_number) l__law_is_number c__law_is_number k__law_is_number, PySem.W.mg_of X G a__law_is_number, (fun_mk (st := s__law_is_number) l__law_is_number c__law_is_number k__law_is_number).binds (ps := ["_law_text", "_law_low", "_law_high"]) fun _ _ _ _ _ _ us hl => match us, hl with | [_, _, _], _ => rfl⟩), (⟨f__law_depth, _, fun_mk (st := s__law_depth) l__law_depth c__law_depth k__law_depth, PySem.W.mg_of X G a__law_depth, (fun_mk (st := s__law_depth) l__law_depth c__law_depth k__law_depth).binds (ps := ["_law_word"]) fun _ _ _ _ _ _ us hl => match us, hl with | [_], _ => rfl⟩), (⟨f__law_odd_word, _, fun_mk (st := s__law_odd_word) l__law_odd_word c__law_odd_word k__law_odd_word, PySem.W.mg_of X G a__law_odd_word, (fun_mk (st := s__law_odd_word) l__law_odd_word c__law_odd_word k__law_odd_word).binds (ps := ["_law_words", "_law_at", "_law_number"]) fun _ _ _ _ _ _ us hl => match us, hl with | [_, _, _], _ => rfl⟩), (⟨f__law_odd_line, _, fun_mk (st := s__law_odd_line) l__law_odd_line c__law_odd_line k__law_odd_line, PySem.W.mg_of X G a__law_odd_line, (fun_mk (st := s__law_odd_line) l__law_odd_line c__law_odd_line k__law_odd_line).binds (ps := ["_law_lines", "_law_at", "_law_cell_here"]) fun _ _ _ _ _ _ us hl => match us, hl with | [_, _, _], _ => rfl⟩), (⟨f__law_wrong_word, _, fun_mk (st := s__law_wrong_word) l__law_wrong_word c__law_wrong_word k__law_wrong_word, PySem.W.mg_of X G a__law_wrong_word, (fun_mk (st := s__law_wrong_word) l__law_wrong_word c__law_wrong_word k__law_wrong_word).binds (ps := ["_law_line_here", "_law_names_here", "_law_deep"]) fun _ _ _ _ _ _ us hl => match us, hl with | [_, _, _], _ => rfl⟩), (⟨f__law_due, _, fun_mk (st := s__law_due) l__law_due c__law_due k__law_due, PySem.W.mg_of X G a__law_due, (fun_mk (st := s__law_due) l__law_due c__law_due k__law_due).binds (ps := ["_law_lines"]) fun _ _ _ _ _ _ us hl => match us, hl with | [_], _ => rfl⟩), (⟨f__law_told, _, fun_mk (st := s__law_told) l__law_told c__law_told k__law_told, PySem.W.mg_of X G a__law_told, (fun_mk (st := s__law_told) l__law_told c__law_told k__law_told).binds (ps := ["_law_lines"]) fun _ _ _ _ _ _ us hl => match us, hl with | [_], _ => rfl⟩), (⟨f__law_no_units, _, fun_mk (st := s__law_no_units) l__law_no_units c__law_no_units k__law_no_units, PySem.W.mg_of X G a__law_no_units, (fun_mk (st := s__law_no_units) l__law_no_units c__law_no_units k__law_no_units).binds (ps := ["_law_thing"]) fun _ _ _ _ _ _ us hl => match us, hl with | [_], _ => rfl⟩), (⟨f_law, _, fun_mk (st := s_law) l_law c_law k_law, PySem.W.mg_of X G a_law, (fun_mk (st := s_law) l_law c_law k_law).binds (ps := ["_law_script"]) fun _ _ _ _ _ _ us hl => match us, hl with | [_], _ => rfl⟩)⟩
theorem law_mk {P : Program} {w : World} {K : PySem.W.Frag} {mg : Str → Option Value} {fa : Addr} (T : Txt K mg) (hfa : mg "law" = some (.ref fa)) :
    ∃ fd : FuncData, (∀ (s : Shared) (v : Value), BindsTo s fd ⟨[v], []⟩ [("_law_script", v)]) ∧ ∀ base : Heap, K.In base → base.Ns mainGlobals mg → FnOk P w K mg base CX0 8 fa fd ["_law_script"] (sp_law K mg) := by
  obtain ⟨f, fd, F, hm, b⟩ := T.d_law.ex
  have e := hfa.symm.trans hm
  cases e
  refine ⟨fd, fun s v => ?_, fun base _ _ => c_law T F⟩
  obtain ⟨oc, od, kV, doc, pm, an, cdv, ct, osl, rfl, lk, hcd⟩ := F.ex
  exact .of_eq rfl
end My
open PySem PySem.W PyProof.Rows
set_option maxRecDepth 100000 in
set_option maxHeartbeats 0 in
theorem PySem.Challenge.cw_fewspeak_k04_lines_refused_holds : PySem.Challenge.rw_fewspeak_k04_lines_refused.Holds := by
  w_on; o_law; k_head; (case hw => w_witness2)
  k_fill
  refine L2.walk_ofB (l := PySem.Challenge.rw_fewspeak_k04_lines_refused) (n := 63) (k := 8) (x := "_law_script") (CX := fun _ => L2.CX0) (sp := fun w => My.sp_law _ (fun _ => none)) rfl (by decide) rfl ⟨rfl, by decide, by decide⟩ (fun w h Y => PySem.W.kIn_of Y) ?F (fun _ _ a ns hl hb _ hS => ⟨ns, hS, hl, hb, fun _ => rfl⟩) (fun _ _ _ _ _ h => h)
  case F =>
    intro w mg fa h KX G hmg
    refine' My.law_mk (My.txt_mk KX G ?z_n_len ?z_g_FIGURES ?y_g_FIGURES ?z_n_int ?z_n_isinstance ?z_n_str ?z_g_LETTERS ?y_g_LETTERS ?z_n_tuple ?z_g_DEEPEST ?y_g_DEEPEST ?z_n_range ?z_g_MOST_SIZE ?y_g_MOST_SIZE ?z_g_MOST_VALUE ?y_g_MOST_VALUE ?aC_SpeakError ?bi0_SpeakError ?bi1_SpeakError ?bi2_SpeakError ?aC_NoListing ?ox_NoListing ?o0_NoListing ?o1_NoListing ?o2_NoListing ?o3_NoListing ?na_NoListing_line ?na_NoListing_word ?aC_NoPlan ?ox_NoPlan ?o0_NoPlan ?o1_NoPlan ?o2_NoPlan ?o3_NoPlan ?na_NoPlan_place ?z_n_enumerate ?z_n_min ?z_n_list ?z_g_MOST_UNITS ?y_g_MOST_UNITS ?aC_NoUnits ?xx_NoUnits ?xk_NoUnits ?xb_NoUnits ?xt_NoUnits ?z_n_ValueError ?aC_NoLevel ?yb_NoListing ?yi_NoListing ?yt_NoListing ?z0_NoListing ?z1_NoListing ?z2_NoListing ?z3_NoListing ?z4_NoListing ?z5_NoListing ?z6_NoListing ?z7_NoListing ?yb_SpeakError ?yi_SpeakError ?yt_SpeakError ?z_n_max ?z0_NoUnits ?z1_NoUnits ?z2_NoUnits ?z3_NoUnits ?z4_NoUnits ?z5_NoUnits ?z6_NoUnits ?z7_NoUnits ?z0_NoPlan ?z1_NoPlan ?z2_NoPlan ?z3_NoPlan ?z4_NoPlan ?z5_NoPlan ?z6_NoPlan ?z7_NoPlan ?yb_NoUnits ?yi_NoUnits ?yt_NoUnits ?yb_NoPlan ?yi_NoPlan ?yt_NoPlan ?yb_NoLevel ?yi_NoLevel ?yt_NoLevel ?es_NoUnits_NoUnits ?es_NoUnits_SpeakError ?es_NoUnits_NoListing ?es_NoListing_NoListing ?es_NoListing_NoUnits ?es_NoListing_NoPlan ?es_NoListing_NoLevel ?et_NoListing_ValueError ?a__law_cell ?l__law_cell ?c__law_cell ?k__law_cell ?a__law_mixed ?l__law_mixed ?c__law_mixed ?k__law_mixed ?a_are_figures ?l_are_figures ?c_are_figures ?k_are_figures ?a_number_of ?l_number_of ?c_number_of ?k_number_of ?a_is_name ?l_is_name ?c_is_name ?k_is_name ?a_is_path ?l_is_path ?c_is_path ?k_is_path ?a__law_names ?l__law_names ?c__law_names ?k__law_names ?a__law_units ?l__law_units ?c__law_units ?k__law_units ?a_path_of ?l_path_of ?c_path_of ?k_path_of ?a_thing_of ?l_thing_of ?c_thing_of ?k_thing_of ?a_NoListing___init__ ?i_NoListing___init__ ?l_NoListing___init__ ?c_NoListing___init__ ?k_NoListing___init__ ?a_NoPlan___init__ ?i_NoPlan___init__ ?l_NoPlan___init__ ?c_NoPlan___init__ ?k_NoPlan___init__ ?a_unit_of ?l_unit_of ?c_unit_of ?k_unit_of ?a_listing_of ?l_listing_of ?c_listing_of ?k_listing_of ?a__law_line ?l__law_line ?c__law_line ?k__law_line ?a__law_is_name ?l__law_is_name ?c__law_is_name ?k__law_is_name ?a__law_is_number ?l__law_is_number ?c__law_is_number ?k__law_is_number ?a__law_depth ?l__law_depth ?c__law_depth ?k__law_depth ?a__law_odd_word ?l__law_odd_word ?c__law_odd_word ?k__law_odd_word ?a__law_odd_line ?l__law_odd_line ?c__law_odd_line ?k__law_odd_line ?a__law_wrong_word ?l__law_wrong_word ?c__law_wrong_word ?k__law_wrong_word ?a__law_due ?l__law_due ?c__law_due ?k__law_due ?a__law_told ?l__law_told ?c__law_told ?k__law_told ?a__law_no_units ?l__law_no_units ?c__law_no_units ?k__law_no_units ?a_law ?l_law ?c_law ?k_law) hmg
    (case z_n_len => k_is)
    (case z_g_FIGURES => k_is)
    (case y_g_FIGURES => exact ⟨_, rfl⟩)
    (case z_n_int => k_is)
    (case z_n_isinstance => k_is)
    (case z_n_str => k_is)
    (case z_g_LETTERS => k_is)
    (case y_g_LETTERS => exact ⟨_, rfl⟩)
    (case z_n_tuple => k_is)
    (case z_g_DEEPEST => k_is)
    (case y_g_DEEPEST => exact ⟨_, rfl⟩)
    (case z_n_range => k_is)
    (case z_g_MOST_SIZE => k_is)
    (case y_g_MOST_SIZE => exact ⟨_, rfl⟩)
    (case z_g_MOST_VALUE => k_is)
    (case y_g_MOST_VALUE => exact ⟨_, rfl⟩)
    (case aC_SpeakError => k_is)
    (case bi0_SpeakError => k_is)
    (case bi1_SpeakError => k_is)
    (case bi2_SpeakError => k_is)
    (case aC_NoListing => k_is)
    (case ox_NoListing => first | exact ⟨_, _, _, _, _, _, _, _, _, _, _, _, _, _, _, by k_is, by first | rfl | decide +kernel | k_is⟩ | exact ⟨_, _, _, _, _, _, _, _, _, _, _, _, _, _, _, rfl, by first | rfl | decide +kernel⟩)
    (case o0_NoListing => k_is)
    (case o1_NoListing => k_is)
    (case o2_NoListing => k_is)
    (case o3_NoListing => k_is)
    (case na_NoListing_line => k_is)
    (case na_NoListing_word => k_is)
    (case aC_NoPlan => k_is)
    (case ox_NoPlan => first | exact ⟨_, _, _, _, _, _, _, _, _, _, _, _, _, _, _, by k_is, by first | rfl | decide +kernel | k_is⟩ | exact ⟨_, _, _, _, _, _, _, _, _, _, _, _, _, _, _, rfl, by first | rfl | decide +kernel⟩)
    (case o0_NoPlan => k_is)
    (case o1_NoPlan => k_is)
    (case o2_NoPlan => k_is)
    (case o3_NoPlan => k_is)
    (case na_NoPlan_place => k_is)
    (case z_n_enumerate => k_is)
    (case z_n_min => k_is)
    (case z_n_list => k_is)
    (case z_g_MOST_UNITS => k_is)
    (case y_g_MOST_UNITS => exact ⟨_, rfl⟩)
    (case aC_NoUnits => k_is)
    (case xx_NoUnits => k_exc)
    (case xk_NoUnits => k_is)
    (case xb_NoUnits => k_is)
    (case xt_NoUnits => k_is)
    (case z_n_ValueError => k_is)
    (case aC_NoLevel => k_is)
    (case yb_NoListing => k_is)
    (case yi_NoListing => k_is)
    (case yt_NoListing => k_is)
    (case z0_NoListing => k_is)
    (case z1_NoListing => k_is)
    (case z2_NoListing => k_is)
    (case z3_NoListing => k_is)
    (case z4_NoListing => k_is)
    (case z5_NoListing => k_is)
    (case z6_NoListing => k_is)
    (case z7_NoListing => k_is)
    (case yb_SpeakError => k_is)
    (case yi_SpeakError => k_is)
    (case yt_SpeakError => k_is)
    (case z_n_max => k_is)
    (case z0_NoUnits => k_is)
    (case z1_NoUnits => k_is)
    (case z2_NoUnits => k_is)
    (case z3_NoUnits => k_is)
    (case z4_NoUnits => k_is)
    (case z5_NoUnits => k_is)
    (case z6_NoUnits => k_is)
    (case z7_NoUnits => k_is)
    (case z0_NoPlan => k_is)
    (case z1_NoPlan => k_is)
    (case z2_NoPlan => k_is)
    (case z3_NoPlan => k_is)
    (case z4_NoPlan => k_is)
    (case z5_NoPlan => k_is)
    (case z6_NoPlan => k_is)
    (case z7_NoPlan => k_is)
    (case yb_NoUnits => k_is)
    (case yi_NoUnits => k_is)
    (case yt_NoUnits => k_is)
    (case yb_NoPlan => k_is)
    (case yi_NoPlan => k_is)
    (case yt_NoPlan => k_is)
    (case yb_NoLevel => k_is)
    (case yi_NoLevel => k_is)
    (case yt_NoLevel => k_is)
    (case es_NoUnits_NoUnits => first | rfl | k_is)
    (case es_NoUnits_SpeakError => first | rfl | k_is)
    (case es_NoUnits_NoListing => first | rfl | k_is)
    (case es_NoListing_NoListing => first | rfl | k_is)
    (case es_NoListing_NoUnits => first | rfl | k_is)
    (case es_NoListing_NoPlan => first | rfl | k_is)
    (case es_NoListing_NoLevel => first | rfl | k_is)
    (case et_NoListing_ValueError => first | rfl | k_is)
    (case a__law_cell => k_is)
    (case l__law_cell => k_is)
    (case c__law_cell => k_is)
    (case k__law_cell => k_is)
    (case a__law_mixed => k_is)
    (case l__law_mixed => k_is)
    (case c__law_mixed => k_is)
    (case k__law_mixed => k_is)
    (case a_are_figures => k_is)
    (case l_are_figures => k_is)
    (case c_are_figures => k_is)
    (case k_are_figures => k_is)
    (case a_number_of => k_is)
    (case l_number_of => k_is)
    (case c_number_of => k_is)
    (case k_number_of => k_is)
    (case a_is_name => k_is)
    (case l_is_name => k_is)
    (case c_is_name => k_is)
    (case k_is_name => k_is)
    (case a_is_path => k_is)
    (case l_is_path => k_is)
    (case c_is_path => k_is)
    (case k_is_path => k_is)
    (case a__law_names => k_is)
    (case l__law_names => k_is)
    (case c__law_names => k_is)
    (case k__law_names => k_is)
    (case a__law_units => k_is)
    (case l__law_units => k_is)
    (case c__law_units => k_is)
    (case k__law_units => k_is)
    (case a_path_of => k_is)
    (case l_path_of => k_is)
    (case c_path_of => k_is)
    (case k_path_of => k_is)
    (case a_thing_of => k_is)
    (case l_thing_of => k_is)
    (case c_thing_of => k_is)
    (case k_thing_of => k_is)
    (case a_NoListing___init__ => k_is)
    (case i_NoListing___init__ => k_is)
    (case l_NoListing___init__ => k_is)
    (case c_NoListing___init__ => k_is)
    (case k_NoListing___init__ => k_is)
    (case a_NoPlan___init__ => k_is)
    (case i_NoPlan___init__ => k_is)
    (case l_NoPlan___init__ => k_is)
    (case c_NoPlan___init__ => k_is)
    (case k_NoPlan___init__ => k_is)
    (case a_unit_of => k_is)
    (case l_unit_of => k_is)
    (case c_unit_of => k_is)
    (case k_unit_of => k_is)
    (case a_listing_of => k_is)
    (case l_listing_of => k_is)
    (case c_listing_of => k_is)
    (case k_listing_of => k_is)
    (case a__law_line => k_is)
    (case l__law_line => k_is)
    (case c__law_line => k_is)
    (case k__law_line => k_is)
    (case a__law_is_name => k_is)
    (case l__law_is_name => k_is)
    (case c__law_is_name => k_is)
    (case k__law_is_name => k_is)
    (case a__law_is_number => k_is)
    (case l__law_is_number => k_is)
    (case c__law_is_number => k_is)
    (case k__law_is_number => k_is)
    (case a__law_depth => k_is)
    (case l__law_depth => k_is)
    (case c__law_depth => k_is)
    (case k__law_depth => k_is)
    (case a__law_odd_word => k_is)
    (case l__law_odd_word => k_is)
    (case c__law_odd_word => k_is)
    (case k__law_odd_word => k_is)
    (case a__law_odd_line => k_is)
    (case l__law_odd_line => k_is)
    (case c__law_odd_line => k_is)
    (case k__law_odd_line => k_is)
    (case a__law_wrong_word => k_is)
    (case l__law_wrong_word => k_is)
    (case c__law_wrong_word => k_is)
    (case k__law_wrong_word => k_is)
    (case a__law_due => k_is)
    (case l__law_due => k_is)
    (case c__law_due => k_is)
    (case k__law_due => k_is)
    (case a__law_told => k_is)
    (case l__law_told => k_is)
    (case c__law_told => k_is)
    (case k__law_told => k_is)
    (case a__law_no_units => k_is)
    (case l__law_no_units => k_is)
    (case c__law_no_units => k_is)
    (case k__law_no_units => k_is)
    (case a_law => k_is)
    (case l_law => k_is)
    (case c_law => k_is)
    (case k_law => k_is)
#print axioms PySem.Challenge.cw_fewspeak_k04_lines_refused_holds

