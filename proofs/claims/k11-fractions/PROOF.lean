import PyProof.Rows.All
import Wide.All
import OpenK.AllK
import Wide.FinOn
import HandS.ForMost
import HandS.Exc
import HandS.TryOnly
import HandS.ExcOwn
import HandS.WordsExc
import HandS.Wide
import HandS.IsInst
import HandS.EndBits
import HandS.Conv
import HandS.Style
import HandS.TupAny
import HandS.Evl
import PySem.Challenge.RW_fewspeak_k11_fractions
set_option Elab.async false
set_option linter.all false
set_option maxRecDepth 100000
set_option maxHeartbeats 4000000
namespace Kt
open PySem PySem.Spec PyProof.Rows L2
/-- a def of the top, as it stands behind the top -/
structure DefAt (K : PySem.W.Frag) (mg : Str → Option Value) (x : Str) (st : Stmt) (ps : List Str) : Prop where
  ex : ∃ (f : Addr) (fd : FuncData), Fun K x x st f fd ∧ mg x = some (.ref f) ∧ Binds K fd ps []
/-- a method of the class at C -/
structure MethAt (K : PySem.W.Frag) (C : Addr) (m qual : Str) (st : Stmt) (ps : List Str) : Prop where
  ex : ∃ (f : Addr) (fd : FuncData), Fun K m qual st f fd ∧ Meth K C m f ∧ Binds K fd ps []
structure InitAt (K : PySem.W.Frag) (C : Addr) (qual : Str) (st : Stmt) (ps : List Str) : Prop where
  ex : ∃ (f : Addr) (fd : FuncData), Fun K "__init__" qual st f fd ∧ Mk K C f ∧ Binds K fd ps []
/-- a def that may be called by its name; a method of the class at C; a class that may be made -/
structure Cal (P : Program) (w : World) (K : PySem.W.Frag) (mg : Str → Option Value) (base : Heap) (k : Nat) (x : Str) (sp : Sp) : Prop where
  ex : ∃ (f : Addr) (fd : FuncData) (ps : List Str), FnOk P w K mg base CX0 k f fd ps sp ∧ mg x = some (.ref f) ∧ PySem.W.keepIn K (.ref f) = true ∧ Binds K fd ps []
structure Met (P : Program) (w : World) (K : PySem.W.Frag) (mg : Str → Option Value) (base : Heap) (k : Nat) (C : Addr) (m : Str) (sp : Sp) : Prop where
  ex : ∃ (f : Addr) (fd : FuncData) (ps : List Str), Cls K C ∧ Meth K C m f ∧ FnOk P w K mg base CX0 k f fd ps sp ∧ Binds K fd ps []
structure Mak (P : Program) (w : World) (K : PySem.W.Frag) (mg : Str → Option Value) (base : Heap) (k : Nat) (x : Str) (C : Addr) (sp : Sp) : Prop where
  ex : ∃ (f : Addr) (fd : FuncData) (ps : List Str), Mk K C f ∧ FnOk P w K mg base CX0 k f fd ps sp ∧ mg x = some (.ref C) ∧ Binds K fd ps []
section
variable {P : Program} {w : World} {K : PySem.W.Frag} {mg : Str → Option Value} {base : Heap}
theorem DefAt.cal {x : Str} {st : Stmt} {N ps : List Str} {k : Nat} {sp : Sp} (d : DefAt K mg x st ps) (S : FnScope N ps (defScope st)) (len : ∀ vs H Q E, sp vs H Q E → vs.length = ps.length)
    (hbody : ∀ (f : Addr) (cdv : Value) (A : Around) (outer : List Env) (s : Shared) (H : Hp) (vs : List V) (Q : VK) (E : XK), Room k (A.deeper (envOfC x (defScope st) s.heap.objs.size f cdv)) → sp vs H Q E →
      ∃ t, PSs (cxOf CX0 P w K mg base N x (defScope st) f cdv A outer s H E).nox (defBody st) t ∧ t { nx := fun _ H' => Q .non H', rt := Q } (start N vs) H) : Cal P w K mg base (k + 1) x sp := by
  obtain ⟨f, fd, F, hm, b⟩ := d.ex
  exact ⟨f, fd, ps, F.ok S len (hbody f), hm, F.kp, b⟩
theorem MethAt.met {C : Addr} {m qual : Str} {st : Stmt} {N ps : List Str} {k : Nat} {sp : Sp} (c : Cls K C) (d : MethAt K C m qual st ps) (S : FnScope N ps (defScope st)) (len : ∀ vs H Q E, sp vs H Q E → vs.length = ps.length)
    (hbody : ∀ (f : Addr) (cdv : Value) (A : Around) (outer : List Env) (s : Shared) (H : Hp) (vs : List V) (Q : VK) (E : XK), Room k (A.deeper (envOfC qual (defScope st) s.heap.objs.size f cdv)) → sp vs H Q E →
      ∃ t, PSs (cxOf CX0 P w K mg base N qual (defScope st) f cdv A outer s H E).nox (defBody st) t ∧ t { nx := fun _ H' => Q .non H', rt := Q } (start N vs) H) : Met P w K mg base (k + 1) C m sp := by
  obtain ⟨f, fd, F, hm, b⟩ := d.ex
  exact ⟨f, fd, ps, c, hm, F.ok S len (hbody f), b⟩
theorem InitAt.mak {x : Str} {C : Addr} {qual : Str} {st : Stmt} {N ps : List Str} {k : Nat} {sp : Sp} (hx : mg x = some (.ref C)) (d : InitAt K C qual st ps) (S : FnScope N ps (defScope st)) (len : ∀ vs H Q E, sp vs H Q E → vs.length = ps.length)
    (hbody : ∀ (f : Addr) (cdv : Value) (A : Around) (outer : List Env) (s : Shared) (H : Hp) (vs : List V) (Q : VK) (E : XK), Room k (A.deeper (envOfC qual (defScope st) s.heap.objs.size f cdv)) → sp vs H Q E →
      ∃ t, PSs (cxOf CX0 P w K mg base N qual (defScope st) f cdv A outer s H E).nox (defBody st) t ∧ t { nx := fun _ H' => Q .non H', rt := Q } (start N vs) H) : Mak P w K mg base (k + 1) x C sp := by
  obtain ⟨f, fd, F, hm, b⟩ := d.ex
  exact ⟨f, fd, ps, hm, F.ok S len (hbody f), hx, b⟩
/-- a def that may raise -/
structure CalX (P : Program) (w : World) (K : PySem.W.Frag) (mg : Str → Option Value) (base : Heap) (k : Nat) (x : Str) (sp : Sp) : Prop where
  ex : ∃ (f : Addr) (fd : FuncData) (ps : List Str), FnOk P w K mg base (L2.CX P w) k f fd ps sp ∧ mg x = some (.ref f) ∧ PySem.W.keepIn K (.ref f) = true ∧ Binds K fd ps []
theorem DefAt.calX {x : Str} {st : Stmt} {N ps : List Str} {k : Nat} {sp : Sp} (d : DefAt K mg x st ps) (S : FnScope N ps (defScope st)) (len : ∀ vs H Q E, sp vs H Q E → vs.length = ps.length)
    (hbody : ∀ (f : Addr) (cdv : Value) (A : Around) (outer : List Env) (s : Shared) (H : Hp) (vs : List V) (Q : VK) (E : XK), Room k (A.deeper (envOfC x (defScope st) s.heap.objs.size f cdv)) → sp vs H Q E →
      ∃ t, PSs (cxOf (L2.CX P w) P w K mg base N x (defScope st) f cdv A outer s H E) (defBody st) t ∧ t { nx := fun _ H' => Q .non H', rt := Q } (start N vs) H) : CalX P w K mg base (k + 1) x sp := by
  obtain ⟨f, fd, F, hm, b⟩ := d.ex
  exact ⟨f, fd, ps, F.okX S len (hbody f), hm, F.kp, b⟩
end
section
variable {X : Cx} {k j : Nat} {C : Addr} {x m : Str} {sp : Sp} {p pos apos : Pos} {e o : Expr} {es : List Expr} {ta : TE} {t : TA}
theorem pe_c (c : Cal X.prog X.w X.K X.mg X.base k x sp) (hr : Room j X.A) (hk : k ≤ j) (hg : Gl X x) (ha : PA X (e :: es) t)
    (hdb : (x == ("__debug__" : Str)) = false := by decide) (he : starEach (e :: es) X.env = (false, eval e X.env) :: starEach es X.env := by rfl) (hpl : (backTo pos (starEach es X.env)).any (·.1) = false := by rfl) :
    PE X (.Call (.Name x p) (e :: es) [] pos) (tCall sp [] E0 t) := by
  obtain ⟨f, fd, ps, F, hm, kp, b⟩ := c.ex
  exact pe_call F (hr.mono hk) hg hm kp b .nil pass0 ha hdb he hpl
theorem pe_c0 (c : Cal X.prog X.w X.K X.mg X.base k x sp) (hr : Room j X.A) (hk : k ≤ j) (hg : Gl X x)
    (hdb : (x == ("__debug__" : Str)) = false := by decide) :
    PE X (.Call (.Name x p) [] [] pos) (tCall sp [] E0 tNil) := by
  obtain ⟨f, fd, ps, F, hm, kp, b⟩ := c.ex
  exact pe_call0 F (hr.mono hk) hg hm kp b .nil pass0 hdb
theorem pe_mk (c : Mak X.prog X.w X.K X.mg X.base k x C sp) (hr : Room j X.A) (hk : k + 1 ≤ j) (hg : Gl X x) (ha : PA X (e :: es) t)
    (hdb : (x == ("__debug__" : Str)) = false := by decide) (he : starEach (e :: es) X.env = (false, eval e X.env) :: starEach es X.env := by rfl) (hpl : (backTo pos (starEach es X.env)).any (·.1) = false := by rfl) :
    PE X (.Call (.Name x p) (e :: es) [] pos) (tMake C sp [] E0 t) := by
  obtain ⟨f, fd, ps, M, F, hm, b⟩ := c.ex
  exact pe_make M F (hr.mono hk) hg hm b .nil pass0 ha hdb he hpl
theorem pe_mt {pl : Sem Bool} (c : Met X.prog X.w X.K X.mg X.base k C m sp) (hr : Room j X.A) (hk : k ≤ j) (he : PE X o ta) (ha : PA X (e :: es) t)
    (hst : starEach (e :: es) X.env = (false, eval e X.env) :: starEach es X.env := by rfl) (hpl : (backTo pos (starEach es X.env)).any (·.1) = false := by rfl)
    (ht : eval (.Call (.Attribute o m apos) (e :: es) [] pos) X.env = (do
      let ov ← eval o X.env
      standAt apos.atName
      let (f, first) ← holding [ov] (getMethod ov m pl)
      callWith pos f first (backTo pos (starEach (e :: es) X.env)) (backToKw pos (keywordEach [] X.env))) := by rfl) :
    PE X (.Call (.Attribute o m apos) (e :: es) [] pos) (tMeth C m sp [] E0 ta t) := by
  obtain ⟨f, fd, ps, hc, hm, F, b⟩ := c.ex
  exact pe_meth (pl := pl) he hc hm F (hr.mono hk) b .nil pass0 ha hst hpl ht
theorem pe_mt0 {pl : Sem Bool} (c : Met X.prog X.w X.K X.mg X.base k C m sp) (hr : Room j X.A) (hk : k ≤ j) (he : PE X o ta)
    (ht : eval (.Call (.Attribute o m apos) [] [] pos) X.env = (do
      let ov ← eval o X.env
      standAt apos.atName
      let (f, first) ← holding [ov] (getMethod ov m pl)
      callWith pos f first (backTo pos (starEach [] X.env)) (backToKw pos (keywordEach [] X.env))) := by rfl) :
    PE X (.Call (.Attribute o m apos) [] [] pos) (tMeth C m sp [] E0 ta tNil) := by
  obtain ⟨f, fd, ps, hc, hm, F, b⟩ := c.ex
  exact pe_meth0 (pl := pl) he hc hm F (hr.mono hk) b .nil pass0 ht
/-- a call of a def that may raise, where nothing is raised -/
theorem pe_x0 (c : CalX X.prog X.w X.K X.mg X.base k x sp) (hr : Room j X.A) (hk : k ≤ j) (hg : Gl X x) (ha : PA X (e :: es) t)
    (hdb : (x == ("__debug__" : Str)) = false := by decide) (he : starEach (e :: es) X.env = (false, eval e X.env) :: starEach es X.env := by rfl) (hpl : (backTo pos (starEach es X.env)).any (·.1) = false := by rfl) :
    PE X (.Call (.Name x p) (e :: es) [] pos) (tCall sp [] E0 t) := by
  obtain ⟨f, fd, ps, F, hm, kp, b⟩ := c.ex
  exact pe_call F (hr.mono hk) hg hm kp b .nil passL ha hdb he hpl
end
/-- a built-in class as a value -/
theorem pe_ty {X : Cx} {x : Str} {pos : Pos} (n : String) (hg : Gl X x) (hm : X.mg x = none) (hv : bootBuiltins x = some (.type n)) (hn : x ≠ "__name__" := by decide) (hdb : (x == ("__debug__" : Str)) = false := by decide) : PE X (.Name x pos) (tC (.ty n)) :=
  pe_bltn hg hm hv rfl hn hdb
/-! ### heaps -/
theorem hp_new {H : Hp} {a b : Addr} {o o' : HO} (h : H a = none) (h' : H b = some o') : upd H a o b = some o' := by
  rw [upd_ne (ne_of_none h' h)]; exact h'
theorem hp_same {H H' : Hp} {b : Addr} {o : HO} (e : Same H H') (h : H b = some o) : H' b = some o := e b o h
theorem same_upd {H H' : Hp} {a : Addr} {o : HO} (e : Same H H') (h : H' a = none) : Same H (upd H' a o) := fun b o' q => hp_new h (e b o' q)
theorem same_new {H : Hp} {a : Addr} {o : HO} (h : H a = none) : Same H (upd H a o) := fun b o' q => hp_new h q
theorem cxOf_K {CX : CXT} {P : Program} {w : World} {K : PySem.W.Frag} {mg : Str → Option Value} {base : Heap} {N : List Str} {qual : Str} {scope : Scope} {f : Addr} {cd : Value} {A : Around} {outer : List Env} {s : Shared} {H : Hp} {E : XK} : (cxOf CX P w K mg base N qual scope f cd A outer s H E).nox.K = K := rfl
theorem cxOf_K' {CX : CXT} {P : Program} {w : World} {K : PySem.W.Frag} {mg : Str → Option Value} {base : Heap} {N : List Str} {qual : Str} {scope : Scope} {f : Addr} {cd : Value} {A : Around} {outer : List Env} {s : Shared} {H : Hp} {E : XK} : (cxOf CX P w K mg base N qual scope f cd A outer s H E).K = K := rfl
/-- a new tuple, a new list: all that stood stands -/
def NewT (H : Hp) (xs : List V) (Q : VK) : Prop := ∀ p H', H p = none → Same H H' → H' p = some (.tup xs) → Q (.ref p) H'
def NewL (H : Hp) (xs : List V) (Q : VK) : Prop := ∀ p H', H p = none → Same H H' → H' p = some (.lst xs) → Q (.ref p) H'
theorem NewT.at {H : Hp} {xs : List V} {Q : VK} (q : NewT H xs Q) (p : Addr) (h : H p = none) : Q (.ref p) (upd H p (.tup xs)) := q p _ h (same_new h) upd_same
theorem NewL.at {H : Hp} {xs : List V} {Q : VK} (q : NewL H xs Q) (p : Addr) (h : H p = none) : Q (.ref p) (upd H p (.lst xs)) := q p _ h (same_new h) upd_same
theorem NewT.of {H H' : Hp} {xs : List V} {Q : VK} (q : NewT H xs Q) (e : Same H H') : NewT H' xs Q := fun p H2 h s x => q p H2 (e.free h) (e.trans s) x
theorem NewL.of {H H' : Hp} {xs : List V} {Q : VK} (q : NewL H xs Q) (e : Same H H') : NewL H' xs Q := fun p H2 h s x => q p H2 (e.free h) (e.trans s) x
/-! ### readings by name -/
section
variable {X : Cx}
def aAdd (K : PySem.W.Frag) : R2 := fun x y H Q => rI0 (fun i j => .int (i + j)) x y H Q ∨ (∃ i j, x = .str i ∧ y = .str j ∧ i.length + j.length ≤ sizeLine ∧ Q (.str (i ++ j)) H) ∨ rCat x y H Q ∨ rCatA K x y H Q
theorem op_addA : OpR X (binaryOp .Add) (aAdd X.K) := op_add.or (op_add_str.or (op_cat.or op_catA))
def aMul : R2 := fun x y H Q => rI CMulW (fun i j => .int (i * j)) x y H Q ∨ rRep x y H Q
theorem op_mulA : OpR X (binaryOp .Mult) aMul := op_mulW.or op_rep
def aEq (K : PySem.W.Frag) : R2 := fun x y H Q => rEq x y H Q ∨ rEqD K x y H Q
theorem op_eqA {k : Nat} (hr : Room k X.A) : OpR X (compareOp .Eq) (aEq X.K) := op_eq.or (op_eqD hr.units)
def aNe (K : PySem.W.Frag) : R2 := fun x y H Q => rNe x y H Q ∨ rNeD K x y H Q
theorem op_neA {k : Nat} (hr : Room k X.A) : OpR X (compareOp .NotEq) (aNe X.K) := op_ne.or (op_neD hr.units)
def aLe : R2 := fun x y H Q => rI0 (fun i j => .bl (decide (i ≤ j))) x y H Q ∨ ∃ i j, x = .str i ∧ y = .str j ∧ Q (.bl (!decide (j.cps.toList < i.cps.toList))) H
theorem op_leA : OpR X (compareOp .LtE) aLe := op_le.or op_le_str
def aLt : R2 := fun x y H Q => rI0 (fun i j => .bl (decide (i < j))) x y H Q ∨ ∃ i j, x = .str i ∧ y = .str j ∧ Q (.bl (decide (i.cps.toList < j.cps.toList))) H
theorem op_ltA : OpR X (compareOp .Lt) aLt := op_lt.or op_lt_str
def aIn (K : PySem.W.Frag) : R2 := fun x y H Q => (∃ (c : Nat) (z : Str), x = .str ⟨#[c]⟩ ∧ y = .str z ∧ Q (.bl (decide (c ∈ z.cps.toList))) H) ∨ rIn K false x y H Q
theorem op_inA : OpR X (compareOp .In) (aIn X.K) := op_in_sign.or op_in_seq
def aNotIn (K : PySem.W.Frag) : R2 := fun x y H Q => (∃ (c : Nat) (z : Str), x = .str ⟨#[c]⟩ ∧ y = .str z ∧ Q (.bl (!decide (c ∈ z.cps.toList))) H) ∨ rIn K true x y H Q
theorem op_notInA : OpR X (compareOp .NotIn) (aNotIn X.K) := op_notIn_sign.or op_notIn_seq
def aLen (K : PySem.W.Frag) : List V → Hp → VK → Prop := fun xs H Q => (∃ p ys, xs = [.ref p] ∧ (SqL K H p ys ∨ SqT K H p ys) ∧ Q (.int ys.length) H) ∨ (∃ z, xs = [.str z] ∧ z.length ≤ sizeLine ∧ Q (.int z.length) H) ∨ (∃ a kvs, xs = [V.ref a] ∧ H a = some (.dK kvs) ∧ Q (.int kvs.length) H)
theorem call_lenA : CallR X (.builtin "len") (aLen X.K) := call_len_seq.or (call_len_str.or call_lenD)
def aAbs : List V → Hp → VK → Prop := fun xs H Q => ∃ i, xs = [.int i] ∧ Q (.int (if i < 0 then -i else i)) H
theorem call_absA : CallR X (.builtin "abs") aAbs := call_abs
def aMax2 : List V → Hp → VK → Prop := fun xs H Q => ∃ i j, xs = [.int i, .int j] ∧ Q (.int (if j > i then j else i)) H
theorem call_max2A (hc : X.calm = true) : CallR X (.builtin "max") aMax2 := call_max2 hc
def aMin2 : List V → Hp → VK → Prop := fun xs H Q => ∃ i j, xs = [.int i, .int j] ∧ Q (.int (if j < i then j else i)) H
theorem call_min2A (hc : X.calm = true) : CallR X (.builtin "min") aMin2 := call_min2 hc
def aInt1 : List V → Hp → VK → Prop := fun xs H Q => (∃ i, xs = [.int i] ∧ Q (.int i) H) ∨ ∃ k, xs = [.bl k] ∧ Q (.int (if k then 1 else 0)) H
theorem call_int1A : CallR X (.type "int") aInt1 := call_int1
def aStr1 : List V → Hp → VK → Prop := fun xs H Q => ∃ i, xs = [.int i] ∧ i.natAbs.log2 < 1920 ∧ Q (.str (toString i)) H
theorem call_str1A : CallR X (.type "str") aStr1 := call_str_int
def aList1 (K : PySem.W.Frag) : List V → Hp → VK → Prop := fun xs H Q => ∃ p ys, xs = [.ref p] ∧ (SqL K H p ys ∨ SqT K H p ys) ∧ ∀ l, H l = none → Q (.ref l) (upd H l (.lst ys))
theorem call_list1A : CallR X (.type "list") (aList1 X.K) := call_list_of
def aTuple1 (K : PySem.W.Frag) : List V → Hp → VK → Prop := fun xs H Q => ∃ p ys, xs = [.ref p] ∧ ((SqL K H p ys ∧ ∀ l, H l = none → Q (.ref l) (upd H l (.tup ys))) ∨ (SqT K H p ys ∧ Q (.ref p) H))
theorem call_tuple1A : CallR X (.type "tuple") (aTuple1 X.K) := call_tuple_of
def aTru (K : PySem.W.Frag) (ta : TE) : TT := fun σ H Q => ta σ H fun x H' => ∃ k, TruV K x H' k ∧ Q k H'
theorem pt_tru {a : Expr} {ta : TE} (ha : PE X a ta) (he : ∀ whole, isTrue a X.env whole = (do let v ← whole; standAt a.pos; holding [v] (truthy v))) : PT X a (aTru X.K ta) := pt_truth ha he
def aIsN : R2 := fun x y H Q => y = .non ∧ Q (.bl (decide (x = .non))) H
theorem op_isNA : OpR X (compareOp .Is) aIsN := op_isN
def aNotN : R2 := fun x y H Q => y = .non ∧ Q (.bl (!decide (x = .non))) H
theorem op_notNA : OpR X (compareOp .IsNot) aNotN := op_notN
end
/-! ### one step of a reading -/
section
variable {K : PySem.W.Frag} {σ : L2.St} {H : Hp} {D : Ends} {t u : TS} {c d : TT} {ta tb te tc : TE} {tr : TA} {Q : VK} {g : TG} {i j : Nat} {v x y : V} {r r' : R2}
theorem L_seq (h : t { D with nx := u D } σ H) : tSeq t u D σ H := h
theorem L_next (h : D.nx σ H) : tNext D σ H := h
theorem L_brk (h : D.bk σ H) : tBreak D σ H := h
theorem L_cont (h : D.ct σ H) : tCont D σ H := h
theorem L_ret (h : te σ H D.rt) : tRet te D σ H := h
theorem L_retN (h : D.rt .non H) : tRetN D σ H := h
theorem L_drop (h : te σ H fun _ H1 => D.nx σ H1) : tDrop te D σ H := h
theorem L_asg (h : te σ H fun x H1 => g x σ H1 D.nx) : tAsg te g D σ H := h
theorem L_gname {Q : L2.St → Hp → Prop} (h : Q (σ.set i (some v)) H) : gName i v σ H Q := h
theorem L_aug {ti : TIp} (hx : σ[i]? = some (some x)) (h : te σ H fun y H1 => ti x y H1 fun z H2 => D.nx (σ.set i (some z)) H2) : tAug i te ti D σ H := ⟨x, hx, h⟩
theorem L_ipI {f : Int → Int → Int} {a b : Int} (h : Q (.int (f a b)) H) : ipI f (.int a) (.int b) H Q := ⟨a, b, rfl, rfl, h⟩
theorem L_ifS (h : c σ H fun b H1 => if b = true then t D σ H1 else u D σ H1) : tIfS c t u D σ H := h
theorem L_par (h : tr σ H fun vs H1 => ∃ v w, vs = [v, w] ∧ D.nx ((σ.set i (some v)).set j (some w)) H1) : tPar i j tr D σ H := h
theorem L_par3 {l : Nat} (h : tr σ H fun vs H1 => ∃ u v w, vs = [u, v, w] ∧ D.nx (((σ.set i (some u)).set j (some v)).set l (some w)) H1) : tPar3 i j l tr D σ H := h
theorem L_vs2 {Q : V → V → Prop} (h : Q x y) : ∃ v w, [x, y] = [v, w] ∧ Q v w := ⟨x, y, rfl, h⟩
theorem L_vs3 {z : V} {Q : V → V → V → Prop} (h : Q x y z) : ∃ u v w, [x, y, z] = [u, v, w] ∧ Q u v w := ⟨x, y, z, rfl, h⟩
theorem L_var (h : σ[i]? = some (some v)) (q : Q v H) : tVar i σ H Q := ⟨v, h, q⟩
theorem L_c (q : Q v H) : tC v σ H Q := q
theorem L_op (h : ta σ H fun x H1 => tb σ H1 fun y H2 => r x y H2 Q) : tOp r ta tb σ H Q := h
theorem L_un {r : V → Hp → VK → Prop} (h : ta σ H fun x H1 => r x H1 Q) : tUn r ta σ H Q := h
theorem L_rU {g : Int → V} {i : Int} (q : Q (g i) H) : rU g (.int i) H Q := ⟨i, rfl, q⟩
theorem L_I0 {g : Int → Int → V} {i j : Int} (q : Q (g i j) H) : rI0 g (.int i) (.int j) H Q := ⟨i, j, rfl, rfl, q⟩
theorem L_I {C : Int → Int → Prop} {g : Int → Int → V} {i j : Int} (hc : C i j) (q : Q (g i j) H) : rI C g (.int i) (.int j) H Q := ⟨i, j, rfl, rfl, hc, q⟩
theorem L_addI {i j : Int} (q : Q (.int (i + j)) H) : aAdd K (.int i) (.int j) H Q := .inl ⟨i, j, rfl, rfl, q⟩
theorem L_addS {a b : Str} (hl : a.length + b.length ≤ sizeLine) (q : Q (.str (a ++ b)) H) : aAdd K (.str a) (.str b) H Q := .inr (.inl ⟨a, b, rfl, rfl, hl, q⟩)
theorem L_addL {a b : Addr} {xs ys : List V} (ha : H a = some (.lst xs)) (hb : H b = some (.lst ys)) (hl : xs.length + ys.length ≤ sizeLine) (q : ∀ p, H p = none → Q (.ref p) (upd H p (.lst (xs ++ ys)))) : aAdd K (.ref a) (.ref b) H Q := .inr (.inr (.inl ⟨a, b, xs, ys, rfl, rfl, ha, hb, hl, q⟩))
theorem L_mulI {i j : Int} (hc : CMulW i j) (q : Q (.int (i * j)) H) : aMul (.int i) (.int j) H Q := .inl ⟨i, j, rfl, rfl, hc, q⟩
theorem L_eqI {i j : Int} (q : Q (.bl (decide (i = j))) H) : aEq K (.int i) (.int j) H Q := .inl ⟨rfl, by rw [show decide (V.int i = V.int j) = decide (i = j) by simp]; exact q⟩
theorem L_eqS {i j : Str} (q : Q (.bl (decide (i = j))) H) : aEq K (.str i) (.str j) H Q := .inl ⟨rfl, by rw [show decide (V.str i = V.str j) = decide (i = j) by simp]; exact q⟩
theorem L_eqB {i j : Bool} (q : Q (.bl (decide (i = j))) H) : aEq K (.bl i) (.bl j) H Q := .inl ⟨rfl, by rw [show decide (V.bl i = V.bl j) = decide (i = j) by simp]; exact q⟩
theorem L_neI {i j : Int} (q : Q (.bl (!decide (i = j))) H) : aNe K (.int i) (.int j) H Q := .inl ⟨rfl, by rw [show decide (V.int i = V.int j) = decide (i = j) by simp]; exact q⟩
theorem L_neS {i j : Str} (q : Q (.bl (!decide (i = j))) H) : aNe K (.str i) (.str j) H Q := .inl ⟨rfl, by rw [show decide (V.str i = V.str j) = decide (i = j) by simp]; exact q⟩
theorem L_eqD {d e : PyData} (hx : Dp K H x d) (hy : Dp K H y e) (sd : SeqAt.shaped d = true) (se : SeqAt.shaped e = true) (q : Q (.bl (PyData.eqv d e)) H) : aEq K x y H Q := .inr ⟨d, e, hx, hy, sd, se, q⟩
theorem L_neD {d e : PyData} (hx : Dp K H x d) (hy : Dp K H y e) (sd : SeqAt.shaped d = true) (se : SeqAt.shaped e = true) (q : Q (.bl (!PyData.eqv d e)) H) : aNe K x y H Q := .inr ⟨d, e, hx, hy, sd, se, q⟩
theorem L_leI {i j : Int} (q : Q (.bl (decide (i ≤ j))) H) : aLe (.int i) (.int j) H Q := .inl ⟨i, j, rfl, rfl, q⟩
theorem L_leS {i j : Str} (q : Q (.bl (!decide (j.cps.toList < i.cps.toList))) H) : aLe (.str i) (.str j) H Q := .inr ⟨i, j, rfl, rfl, q⟩
theorem L_ltI {i j : Int} (q : Q (.bl (decide (i < j))) H) : aLt (.int i) (.int j) H Q := .inl ⟨i, j, rfl, rfl, q⟩
theorem L_isN (q : Q (.bl (decide (x = .non))) H) : aIsN x .non H Q := ⟨rfl, q⟩
theorem L_notN (q : Q (.bl (!decide (x = .non))) H) : aNotN x .non H Q := ⟨rfl, q⟩
theorem L_inC {a : Nat} {z : Str} (q : Q (.bl (decide (a ∈ z.cps.toList))) H) : aIn K (.str ⟨#[a]⟩) (.str z) H Q := .inl ⟨a, z, rfl, rfl, q⟩
theorem L_notInC {a : Nat} {z : Str} (q : Q (.bl (!decide (a ∈ z.cps.toList))) H) : aNotIn K (.str ⟨#[a]⟩) (.str z) H Q := .inl ⟨a, z, rfl, rfl, q⟩
theorem L_fld {f : Str} (h : ta σ H fun x H1 => ∃ a C dx fs v, x = .ref a ∧ H1 a = some (.ins C dx fs) ∧ Cls K C ∧ NoAttr K C f ∧ fs.lookup f = some v ∧ Q v H1) : tFld K ta f σ H Q := h
theorem L_fldv {a C dx : Addr} {fs : List (Str × V)} {f : Str} {Q : V → Prop} (h : H a = some (.ins C dx fs)) (cl : Cls K C) (n : NoAttr K C f) (l : fs.lookup f = some v) (q : Q v) :
    ∃ a' C dx fs v, V.ref a = V.ref a' ∧ H a' = some (.ins C dx fs) ∧ Cls K C ∧ NoAttr K C f ∧ fs.lookup f = some v ∧ Q v := ⟨a, C, dx, fs, v, rfl, h, cl, n, l, q⟩
theorem L_tTest {Q : Bool → Hp → Prop} (h : te σ H fun x H' => ∃ k, x = .bl k ∧ Q k H') : tTest te σ H Q := h
theorem L_tB {Q : Bool → Hp → Prop} (h : te σ H fun x H' => ∃ k, x = .bl k ∧ Q k H') : tB te σ H Q := h
theorem L_k {b : Bool} {Q : Bool → Prop} (q : Q b) : ∃ k, V.bl b = V.bl k ∧ Q k := ⟨b, rfl, q⟩
theorem L_tru {Q : Bool → Hp → Prop} (h : te σ H fun x H' => ∃ k, TruV K x H' k ∧ Q k H') : aTru K te σ H Q := h
theorem L_truB {b : Bool} {Q : Bool → Prop} (q : Q b) : ∃ k, TruV K (.bl b) H k ∧ Q k := ⟨b, rfl, q⟩
theorem L_truI {i : Int} {Q : Bool → Prop} (q : Q (i != 0)) : ∃ k, TruV K (.int i) H k ∧ Q k := ⟨_, rfl, q⟩
theorem L_and {Q : Bool → Hp → Prop} (h : c σ H fun b H1 => if b = true then d σ H1 Q else Q false H1) : tAnd c d σ H Q := h
theorem L_or {Q : Bool → Hp → Prop} (h : c σ H fun b H1 => if b = true then Q true H1 else d σ H1 Q) : tOr c d σ H Q := h
theorem L_not {Q : Bool → Hp → Prop} (h : c σ H fun b H1 => Q (!b) H1) : tNot c σ H Q := h
theorem L_andV (h : ta σ H fun x H1 => ∃ c, x = .bl c ∧ if c = true then tb σ H1 Q else Q (.bl false) H1) : tAndV ta tb σ H Q := h
theorem L_orV (h : ta σ H fun x H1 => ∃ c, x = .bl c ∧ if c = true then Q (.bl true) H1 else tb σ H1 Q) : tOrV ta tb σ H Q := h
theorem L_notV (h : ta σ H fun x H1 => ∃ c, x = .bl c ∧ Q (.bl (!c)) H1) : tNotV ta σ H Q := h
theorem L_ifE (h : c σ H fun b H1 => if b = true then ta σ H1 Q else tb σ H1 Q) : tIf c ta tb σ H Q := h
theorem L_chain (h : ta σ H fun x H1 => tb σ H1 fun y H2 => r x y H2 fun z H3 => ∃ k, z = .bl k ∧ (if k = true then tc σ H3 fun w' H4 => r' y w' H4 Q else Q (.bl false) H3)) : tChain r r' ta tb tc σ H Q := h
theorem L_T {A B : Prop} (a : A) : if true = true then A else B := by rw [if_pos rfl]; exact a
theorem L_F {A B : Prop} (b : B) : if false = true then A else B := by rw [if_neg Bool.false_ne_true]; exact b
theorem L_dT {p : Prop} [Decidable p] {A B : Prop} (h : p) (a : A) : if decide p = true then A else B := by rw [decide_eq_true h]; exact L_T a
theorem L_dF {p : Prop} [Decidable p] {A B : Prop} (h : ¬ p) (b : B) : if decide p = true then A else B := by rw [decide_eq_false h]; exact L_F b
theorem L_d {p : Prop} [Decidable p] {A B : Prop} (a : p → A) (b : ¬ p → B) : if decide p = true then A else B := by
  by_cases h : p
  · exact L_dT h (a h)
  · exact L_dF h (b h)
theorem L_nd {p : Prop} [Decidable p] {A B : Prop} (a : ¬ p → A) (b : p → B) : if (!decide p) = true then A else B := by
  by_cases h : p
  · rw [decide_eq_true h]; exact L_F (b h)
  · rw [decide_eq_false h]; exact L_T (a h)
theorem L_ndT {p : Prop} [Decidable p] {A B : Prop} (h : ¬ p) (a : A) : if (!decide p) = true then A else B := by rw [decide_eq_false h]; exact L_T a
theorem L_ndF {p : Prop} [Decidable p] {A B : Prop} (h : p) (b : B) : if (!decide p) = true then A else B := by rw [decide_eq_true h]; exact L_F b
theorem L_b {k : Bool} {A B : Prop} (a : k = true → A) (b : k = false → B) : if k = true then A else B := by
  cases k with
  | true => exact L_T (a rfl)
  | false => exact L_F (b rfl)
theorem L_nT {A B : Prop} (b : B) : if (!true) = true then A else B := L_F b
theorem L_nF {A B : Prop} (a : A) : if (!false) = true then A else B := L_T a
theorem L_nil {Q : List V → Hp → Prop} (q : Q [] H) : tNil σ H Q := q
theorem L_cons {Q : List V → Hp → Prop} (h : ta σ H fun x H1 => tr σ H1 fun xs H2 => Q (x :: xs) H2) : tCons ta tr σ H Q := h
theorem L_tup (h : tr σ H fun xs H1 => xs.length ≤ sizeLine ∧ ∀ p, H1 p = none → Q (.ref p) (upd H1 p (.tup xs))) : tTup tr σ H Q := h
theorem L_lst (h : tr σ H fun xs H1 => xs.length ≤ sizeLine ∧ ∀ p, H1 p = none → Q (.ref p) (upd H1 p (.lst xs))) : tLst tr σ H Q := h
theorem L_new {n : Nat} {R : Prop} (hl : n ≤ sizeLine) (q : R) : n ≤ sizeLine ∧ R := ⟨hl, q⟩
theorem L_call {sp : Sp} {E : XK} (h : tr σ H fun vs H1 => sp vs H1 Q E) : tCall sp [] E tr σ H Q := by
  unfold tCall
  simp only [List.append_nil]
  exact h
theorem L_cb {r : List V → Hp → VK → Prop} (h : tr σ H fun vs H1 => r vs H1 Q) : tCB r tr σ H Q := h
theorem L_lenL {a : Addr} {xs : List V} (h : SqL K H a xs) (q : Q (.int xs.length) H) : aLen K [.ref a] H Q := .inl ⟨a, xs, rfl, .inl h, q⟩
theorem L_lenT {a : Addr} {xs : List V} (h : SqT K H a xs) (q : Q (.int xs.length) H) : aLen K [.ref a] H Q := .inl ⟨a, xs, rfl, .inr h, q⟩
theorem L_lenS {z : Str} (h : z.length ≤ sizeLine) (q : Q (.int z.length) H) : aLen K [.str z] H Q := .inr (.inl ⟨z, rfl, h, q⟩)
theorem L_abs {i : Int} (q : Q (.int (if i < 0 then -i else i)) H) : aAbs [.int i] H Q := ⟨i, rfl, q⟩
theorem L_max2 {i j : Int} (q : Q (.int (max i j)) H) : aMax2 [.int i, .int j] H Q := ⟨i, j, rfl, by rw [show (if j > i then j else i) = max i j by omega]; exact q⟩
theorem L_min2 {i j : Int} (q : Q (.int (min i j)) H) : aMin2 [.int i, .int j] H Q := ⟨i, j, rfl, by rw [show (if j < i then j else i) = min i j by omega]; exact q⟩
theorem L_int1 {i : Int} (q : Q (.int i) H) : aInt1 [.int i] H Q := .inl ⟨i, rfl, q⟩
theorem L_int1B {k : Bool} (q : Q (.int (if k then 1 else 0)) H) : aInt1 [.bl k] H Q := .inr ⟨k, rfl, q⟩
theorem L_isi {a n : String} {b : Bool} (hx : TyX K H x (.type a)) (hk : kitB a n = some b) (q : Q (.bl b) H) : rIsi K [x, .ty n] H Q := ⟨x, .ty n, .type a, .type n, b, rfl, .ty n, hx, kit_ty hk, q⟩
theorem L_ixL {p : Addr} {xs : List V} {i : Int} (h : SqL K H p xs) (ha : atI xs i = some v) (q : Q v H) : rIx K (.ref p) (.int i) H Q := .inl ⟨p, xs, i, v, rfl, rfl, h, ha, q⟩
theorem L_ixT {p : Addr} {xs : List V} {i : Int} (h : SqT K H p xs) (ha : atI xs i = some v) (q : Q v H) : rIx K (.ref p) (.int i) H Q := .inr (.inl ⟨p, xs, i, v, rfl, rfl, h, ha, q⟩)
theorem L_ixS {z : Str} {i : Int} {a : Nat} (h : z.length ≤ sizeLine) (ha : atI z.cps.toList i = some a) (q : Q (.str ⟨#[a]⟩) H) : rIx K (.str z) (.int i) H Q := .inr (.inr ⟨z, i, a, rfl, rfl, h, ha, q⟩)
theorem L_bm {T : String} {r : V → List V → Hp → VK → Prop} (h : te σ H fun x H1 => tyV K T x H1 ∧ tr σ H1 fun xs H2 => r x xs H2 Q) : tBM K T r te tr σ H Q := h
theorem L_tyL {a : Addr} {xs : List V} {R : Prop} (h : SqL K H a xs) (q : R) : tyV K "list" (.ref a) H ∧ R := ⟨.inl ⟨rfl, xs, h⟩, q⟩
theorem L_app {a : Addr} {xs : List V} (h : H a = some (.lst xs)) (hl : xs.length < sizeLine) (q : Q .non (upd H a (.lst (xs ++ [v])))) : rAppend (.ref a) [v] H Q := ⟨a, xs, v, rfl, rfl, h, hl, q⟩
theorem L_sum {a : Addr} {ns : List Int} (h : SqL K H a (ns.map V.int)) (q : Q (.int ns.sum) H) : rSum K [.ref a] H Q := ⟨a, ns, rfl, h, q⟩
theorem L_while (W : Nat → L2.St → Hp → Prop) (h0 : ∃ m, W m σ H) (hs : ∀ m σ H, W m σ H → c σ H fun b H1 => if b = true then ∃ N : L2.St → Hp → Prop, (∀ σ' H', N σ' H' → ∃ m', m' < m ∧ W m' σ' H') ∧ t { D with nx := N, ct := N, bk := D.nx } σ H1 else D.nx σ H1) : tWhile c t D σ H := ⟨W, h0, hs⟩
theorem L_N {W : Nat → L2.St → Hp → Prop} {m : Nat} (h : t { D with nx := fun σ' H' => ∃ m', m' < m ∧ W m' σ' H', ct := fun σ' H' => ∃ m', m' < m ∧ W m' σ' H', bk := D.nx } σ H) :
    ∃ N : L2.St → Hp → Prop, (∀ σ' H', N σ' H' → ∃ m', m' < m ∧ W m' σ' H') ∧ t { D with nx := N, ct := N, bk := D.nx } σ H := ⟨_, fun _ _ h => h, h⟩
theorem L_cut {Mid : L2.St → Hp → Prop} (h : t { D with nx := Mid } σ H) (k : ∀ σ' H', Mid σ' H' → u D σ' H') : Evl.tCut t u D σ H := ⟨Mid, h, k⟩
theorem L_for {wi : TI} (h : wi σ H fun J H1 => ∃ W : Nat → Nat → L2.St → Hp → Prop, (∃ m, W 0 m σ H1) ∧ ∀ i m σ H, W i m σ H →
      (J.stop i H ∧ D.nx σ H) ∨ (J.go i H ∧ ∃ N : L2.St → Hp → Prop, (∀ σ' H', N σ' H' → ∃ m', m' < m ∧ W (i + 1) m' σ' H') ∧ ∀ x H', J.yld i H x H' → g x σ H' fun σ2 H2 => t { D with nx := N, ct := N, bk := D.nx } σ2 H2)) : tFor wi g t D σ H := h
theorem L_iRng1 {R : It → Hp → Prop} (h : tr σ H fun vs H1 => ∃ j : Int, vs = [.int j] ∧ -(2 ^ 62) ≤ j ∧ j < 2 ^ 62 ∧ R (Itr 0 j.toNat) H1) : iRng1 tr σ H R := h
theorem L_iRng2 {R : It → Hp → Prop} (h : tr σ H fun vs H1 => ∃ i j : Int, vs = [.int i, .int j] ∧ (-(2 ^ 62) ≤ i ∧ i < 2 ^ 62 ∧ -(2 ^ 62) ≤ j ∧ j < 2 ^ 62) ∧ R (Itr i (j - i).toNat) H1) : iRng2 tr σ H R := h
theorem L_iList {R : It → Hp → Prop} (h : te σ H fun x H1 => ∃ a, x = .ref a ∧ (∃ xs, SqL K H1 a xs) ∧ R (Itl K a) H1) : iList K te σ H R := h
theorem L_iTup {R : It → Hp → Prop} (h : te σ H fun x H1 => ∃ a, x = .ref a ∧ (∃ xs, SqT K H1 a xs) ∧ R (Itt K a) H1) : iTup K te σ H R := h
theorem L_r1 {n : Int} {R : It → Prop} (h1 : -(2 ^ 62) ≤ n) (h2 : n < 2 ^ 62) (q : R (Itr 0 n.toNat)) : ∃ j : Int, [V.int n] = [V.int j] ∧ -(2 ^ 62) ≤ j ∧ j < 2 ^ 62 ∧ R (Itr 0 j.toNat) := ⟨n, rfl, h1, h2, q⟩
theorem L_r2 {a n : Int} {R : It → Prop} (h : -(2 ^ 62) ≤ a ∧ a < 2 ^ 62 ∧ -(2 ^ 62) ≤ n ∧ n < 2 ^ 62) (q : R (Itr a (n - a).toNat)) : ∃ i j : Int, [V.int a, V.int n] = [V.int i, V.int j] ∧ (-(2 ^ 62) ≤ i ∧ i < 2 ^ 62 ∧ -(2 ^ 62) ≤ j ∧ j < 2 ^ 62) ∧ R (Itr i (j - i).toNat) := ⟨a, n, rfl, h, q⟩
theorem L_rl {a : Addr} {xs : List V} {R : It → Prop} (h : SqL K H a xs) (q : R (Itl K a)) : ∃ b, V.ref a = V.ref b ∧ (∃ xs, SqL K H b xs) ∧ R (Itl K b) := ⟨a, rfl, ⟨xs, h⟩, q⟩
theorem L_rt {a : Addr} {xs : List V} {R : It → Prop} (h : SqT K H a xs) (q : R (Itt K a)) : ∃ b, V.ref a = V.ref b ∧ (∃ xs, SqT K H b xs) ∧ R (Itt K b) := ⟨a, rfl, ⟨xs, h⟩, q⟩
end
theorem sz_dec {n : Nat} (h : n ≤ 1000000) : n ≤ sizeLine := Nat.le_trans h (by decide)
theorem sz_lt {n : Nat} (h : n < 1000000) : n < sizeLine := Nat.lt_of_lt_of_le h (by decide)
/-! ### sizes of ints -/
/-- less than n bits -/
def Bd (n : Nat) (i : Int) : Prop := i.natAbs < 2 ^ n
theorem Bd.mono {n m : Nat} {i : Int} (h : Bd n i) (hm : n ≤ m) : Bd m i := Nat.lt_of_lt_of_le h (Nat.pow_le_pow_right (by decide) hm)
theorem Bd.mul {n m : Nat} {i j : Int} (h : Bd n i) (k : Bd m j) : Bd (n + m) (i * j) := wide_lt h k
theorem Bd.add {n m : Nat} {i j : Int} (h : Bd n i) (k : Bd m j) : Bd (max n m + 1) (i + j) := by
  have a := h.mono (Nat.le_max_left n m)
  have b := k.mono (Nat.le_max_right n m)
  unfold Bd at *
  rw [Nat.pow_succ]
  have := Int.natAbs_add_le i j
  omega
theorem Bd.neg {n : Nat} {i : Int} (h : Bd n i) : Bd n (-i) := by unfold Bd at *; rw [Int.natAbs_neg]; exact h
theorem Bd.sub {n m : Nat} {i j : Int} (h : Bd n i) (k : Bd m j) : Bd (max n m + 1) (i - j) := by
  rw [Int.sub_eq_add_neg]; exact h.add k.neg
theorem Bd.cmul {n m : Nat} {i j : Int} (h : Bd n i) (k : Bd m j) (hz : n + m + 2 ≤ 1000000 := by decide) : CMulW i j :=
  wide_mul (h.mono (Nat.le_succ n)) (k.mono (Nat.le_succ m)) (Nat.succ_pos _) (Nat.succ_pos _) (by omega)
theorem Bd.cdiv {n : Nat} {i j : Int} (k : Bd n j) (h : 0 < j) (hz : n + 1 ≤ 9000 := by decide) : CDivW i j := wide_div h (k.mono (Nat.le_succ n)) (Nat.succ_pos _) hz
theorem bd_lit {i : Int} (h : -4294967296 < i ∧ i < 4294967296) : Bd 32 i := by
  unfold Bd
  have : (2 : Nat) ^ 32 = 4294967296 := by decide
  omega
theorem bd_64 {i : Int} (h : -18446744073709551616 < i ∧ i < 18446744073709551616) : Bd 64 i := by
  unfold Bd
  have : (2 : Nat) ^ 64 = 18446744073709551616 := by decide
  omega
/-- an item of the script, or what stands in its place -/
def cellAt (ns : List Int) (k d : Int) : Int := if k < (ns.length : Int) then ns.getD k.toNat 0 else d
theorem cellAt_in {ns : List Int} {k d : Int} (h0 : 0 ≤ k) (h : k < (ns.length : Int)) : atI (ns.map V.int) k = some (V.int (cellAt ns k d)) := by
  obtain ⟨j, rfl⟩ : ∃ j : Nat, k = (j : Int) := ⟨k.toNat, by omega⟩
  have hl : j < ns.length := by omega
  unfold cellAt
  rw [if_pos h]
  refine atI_nat ?_
  rw [List.getElem?_map, List.getElem?_eq_getElem hl]
  simp [List.getD, List.getElem?_eq_getElem hl]
theorem cellAt_out {ns : List Int} {k d : Int} (h : ¬ k < (ns.length : Int)) : cellAt ns k d = d := if_neg h
theorem cellAt_mem {ns : List Int} {k d : Int} (h0 : 0 ≤ k) : cellAt ns k d ∈ ns ∨ cellAt ns k d = d := by
  unfold cellAt
  split
  · rename_i h
    have hl : k.toNat < ns.length := by omega
    left
    simp [List.getD, List.getElem?_eq_getElem hl]
  · exact .inr rfl
theorem _root_.L2.Same.seqT {K : PySem.W.Frag} {H H' : Hp} {a : Addr} {xs : List V} (e : Same H H') (h : SqT K H a xs) : SqT K H' a xs := by
  rcases h with (h | ⟨o, h⟩) | h
  · exact .inl (.inl (e _ _ h))
  · exact .inl (.inr ⟨o, e _ _ h⟩)
  · exact .inr h
end Kt
set_option Elab.async false
set_option linter.all false
set_option maxRecDepth 100000
set_option maxHeartbeats 4000000
namespace My
open PySem PySem.Spec PyProof.Rows L2 Kt
/-! one step of a reading; a look at the heap -/
local macro_rules | `(tactic| walk_at "hp") => `(tactic| first
  | assumption
  | exact upd_same
  | (with_reducible refine SqL.of ?_; walk_at "hp")
  | (with_reducible refine SqT.of ?_; walk_at "hp")
  | (with_reducible refine hp_new (by assumption) ?_; walk_at "hp")
  | (with_reducible refine hp_same (by assumption) ?_; walk_at "hp"))
local macro_rules | `(tactic| walk_at "st") => `(tactic| with_reducible first
  | refine L_var rfl ?_
  | refine L_c ?_
  | refine L_op ?_
  | refine L_seq ?_
  | refine L_asg ?_
  | refine L_gname ?_
  | refine L_I0 ?_
  | refine L_addI ?_
  | refine L_cons ?_
  | refine L_nil ?_
  | refine L_ret ?_
  | refine L_ifS ?_
  | refine L_tTest ?_
  | refine L_tB ?_
  | refine L_k ?_
  | refine L_T ?_
  | refine L_F ?_
  | refine L_nT ?_
  | refine L_nF ?_
  | refine L_next ?_
  | refine L_call ?_
  | refine L_cb ?_
  | refine L_eqI ?_
  | refine L_neI ?_
  | refine L_eqS ?_
  | refine L_neS ?_
  | refine L_eqB ?_
  | refine L_leI ?_
  | refine L_ltI ?_
  | refine L_leS ?_
  | refine L_isN ?_
  | refine L_notN ?_
  | refine L_inC ?_
  | refine L_notInC ?_
  | refine L_tup ?_
  | refine L_lst ?_
  | refine L_fld ?_
  | refine L_un ?_
  | refine L_rU ?_
  | refine L_and ?_
  | refine L_or ?_
  | refine L_not ?_
  | refine L_andV ?_
  | refine L_orV ?_
  | refine L_notV ?_
  | refine L_ifE ?_
  | refine L_chain ?_
  | refine L_drop ?_
  | refine L_par ?_
  | refine L_par3 ?_
  | refine L_vs2 ?_
  | refine L_vs3 ?_
  | refine L_aug rfl ?_
  | refine L_ipI ?_
  | refine L_retN ?_
  | refine L_brk ?_
  | refine L_cont ?_
  | refine L_tru ?_
  | refine L_truB ?_
  | refine L_truI ?_
  | refine L_bm ?_
  | refine L_abs ?_
  | refine L_max2 ?_
  | refine L_min2 ?_
  | refine L_int1 ?_
  | refine L_int1B ?_
  | refine L_for ?_
  | refine L_iRng1 ?_
  | refine L_iRng2 ?_
  | refine L_iList ?_
  | refine L_iTup ?_)
local macro_rules | `(tactic| walk_at "sts") => `(tactic| repeat walk_at "st")

def top (i : Nat) : Stmt := PySem.Challenge.pw_fewspeak_k11_fractions.main.body.getD i (.Pass ⟨0, 0, 0, 0⟩)
abbrev s_divisor : Stmt := top 1
abbrev s_share : Stmt := top 2
abbrev s_plus : Stmt := top 3
abbrev s_minus : Stmt := top 4
abbrev s_times : Stmt := top 5
abbrev s_over : Stmt := top 6
abbrev s_below : Stmt := top 7
abbrev s__law_cell : Stmt := top 9
abbrev s__law_whole : Stmt := top 13
abbrev s__law_divisor : Stmt := top 14
abbrev s__law_lowest : Stmt := top 15
abbrev s__law_fraction : Stmt := top 16
abbrev s__law_is : Stmt := top 17
abbrev s__law_truth : Stmt := top 18
abbrev s_law : Stmt := top 19
theorem sc_divisor : FnScope ["one", "other"] ["one", "other"] (defScope s_divisor) := ⟨rfl, rfl, rfl, by decide +kernel, rfl, by decide +kernel, by decide +kernel⟩
theorem sc_share : FnScope ["top", "bottom", "many"] ["top", "bottom"] (defScope s_share) := ⟨rfl, rfl, rfl, by decide +kernel, rfl, by decide +kernel, by decide +kernel⟩
theorem sc_plus : FnScope ["one", "other"] ["one", "other"] (defScope s_plus) := ⟨rfl, rfl, rfl, by decide +kernel, rfl, by decide +kernel, by decide +kernel⟩
theorem sc_minus : FnScope ["one", "other"] ["one", "other"] (defScope s_minus) := ⟨rfl, rfl, rfl, by decide +kernel, rfl, by decide +kernel, by decide +kernel⟩
theorem sc_times : FnScope ["one", "other"] ["one", "other"] (defScope s_times) := ⟨rfl, rfl, rfl, by decide +kernel, rfl, by decide +kernel, by decide +kernel⟩
theorem sc_over : FnScope ["one", "other"] ["one", "other"] (defScope s_over) := ⟨rfl, rfl, rfl, by decide +kernel, rfl, by decide +kernel, by decide +kernel⟩
theorem sc_below : FnScope ["one", "other"] ["one", "other"] (defScope s_below) := ⟨rfl, rfl, rfl, by decide +kernel, rfl, by decide +kernel, by decide +kernel⟩
theorem sc__law_cell : FnScope ["_law_script", "_law_k"] ["_law_script", "_law_k"] (defScope s__law_cell) := ⟨rfl, rfl, rfl, by decide +kernel, rfl, by decide +kernel, by decide +kernel⟩
theorem sc__law_whole : FnScope ["_law_found"] ["_law_found"] (defScope s__law_whole) := ⟨rfl, rfl, rfl, by decide +kernel, rfl, by decide +kernel, by decide +kernel⟩
theorem sc__law_divisor : FnScope ["_law_one", "_law_other"] ["_law_one", "_law_other"] (defScope s__law_divisor) := ⟨rfl, rfl, rfl, by decide +kernel, rfl, by decide +kernel, by decide +kernel⟩
theorem sc__law_lowest : FnScope ["_law_top", "_law_bottom", "_law_many"] ["_law_top", "_law_bottom"] (defScope s__law_lowest) := ⟨rfl, rfl, rfl, by decide +kernel, rfl, by decide +kernel, by decide +kernel⟩
theorem sc__law_fraction : FnScope ["_law_one", "_law_other", "_law_far"] ["_law_one", "_law_other"] (defScope s__law_fraction) := ⟨rfl, rfl, rfl, by decide +kernel, rfl, by decide +kernel, by decide +kernel⟩
theorem sc__law_is : FnScope ["_law_found", "_law_top", "_law_bottom"] ["_law_found", "_law_top", "_law_bottom"] (defScope s__law_is) := ⟨rfl, rfl, rfl, by decide +kernel, rfl, by decide +kernel, by decide +kernel⟩
theorem sc__law_truth : FnScope ["_law_found", "_law_due"] ["_law_found", "_law_due"] (defScope s__law_truth) := ⟨rfl, rfl, rfl, by decide +kernel, rfl, by decide +kernel, by decide +kernel⟩
theorem sc_law : FnScope ["_law_script", "_law_one", "_law_other", "_law_many", "_law_bottom", "_law_less", "_law_more"] ["_law_script"] (defScope s_law) := ⟨rfl, rfl, rfl, by decide +kernel, rfl, by decide +kernel, by decide +kernel⟩
/-- what the top has written -/
structure Txt (K : PySem.W.Frag) (mg : Str → Option Value) : Prop where
  n_abs : mg "abs" = none
  n_len : mg "len" = none
  n_bool : mg "bool" = none
  n_int : mg "int" = none
  n_isinstance : mg "isinstance" = none
  n_tuple : mg "tuple" = none
  d_divisor : DefAt K mg "divisor" s_divisor ["one", "other"]
  d_share : DefAt K mg "share" s_share ["top", "bottom"]
  d_plus : DefAt K mg "plus" s_plus ["one", "other"]
  d_minus : DefAt K mg "minus" s_minus ["one", "other"]
  d_times : DefAt K mg "times" s_times ["one", "other"]
  d_over : DefAt K mg "over" s_over ["one", "other"]
  d_below : DefAt K mg "below" s_below ["one", "other"]
  d__law_cell : DefAt K mg "_law_cell" s__law_cell ["_law_script", "_law_k"]
  d__law_whole : DefAt K mg "_law_whole" s__law_whole ["_law_found"]
  d__law_divisor : DefAt K mg "_law_divisor" s__law_divisor ["_law_one", "_law_other"]
  d__law_lowest : DefAt K mg "_law_lowest" s__law_lowest ["_law_top", "_law_bottom"]
  d__law_fraction : DefAt K mg "_law_fraction" s__law_fraction ["_law_one", "_law_other"]
  d__law_is : DefAt K mg "_law_is" s__law_is ["_law_found", "_law_top", "_law_bottom"]
  d__law_truth : DefAt K mg "_law_truth" s__law_truth ["_law_found", "_law_due"]
  d_law : DefAt K mg "law" s_law ["_law_script"]
section
variable {P : Program} {w : World} {K : PySem.W.Frag} {mg : Str → Option Value} {base : Heap}
def gc (a b : Int) : Int := (Int.gcd a b : Nat)
theorem gc_step {a b : Int} (h : 0 < b) : gc b (a % b) = gc a b := by
  have e : Int.gcd (a % b) b = Int.gcd a b := by
    refine Int.gcd_left_eq_iff.mpr fun c hc => ?_
    have d : c ∣ b * (a / b) := Int.dvd_trans hc (Int.dvd_mul_right b (a / b))
    have e2 : a % b + b * (a / b) = a := Int.emod_add_mul_ediv a b
    constructor
    · intro h; rw [← e2]; exact Int.dvd_add h d
    · intro h
      have : a % b = a - b * (a / b) := by omega
      rw [this]; exact Int.dvd_sub h d
  unfold gc
  rw [Int.gcd_comm, e]
theorem gc_zero {a : Int} : (if a < 0 then -a else a) = gc a 0 := by
  unfold gc
  rw [Int.gcd_zero_right]
  omega
theorem gc_pos {a b : Int} (h : 0 < b) : 0 < gc a b := by
  unfold gc
  have : 0 < Int.gcd a b := Int.gcd_pos_of_ne_zero_right a (by omega)
  omega
theorem gc_le {a b : Int} (h : 0 < b) : gc a b ≤ b := Int.gcd_le_right a h
theorem gc_dl {a b : Int} : gc a b ∣ a := Int.gcd_dvd_left ..
theorem gc_dr {a b : Int} : gc a b ∣ b := Int.gcd_dvd_right ..
/-- lowest terms, for a bottom from 1 on -/
def low (t b : Int) : Int × Int := (t / gc t b, b / gc t b)
theorem low_pos {t b : Int} (h : 0 < b) : 1 ≤ (low t b).2 := by
  have g := gc_pos (a := t) h
  have := Int.ediv_pos_of_pos_of_dvd h (Int.le_of_lt g) (gc_dr (a := t) (b := b))
  show 1 ≤ b / gc t b
  omega
theorem low_gc {t b : Int} (h : 0 < b) : gc (low t b).1 (low t b).2 = 1 := by
  have g := gc_pos (a := t) h
  unfold low gc
  have hh : 0 < Int.gcd t b := Int.gcd_pos_of_ne_zero_right t (by omega)
  have := Int.gcd_ediv_gcd_ediv_gcd (i := t) (j := b) hh
  show ((Int.gcd (t / (Int.gcd t b : Nat)) (b / (Int.gcd t b : Nat)) : Nat) : Int) = 1
  rw [this]; rfl
theorem low_eq {t b : Int} (h : 0 < b) : (low t b).1 * b = t * (low t b).2 := by
  have g := gc_pos (a := t) h
  obtain ⟨u, hu⟩ := gc_dl (a := t) (b := b)
  obtain ⟨v, hv⟩ := gc_dr (a := t) (b := b)
  have e1 : t / gc t b = u := Int.ediv_eq_of_eq_mul_right (by omega) hu
  have e2 : b / gc t b = v := Int.ediv_eq_of_eq_mul_right (by omega) hv
  show t / gc t b * b = t * (b / gc t b)
  rw [e1, e2]
  calc u * b = u * (gc t b * v) := by rw [← hv]
    _ = (gc t b * u) * v := by rw [← Int.mul_assoc, Int.mul_comm u]
    _ = t * v := by rw [← hu]
theorem low_bd {n : Nat} {t b : Int} (h : 0 < b) (ht : Bd n t) (hb : Bd n b) : Bd n (low t b).1 ∧ Bd n (low t b).2 := by
  have g := gc_pos (a := t) h
  constructor
  · exact Nat.lt_of_le_of_lt (Int.natAbs_ediv_le_natAbs t _) ht
  · exact Nat.lt_of_le_of_lt (Int.natAbs_ediv_le_natAbs b _) hb
/-- what share tells -/
def shr (t b : Int) : Int × Int := if b < 0 then low (0 - t) (0 - b) else low t b
theorem shr_ok {t b : Int} (h : b ≠ 0) : 1 ≤ (shr t b).2 ∧ gc (shr t b).1 (shr t b).2 = 1 ∧ (shr t b).1 * b = t * (shr t b).2 := by
  unfold shr
  split
  · have hb : 0 < 0 - b := by omega
    refine ⟨low_pos hb, low_gc hb, ?_⟩
    have e := low_eq (t := 0 - t) hb
    rw [Int.mul_sub, Int.mul_zero, Int.sub_mul, Int.zero_mul] at e
    omega
  · have hb : 0 < b := by omega
    exact ⟨low_pos hb, low_gc hb, low_eq hb⟩
theorem shr_bd {n : Nat} {t b : Int} (h : b ≠ 0) (ht : Bd n t) (hb : Bd n b) : Bd n (shr t b).1 ∧ Bd n (shr t b).2 := by
  have e : ∀ z : Int, 0 - z = -z := fun z => by omega
  unfold shr
  split
  · rw [e, e]; exact low_bd (by omega) ht.neg hb.neg
  · exact low_bd (by omega) ht hb
theorem across {p q t b x y : Int} (hb : b ≠ 0) (e : p * b = t * q) (d : t * y = x * b) : p * y = x * q := by
  refine Int.eq_of_mul_eq_mul_right hb ?_
  calc p * y * b = (p * b) * y := by rw [Int.mul_assoc, Int.mul_comm y b, Int.mul_assoc]
    _ = (t * y) * q := by rw [e, Int.mul_assoc, Int.mul_comm q y, ← Int.mul_assoc]
    _ = x * q * b := by rw [d, Int.mul_assoc, Int.mul_comm b q, ← Int.mul_assoc]
def sp_divisor (K : PySem.W.Frag) : Sp := fun vs H Q _ => match vs with | [.int a, .int b] => 0 ≤ b ∧ Q (.int (gc a b)) H | _ => False
theorem c_divisor (T : Txt K mg) : Cal P w K mg base 1 "divisor" (sp_divisor K) := by
  refine T.d_divisor.cal (k := 0) sc_divisor (by intro vs H Q E h; unfold sp_divisor at h; split at h <;> first | rfl | exact h.elim) fun f cdv A outer s H vs Q E hr h => ?_
  refine ⟨_, (pss_cons (ps_while PassesOwn.never (pt_cmpR (op_neA hr) (pv 1) pe_int (nomark _))
    (pss_one (ps_par (i := 0) (j := 1) rfl sc_divisor.nd rfl rfl (by decide) rfl rfl (pa_cons (pv 1) (pa_cons (pe_op op_mod (pv 0) (pv 1)) pa_nil)) (by rfl))))
    (pss_one (ps_ret (pe_callB call_absA (by rfl) T.n_abs (by decide +kernel) (pa_cons (pv 0) pa_nil))))), ?_⟩
  try simp only [cxOf_K, cxOf_K']
  unfold sp_divisor at h
  split at h
  case h_2 => exact h.elim
  rename_i a b
  obtain ⟨hb, q⟩ := h
  walk_at "sts"
  refine L_while (fun m σ' H' => ∃ x y : Int, σ' = [some (.int x), some (.int y)] ∧ 0 ≤ y ∧ gc x y = gc a b ∧ m = y.toNat ∧ H' = H) ⟨_, a, b, rfl, hb, rfl, rfl, rfl⟩ ?_
  rintro m σ' H' ⟨x, y, rfl, hy, e, rfl, rfl⟩
  walk_at "sts"
  refine L_nd (fun c => ?_) (fun c => ?_)
  · refine L_N ?_
    walk_at "sts"
    refine L_I (by omega) ?_
    walk_at "sts"
    have h1 := Int.emod_nonneg x c
    have h2 := Int.emod_lt_of_pos x (show 0 < y by omega)
    exact ⟨(x % y).toNat, by omega, y, x % y, rfl, h1, (gc_step (by omega)).trans e, rfl, rfl⟩
  · subst c
    walk_at "sts"
    rw [gc_zero, e]
    exact q
def sp_share (K : PySem.W.Frag) : Sp := fun vs H Q _ => match vs with | [.int t, .int b] => b ≠ 0 ∧ Bd 2000 b ∧ NewT H [.int (shr t b).1, .int (shr t b).2] Q | _ => False
theorem c_share (T : Txt K mg) : Cal P w K mg base 2 "share" (sp_share K) := by
  refine T.d_share.cal (k := 1) sc_share (by intro vs H Q E h; unfold sp_share at h; split at h <;> first | rfl | exact h.elim) fun f cdv A outer s H vs Q E hr h => ?_
  refine ⟨_, (pss_cons (ps_if (pt_cmpR op_ltA (pv 1) pe_int (nomark _))
    (pss_one (ps_par (i := 0) (j := 1) rfl sc_share.nd rfl rfl (by decide) rfl rfl (pa_cons (pe_op op_sub pe_int (pv 0)) (pa_cons (pe_op op_sub pe_int (pv 1)) pa_nil)) (by rfl)))
    pss_nil)
    (pss_cons (ps_set (i := 2) sc_share.nd rfl (.inl rfl) (pe_c (c_divisor T) hr (by decide) (by rfl) (pa_cons (pv 0) (pa_cons (pv 1) pa_nil))))
    (pss_one (ps_ret (pe_tup (pa_cons (pe_op op_fdivW (pv 0) (pv 2)) (pa_cons (pe_op op_fdivW (pv 1) (pv 2)) pa_nil))))))), ?_⟩
  try simp only [cxOf_K, cxOf_K']
  unfold sp_share at h
  split at h
  case h_2 => exact h.elim
  rename_i t b
  obtain ⟨hb, hd, q⟩ := h
  have key : ∀ t' b' : Int, 0 < b' → Bd 2000 b' → low t' b' = shr t b → t / 1 = t → CDivW t' (gc t' b') := fun t' b' h0 h1 _ _ => by
    have g := gc_pos (a := t') h0
    have l := gc_le (a := t') h0
    refine Bd.cdiv (n := 2000) ?_ g
    unfold Bd at *
    omega
  walk_at "sts"
  refine L_d (fun c => ?_) (fun c => ?_)
  · walk_at "sts"
    have e : shr t b = low (0 - t) (0 - b) := if_pos c
    have hd' : Bd 2000 (0 - b) := by unfold Bd at *; omega
    refine ⟨by omega, ?_⟩
    walk_at "sts"
    refine L_I (key _ _ (by omega) hd' e.symm (by simp)) ?_
    walk_at "sts"
    refine L_I (key (0 - t) _ (by omega) hd' e.symm (by simp)) ?_
    walk_at "sts"
    rw [e] at q
    exact L_new (sz_dec (by show 2 ≤ 1000000; decide)) q.at
  · walk_at "sts"
    have e : shr t b = low t b := if_neg c
    refine ⟨by omega, ?_⟩
    walk_at "sts"
    refine L_I (key _ _ (by omega) hd e.symm (by simp)) ?_
    walk_at "sts"
    refine L_I (key t _ (by omega) hd e.symm (by simp)) ?_
    walk_at "sts"
    rw [e] at q
    exact L_new (sz_dec (by show 2 ≤ 1000000; decide)) q.at
/-- a fraction at a -/
def Fr2 (K : PySem.W.Frag) (H : Hp) (a : Addr) (x y : Int) : Prop := SqT K H a [.int x, .int y] ∧ 1 ≤ y ∧ Bd 210 x ∧ Bd 210 y
def sp_plus (K : PySem.W.Frag) : Sp := fun vs H Q _ => match vs with | [.ref a, .ref b] => ∃ x y u v, Fr2 K H a x y ∧ Fr2 K H b u v ∧ NewT H [.int (shr (x * v + u * y) (y * v)).1, .int (shr (x * v + u * y) (y * v)).2] Q | _ => False
theorem c_plus (T : Txt K mg) : Cal P w K mg base 3 "plus" (sp_plus K) := by
  refine T.d_plus.cal (k := 2) sc_plus (by intro vs H Q E h; unfold sp_plus at h; split at h <;> first | rfl | exact h.elim) fun f cdv A outer s H vs Q E hr h => ?_
  refine ⟨_, (pss_one (ps_ret (pe_c (c_share T) hr (by decide) (by rfl) (pa_cons (pe_op op_addA (pe_op op_mulA (pe_ix ix_seq (pv 0) pe_int (fun _ _ => rfl)) (pe_ix ix_seq (pv 1) pe_int (fun _ _ => rfl))) (pe_op op_mulA (pe_ix ix_seq (pv 1) pe_int (fun _ _ => rfl)) (pe_ix ix_seq (pv 0) pe_int (fun _ _ => rfl)))) (pa_cons (pe_op op_mulA (pe_ix ix_seq (pv 0) pe_int (fun _ _ => rfl)) (pe_ix ix_seq (pv 1) pe_int (fun _ _ => rfl))) pa_nil))))), ?_⟩
  try simp only [cxOf_K, cxOf_K']
  unfold sp_plus at h
  split at h
  case h_2 => exact h.elim
  rename_i a b
  obtain ⟨x, y, u, v, ⟨ha, h1, bx, by_⟩, ⟨hb, h2, bu, bv⟩, q⟩ := h
  walk_at "sts"
  refine L_ixT ha rfl ?_
  walk_at "sts"
  refine L_ixT hb rfl ?_
  refine L_mulI (bx.cmul bv) ?_
  walk_at "sts"
  refine L_ixT hb rfl ?_
  walk_at "sts"
  refine L_ixT ha rfl ?_
  refine L_mulI (bu.cmul by_) ?_
  walk_at "sts"
  refine L_ixT ha rfl ?_
  walk_at "sts"
  refine L_ixT hb rfl ?_
  refine L_mulI (by_.cmul bv) ?_
  walk_at "sts"
  exact ⟨Int.mul_ne_zero (by omega) (by omega), (by_.mul bv).mono (by decide), q⟩
def sp_minus (K : PySem.W.Frag) : Sp := fun vs H Q _ => match vs with | [.ref a, .ref b] => ∃ x y u v, Fr2 K H a x y ∧ Fr2 K H b u v ∧ NewT H [.int (shr (x * v - u * y) (y * v)).1, .int (shr (x * v - u * y) (y * v)).2] Q | _ => False
theorem c_minus (T : Txt K mg) : Cal P w K mg base 3 "minus" (sp_minus K) := by
  refine T.d_minus.cal (k := 2) sc_minus (by intro vs H Q E h; unfold sp_minus at h; split at h <;> first | rfl | exact h.elim) fun f cdv A outer s H vs Q E hr h => ?_
  refine ⟨_, (pss_one (ps_ret (pe_c (c_share T) hr (by decide) (by rfl) (pa_cons (pe_op op_sub (pe_op op_mulA (pe_ix ix_seq (pv 0) pe_int (fun _ _ => rfl)) (pe_ix ix_seq (pv 1) pe_int (fun _ _ => rfl))) (pe_op op_mulA (pe_ix ix_seq (pv 1) pe_int (fun _ _ => rfl)) (pe_ix ix_seq (pv 0) pe_int (fun _ _ => rfl)))) (pa_cons (pe_op op_mulA (pe_ix ix_seq (pv 0) pe_int (fun _ _ => rfl)) (pe_ix ix_seq (pv 1) pe_int (fun _ _ => rfl))) pa_nil))))), ?_⟩
  try simp only [cxOf_K, cxOf_K']
  unfold sp_minus at h
  split at h
  case h_2 => exact h.elim
  rename_i a b
  obtain ⟨x, y, u, v, ⟨ha, h1, bx, by_⟩, ⟨hb, h2, bu, bv⟩, q⟩ := h
  walk_at "sts"
  refine L_ixT ha rfl ?_
  walk_at "sts"
  refine L_ixT hb rfl ?_
  refine L_mulI (bx.cmul bv) ?_
  walk_at "sts"
  refine L_ixT hb rfl ?_
  walk_at "sts"
  refine L_ixT ha rfl ?_
  refine L_mulI (bu.cmul by_) ?_
  walk_at "sts"
  refine L_ixT ha rfl ?_
  walk_at "sts"
  refine L_ixT hb rfl ?_
  refine L_mulI (by_.cmul bv) ?_
  walk_at "sts"
  exact ⟨Int.mul_ne_zero (by omega) (by omega), (by_.mul bv).mono (by decide), q⟩
def sp_times (K : PySem.W.Frag) : Sp := fun vs H Q _ => match vs with | [.ref a, .ref b] => ∃ x y u v, Fr2 K H a x y ∧ Fr2 K H b u v ∧ NewT H [.int (shr (x * u) (y * v)).1, .int (shr (x * u) (y * v)).2] Q | _ => False
theorem c_times (T : Txt K mg) : Cal P w K mg base 3 "times" (sp_times K) := by
  refine T.d_times.cal (k := 2) sc_times (by intro vs H Q E h; unfold sp_times at h; split at h <;> first | rfl | exact h.elim) fun f cdv A outer s H vs Q E hr h => ?_
  refine ⟨_, (pss_one (ps_ret (pe_c (c_share T) hr (by decide) (by rfl) (pa_cons (pe_op op_mulA (pe_ix ix_seq (pv 0) pe_int (fun _ _ => rfl)) (pe_ix ix_seq (pv 1) pe_int (fun _ _ => rfl))) (pa_cons (pe_op op_mulA (pe_ix ix_seq (pv 0) pe_int (fun _ _ => rfl)) (pe_ix ix_seq (pv 1) pe_int (fun _ _ => rfl))) pa_nil))))), ?_⟩
  try simp only [cxOf_K, cxOf_K']
  unfold sp_times at h
  split at h
  case h_2 => exact h.elim
  rename_i a b
  obtain ⟨x, y, u, v, ⟨ha, h1, bx, by_⟩, ⟨hb, h2, bu, bv⟩, q⟩ := h
  walk_at "sts"
  refine L_ixT ha rfl ?_
  walk_at "sts"
  refine L_ixT hb rfl ?_
  refine L_mulI (bx.cmul bu) ?_
  walk_at "sts"
  refine L_ixT ha rfl ?_
  walk_at "sts"
  refine L_ixT hb rfl ?_
  refine L_mulI (by_.cmul bv) ?_
  walk_at "sts"
  exact ⟨Int.mul_ne_zero (by omega) (by omega), (by_.mul bv).mono (by decide), q⟩
def sp_over (K : PySem.W.Frag) : Sp := fun vs H Q _ => match vs with | [.ref a, .ref b] => ∃ x y u v, Fr2 K H a x y ∧ Fr2 K H b u v ∧ u ≠ 0 ∧ NewT H [.int (shr (x * v) (y * u)).1, .int (shr (x * v) (y * u)).2] Q | _ => False
theorem c_over (T : Txt K mg) : Cal P w K mg base 3 "over" (sp_over K) := by
  refine T.d_over.cal (k := 2) sc_over (by intro vs H Q E h; unfold sp_over at h; split at h <;> first | rfl | exact h.elim) fun f cdv A outer s H vs Q E hr h => ?_
  refine ⟨_, (pss_one (ps_ret (pe_c (c_share T) hr (by decide) (by rfl) (pa_cons (pe_op op_mulA (pe_ix ix_seq (pv 0) pe_int (fun _ _ => rfl)) (pe_ix ix_seq (pv 1) pe_int (fun _ _ => rfl))) (pa_cons (pe_op op_mulA (pe_ix ix_seq (pv 0) pe_int (fun _ _ => rfl)) (pe_ix ix_seq (pv 1) pe_int (fun _ _ => rfl))) pa_nil))))), ?_⟩
  try simp only [cxOf_K, cxOf_K']
  unfold sp_over at h
  split at h
  case h_2 => exact h.elim
  rename_i a b
  obtain ⟨x, y, u, v, ⟨ha, h1, bx, by_⟩, ⟨hb, h2, bu, bv⟩, hu, q⟩ := h
  walk_at "sts"
  refine L_ixT ha rfl ?_
  walk_at "sts"
  refine L_ixT hb rfl ?_
  refine L_mulI (bx.cmul bv) ?_
  walk_at "sts"
  refine L_ixT ha rfl ?_
  walk_at "sts"
  refine L_ixT hb rfl ?_
  refine L_mulI (by_.cmul bu) ?_
  walk_at "sts"
  exact ⟨Int.mul_ne_zero (by omega) (by omega), (by_.mul bu).mono (by decide), q⟩
def sp_below (K : PySem.W.Frag) : Sp := fun vs H Q _ => match vs with | [.ref a, .ref b] => ∃ x y u v, Fr2 K H a x y ∧ Fr2 K H b u v ∧ Q (.bl (decide (x * v < u * y))) H | _ => False
theorem c_below (T : Txt K mg) : Cal P w K mg base 1 "below" (sp_below K) := by
  refine T.d_below.cal (k := 0) sc_below (by intro vs H Q E h; unfold sp_below at h; split at h <;> first | rfl | exact h.elim) fun f cdv A outer s H vs Q E hr h => ?_
  refine ⟨_, (pss_one (ps_ret (pe_cmpR op_ltA (pe_op op_mulA (pe_ix ix_seq (pv 0) pe_int (fun _ _ => rfl)) (pe_ix ix_seq (pv 1) pe_int (fun _ _ => rfl))) (pe_op op_mulA (pe_ix ix_seq (pv 1) pe_int (fun _ _ => rfl)) (pe_ix ix_seq (pv 0) pe_int (fun _ _ => rfl))) (nomark _)))), ?_⟩
  try simp only [cxOf_K, cxOf_K']
  unfold sp_below at h
  split at h
  case h_2 => exact h.elim
  rename_i a b
  obtain ⟨x, y, u, v, ⟨ha, h1, bx, by_⟩, ⟨hb, h2, bu, bv⟩, q⟩ := h
  walk_at "sts"
  refine L_ixT ha rfl ?_
  walk_at "sts"
  refine L_ixT hb rfl ?_
  refine L_mulI (bx.cmul bv) ?_
  walk_at "sts"
  refine L_ixT hb rfl ?_
  walk_at "sts"
  refine L_ixT ha rfl ?_
  refine L_mulI (bu.cmul by_) ?_
  walk_at "sts"
  exact q
def sp__law_cell (K : PySem.W.Frag) : Sp := fun vs H Q _ => match vs with | [.ref a, .int k] => ∃ ns : List Int, SqL K H a (ns.map V.int) ∧ 0 ≤ k ∧ k < 1000 ∧ Q (.int (cellAt ns k (7919 * k + 13))) H | _ => False
theorem c__law_cell (T : Txt K mg) : Cal P w K mg base 1 "_law_cell" (sp__law_cell K) := by
  refine T.d__law_cell.cal (k := 0) sc__law_cell (by intro vs H Q E h; unfold sp__law_cell at h; split at h <;> first | rfl | exact h.elim) fun f cdv A outer s H vs Q E hr h => ?_
  refine ⟨_, (pss_cons (ps_if (pt_cmpR op_ltA (pv 1) (pe_callB call_lenA (by rfl) T.n_len (by decide +kernel) (pa_cons (pv 0) pa_nil)) (nomark _))
    (pss_one (ps_ret (pe_ix ix_seq (pv 0) (pv 1) (fun _ _ => rfl))))
    pss_nil)
    (pss_one (ps_ret (pe_op op_addA (pe_op op_mulA pe_int (pv 1)) pe_int)))), ?_⟩
  try simp only [cxOf_K, cxOf_K']
  unfold sp__law_cell at h
  split at h
  case h_2 => exact h.elim
  rename_i a k
  obtain ⟨ns, hS, hk, hk2, q⟩ := h
  walk_at "sts"
  refine L_lenL hS ?_
  walk_at "sts"
  rw [List.length_map]
  refine L_d (fun c => ?_) (fun c => ?_)
  · walk_at "sts"
    exact L_ixL hS (cellAt_in hk c) q
  · walk_at "sts"
    refine L_mulI ((bd_lit (by decide)).cmul (bd_lit (i := k) (by omega))) ?_
    walk_at "sts"
    rw [cellAt_out c] at q
    exact q
def sp__law_whole (K : PySem.W.Frag) : Sp := fun vs H Q _ => match vs with | [.int i] => Q (.bl true) H | _ => False
theorem c__law_whole (T : Txt K mg) : Cal P w K mg base 1 "_law_whole" (sp__law_whole K) := by
  refine T.d__law_whole.cal (k := 0) sc__law_whole (by intro vs H Q E h; unfold sp__law_whole at h; split at h <;> first | rfl | exact h.elim) fun f cdv A outer s H vs Q E hr h => ?_
  refine ⟨_, (pss_one (ps_ret (pe_and (pe_callB call_isi (by rfl) T.n_isinstance (by decide +kernel) (pa_cons (pv 0) (pa_cons (pe_ty "int" (by rfl) T.n_int (by decide +kernel)) pa_nil))) (pe_one (pe_not (pe_callB call_isi (by rfl) T.n_isinstance (by decide +kernel) (pa_cons (pv 0) (pa_cons (pe_ty "bool" (by rfl) T.n_bool (by decide +kernel)) pa_nil)))))))), ?_⟩
  try simp only [cxOf_K, cxOf_K']
  unfold sp__law_whole at h
  split at h
  case h_2 => exact h.elim
  rename_i i
  walk_at "sts"
  refine L_isi (.base (.int _)) (b := true) (by decide +kernel) ?_
  walk_at "sts"
  refine L_isi (.base (.int _)) (b := false) (by decide +kernel) ?_
  walk_at "sts"
  exact h
def sp__law_divisor (K : PySem.W.Frag) : Sp := fun vs H Q _ => match vs with | [.int a, .int b] => 0 ≤ b ∧ Q (.int (gc a b)) H | _ => False
theorem c__law_divisor (T : Txt K mg) : Cal P w K mg base 1 "_law_divisor" (sp__law_divisor K) := by
  refine T.d__law_divisor.cal (k := 0) sc__law_divisor (by intro vs H Q E h; unfold sp__law_divisor at h; split at h <;> first | rfl | exact h.elim) fun f cdv A outer s H vs Q E hr h => ?_
  refine ⟨_, (pss_cons (ps_while PassesOwn.never (pt_cmpR (op_neA hr) (pv 1) pe_int (nomark _))
    (pss_one (ps_par (i := 0) (j := 1) rfl sc__law_divisor.nd rfl rfl (by decide) rfl rfl (pa_cons (pv 1) (pa_cons (pe_op op_mod (pv 0) (pv 1)) pa_nil)) (by rfl))))
    (pss_one (ps_ret (pe_callB call_absA (by rfl) T.n_abs (by decide +kernel) (pa_cons (pv 0) pa_nil))))), ?_⟩
  try simp only [cxOf_K, cxOf_K']
  unfold sp__law_divisor at h
  split at h
  case h_2 => exact h.elim
  rename_i a b
  obtain ⟨hb, q⟩ := h
  walk_at "sts"
  refine L_while (fun m σ' H' => ∃ x y : Int, σ' = [some (.int x), some (.int y)] ∧ 0 ≤ y ∧ gc x y = gc a b ∧ m = y.toNat ∧ H' = H) ⟨_, a, b, rfl, hb, rfl, rfl, rfl⟩ ?_
  rintro m σ' H' ⟨x, y, rfl, hy, e, rfl, rfl⟩
  walk_at "sts"
  refine L_nd (fun c => ?_) (fun c => ?_)
  · refine L_N ?_
    walk_at "sts"
    refine L_I (by omega) ?_
    walk_at "sts"
    have h1 := Int.emod_nonneg x c
    have h2 := Int.emod_lt_of_pos x (show 0 < y by omega)
    exact ⟨(x % y).toNat, by omega, y, x % y, rfl, h1, (gc_step (by omega)).trans e, rfl, rfl⟩
  · subst c
    walk_at "sts"
    rw [gc_zero, e]
    exact q
def sp__law_lowest (K : PySem.W.Frag) : Sp := fun vs H Q _ => match vs with | [.int t, .int b] => 0 < b ∧ Bd 2000 b ∧ NewT H [.int (low t b).1, .int (low t b).2] Q | _ => False
theorem c__law_lowest (T : Txt K mg) : Cal P w K mg base 2 "_law_lowest" (sp__law_lowest K) := by
  refine T.d__law_lowest.cal (k := 1) sc__law_lowest (by intro vs H Q E h; unfold sp__law_lowest at h; split at h <;> first | rfl | exact h.elim) fun f cdv A outer s H vs Q E hr h => ?_
  refine ⟨_, (pss_cons (ps_set (i := 2) sc__law_lowest.nd rfl (.inl rfl) (pe_c (c__law_divisor T) hr (by decide) (by rfl) (pa_cons (pv 0) (pa_cons (pv 1) pa_nil))))
    (pss_one (ps_ret (pe_tup (pa_cons (pe_op op_fdivW (pv 0) (pv 2)) (pa_cons (pe_op op_fdivW (pv 1) (pv 2)) pa_nil)))))), ?_⟩
  try simp only [cxOf_K, cxOf_K']
  unfold sp__law_lowest at h
  split at h
  case h_2 => exact h.elim
  rename_i t b
  obtain ⟨hb, hd, q⟩ := h
  have key : CDivW t (gc t b) ∧ CDivW b (gc t b) := by
    have g := gc_pos (a := t) hb
    have l := gc_le (a := t) hb
    have z : Bd 2000 (gc t b) := by
      unfold Bd at *
      omega
    exact ⟨z.cdiv g, z.cdiv g⟩
  walk_at "sts"
  refine ⟨by omega, ?_⟩
  walk_at "sts"
  refine L_I key.1 ?_
  walk_at "sts"
  refine L_I key.2 ?_
  walk_at "sts"
  exact L_new (sz_dec (by show 2 ≤ 1000000; decide)) q.at
def sp__law_fraction (K : PySem.W.Frag) : Sp := fun vs H Q _ => match vs with | [.int a, .int b] => ∀ x y, Bd 201 x → Bd 201 y → 1 ≤ y → gc x y = 1 → NewT H [.int x, .int y] Q | _ => False
theorem c__law_fraction (T : Txt K mg) : Cal P w K mg base 3 "_law_fraction" (sp__law_fraction K) := by
  refine T.d__law_fraction.cal (k := 2) sc__law_fraction (by intro vs H Q E h; unfold sp__law_fraction at h; split at h <;> first | rfl | exact h.elim) fun f cdv A outer s H vs Q E hr h => ?_
  refine ⟨_, (pss_cons (ps_set (i := 2) sc__law_fraction.nd rfl (.inl rfl) (pe_op op_pow pe_int pe_int))
    (Evl.pss_cut (ps_if (pt_cmpR (op_eqA hr) (pe_op op_mod (pv 1) pe_int) pe_int (nomark _))
    (pss_one (ps_set (i := 2) sc__law_fraction.nd rfl (.inl rfl) pe_int))
    pss_nil)
    (pss_one (ps_ret (pe_c (c__law_lowest T) hr (by decide) (by rfl) (pa_cons (pe_op op_sub (pe_op op_mod (pv 0) (pe_op op_addA (pe_op op_mulA pe_int (pv 2)) pe_int)) (pv 2)) (pa_cons (pe_op op_addA pe_int (pe_op op_mod (pe_op op_fdivW (pv 1) pe_int) (pv 2))) pa_nil))))))), ?_⟩
  try simp only [cxOf_K, cxOf_K']
  unfold sp__law_fraction at h
  split at h
  case h_2 => exact h.elim
  rename_i a b
  have e60 : (10 : Int) ^ (60 : Int).toNat = 1000000000000000000000000000000000000000000000000000000000000 := by decide
  walk_at "sts"
  refine L_I ⟨by decide, by decide, by decide⟩ ?_
  rw [e60]
  walk_at "sts"
  refine L_cut (Mid := fun σ' H' => ∃ f : Int, 12 ≤ f ∧ f ≤ 1000000000000000000000000000000000000000000000000000000000000 ∧ σ' = [some (.int a), some (.int b), some (.int f)] ∧ H' = H) ?_ ?_
  · walk_at "sts"
    refine L_I (by decide) ?_
    walk_at "sts"
    refine L_d (fun c => ?_) (fun c => ?_)
    · walk_at "sts"
      exact ⟨12, by decide, by decide, rfl, rfl⟩
    · walk_at "sts"
      exact ⟨_, by decide, Int.le_refl _, rfl, rfl⟩
  · rintro σ' H' ⟨f, f1, f2, rfl, rfl⟩
    have bf : Bd 200 f := by
      have : (2 : Nat) ^ 200 = 1606938044258990275541962092341162602522202993782792835301376 := by decide
      unfold Bd; omega
    walk_at "sts"
    refine L_mulI ((bd_lit (by decide)).cmul bf) ?_
    walk_at "sts"
    refine L_I (by omega) ?_
    walk_at "sts"
    refine L_I ⟨by decide, by decide⟩ ?_
    walk_at "sts"
    refine L_I (by omega) ?_
    walk_at "sts"
    have m1 := Int.emod_nonneg a (show 2 * f + 1 ≠ 0 by omega)
    have m2 := Int.emod_lt_of_pos a (show 0 < 2 * f + 1 by omega)
    have m3 := Int.emod_nonneg (b / 2) (show f ≠ 0 by omega)
    have m4 := Int.emod_lt_of_pos (b / 2) (show 0 < f by omega)
    have bt : Bd 201 (a % (2 * f + 1) - f) := by
      have : (2 : Nat) ^ 201 = 3213876088517980551083924184682325205044405987565585670602752 := by decide
      unfold Bd; omega
    have bb : Bd 201 (1 + b / 2 % f) := by
      have : (2 : Nat) ^ 201 = 3213876088517980551083924184682325205044405987565585670602752 := by decide
      unfold Bd; omega
    have hp : 0 < 1 + b / 2 % f := by omega
    exact ⟨hp, bb.mono (by decide), h _ _ (low_bd hp bt bb).1 (low_bd hp bt bb).2 (low_pos hp) (low_gc hp)⟩
def sp__law_is (K : PySem.W.Frag) : Sp := fun vs H Q _ => match vs with | [.ref a, .int t, .int b] => ∃ x y, H a = some (.tup [.int x, .int y]) ∧ 1 ≤ y ∧ Bd 1000 x ∧ Bd 1000 y ∧ gc x y = 1 ∧ Bd 1000 t ∧ Bd 1000 b ∧ x * b = t * y ∧ Q (.bl true) H | _ => False
theorem c__law_is (T : Txt K mg) : Cal P w K mg base 2 "_law_is" (sp__law_is K) := by
  refine T.d__law_is.cal (k := 1) sc__law_is (by intro vs H Q E h; unfold sp__law_is at h; split at h <;> first | rfl | exact h.elim) fun f cdv A outer s H vs Q E hr h => ?_
  refine ⟨_, (pss_cons (ps_if (PW.pt (pw_or (pt_not (pt_val (pe_callB call_isi (by rfl) T.n_isinstance (by decide +kernel) (pa_cons (pv 0) (pa_cons (pe_ty "tuple" (by rfl) T.n_tuple (by decide +kernel)) pa_nil))))) (pw_or (pt_cmpR (op_neA hr) (pe_callB call_lenA (by rfl) T.n_len (by decide +kernel) (pa_cons (pv 0) pa_nil)) pe_int (nomark _)) (pw_or (pt_not (pt_val (pe_c (c__law_whole T) hr (by decide) (by rfl) (pa_cons (pe_ix ix_seq (pv 0) pe_int (fun _ _ => rfl)) pa_nil)))) (pw_or1 (pt_not (pt_val (pe_c (c__law_whole T) hr (by decide) (by rfl) (pa_cons (pe_ix ix_seq (pv 0) pe_int (fun _ _ => rfl)) pa_nil)))))))))
    (pss_one (ps_ret pe_bl))
    pss_nil)
    (pss_cons (ps_if (PW.pt (pw_or (pt_cmpR op_ltA (pe_ix ix_seq (pv 0) pe_int (fun _ _ => rfl)) pe_int (nomark _)) (pw_or1 (pt_cmpR (op_neA hr) (pe_c (c__law_divisor T) hr (by decide) (by rfl) (pa_cons (pe_ix ix_seq (pv 0) pe_int (fun _ _ => rfl)) (pa_cons (pe_ix ix_seq (pv 0) pe_int (fun _ _ => rfl)) pa_nil))) pe_int (nomark _)))))
    (pss_one (ps_ret pe_bl))
    pss_nil)
    (pss_one (ps_ret (pe_cmpR (op_eqA hr) (pe_op op_mulA (pe_ix ix_seq (pv 0) pe_int (fun _ _ => rfl)) (pv 2)) (pe_op op_mulA (pv 1) (pe_ix ix_seq (pv 0) pe_int (fun _ _ => rfl))) (nomark _)))))), ?_⟩
  try simp only [cxOf_K, cxOf_K']
  unfold sp__law_is at h
  split at h
  case h_2 => exact h.elim
  rename_i a t b
  obtain ⟨x, y, ha, hy, bx, by_, hg, bt, bb, e, q⟩ := h
  walk_at "sts"
  refine L_isi (.base (.tup ha)) (b := true) (by decide +kernel) ?_
  walk_at "sts"
  refine L_lenT (.of ha) ?_
  walk_at "sts"
  refine L_ndF (by rfl) ?_
  walk_at "sts"
  refine L_ixT (.of ha) rfl ?_
  walk_at "sts"
  simp only [sp__law_whole]
  walk_at "sts"
  refine L_ixT (.of ha) rfl ?_
  walk_at "sts"
  simp only [sp__law_whole]
  walk_at "sts"
  refine L_ixT (.of ha) rfl ?_
  walk_at "sts"
  refine L_dF (by omega) ?_
  walk_at "sts"
  refine L_ixT (.of ha) rfl ?_
  walk_at "sts"
  refine L_ixT (.of ha) rfl ?_
  walk_at "sts"
  refine ⟨by omega, ?_⟩
  walk_at "sts"
  refine L_ndF hg ?_
  walk_at "sts"
  refine L_ixT (.of ha) rfl ?_
  walk_at "sts"
  refine L_mulI (bx.cmul bb) ?_
  walk_at "sts"
  refine L_ixT (.of ha) rfl ?_
  refine L_mulI (bt.cmul by_) ?_
  walk_at "sts"
  rw [decide_eq_true e]
  exact q
def sp__law_truth (K : PySem.W.Frag) : Sp := fun vs H Q _ => match vs with | [.bl a, .bl b] => a = b ∧ Q (.bl true) H | _ => False
theorem c__law_truth (T : Txt K mg) : Cal P w K mg base 1 "_law_truth" (sp__law_truth K) := by
  refine T.d__law_truth.cal (k := 0) sc__law_truth (by intro vs H Q E h; unfold sp__law_truth at h; split at h <;> first | rfl | exact h.elim) fun f cdv A outer s H vs Q E hr h => ?_
  refine ⟨_, (pss_one (ps_ret (pe_and (pe_callB call_isi (by rfl) T.n_isinstance (by decide +kernel) (pa_cons (pv 0) (pa_cons (pe_ty "bool" (by rfl) T.n_bool (by decide +kernel)) pa_nil))) (pe_one (pe_cmpR (op_eqA hr) (pv 0) (pv 1) (nomark _)))))), ?_⟩
  try simp only [cxOf_K, cxOf_K']
  unfold sp__law_truth at h
  split at h
  case h_2 => exact h.elim
  rename_i a b
  obtain ⟨rfl, q⟩ := h
  walk_at "sts"
  refine L_isi (.base (.bl _)) (b := true) (by decide +kernel) ?_
  walk_at "sts"
  rw [decide_eq_true rfl]
  exact q
def sp_law (K : PySem.W.Frag) : Sp := fun vs H Q _ => match vs with | [.ref a] => ∃ ns : List Int, SqL K H a (ns.map V.int) ∧ ns.length ≤ 63 ∧ (∀ z ∈ ns, Builtin.Int.intBits z ≤ 1048576) ∧ ∀ H', Q (.bl true) H' | _ => False
theorem c_law (T : Txt K mg) {f : Addr} {fd : FuncData} (F : Fun K "law" "law" s_law f fd) : FnOk P w K mg base CX0 4 f fd ["_law_script"] (sp_law K) := by
  refine F.ok (k := 3) sc_law (by intro vs H Q E h; unfold sp_law at h; split at h <;> first | rfl | exact h.elim) fun cdv A outer s H vs Q E hr h => ?_
  refine ⟨_, (pss_cons (ps_set (i := 1) sc_law.nd rfl (.inl rfl) (pe_c (c__law_fraction T) hr (by decide) (by rfl) (pa_cons (pe_c (c__law_cell T) hr (by decide) (by rfl) (pa_cons (pv 0) (pa_cons pe_int pa_nil))) (pa_cons (pe_c (c__law_cell T) hr (by decide) (by rfl) (pa_cons (pv 0) (pa_cons pe_int pa_nil))) pa_nil))))
    (pss_cons (ps_set (i := 2) sc_law.nd rfl (.inl rfl) (pe_c (c__law_fraction T) hr (by decide) (by rfl) (pa_cons (pe_c (c__law_cell T) hr (by decide) (by rfl) (pa_cons (pv 0) (pa_cons pe_int pa_nil))) (pa_cons (pe_c (c__law_cell T) hr (by decide) (by rfl) (pa_cons (pv 0) (pa_cons pe_int pa_nil))) pa_nil))))
    (pss_cons (ps_set (i := 3) sc_law.nd rfl (.inl rfl) (pe_op op_addA pe_int (pe_op op_mod (pe_op op_fdivW (pe_c (c__law_cell T) hr (by decide) (by rfl) (pa_cons (pv 0) (pa_cons pe_int pa_nil))) pe_int) pe_int)))
    (Evl.pss_cut (ps_if (pt_cmpR (op_eqA hr) (pe_op op_mod (pe_c (c__law_cell T) hr (by decide) (by rfl) (pa_cons (pv 0) (pa_cons pe_int pa_nil))) pe_int) pe_int (nomark _))
    (pss_one (ps_set (i := 3) sc_law.nd rfl (.inl rfl) (pe_op op_sub pe_int (pv 3))))
    pss_nil)
    (pss_cons (ps_if (pt_not (pt_val (pe_c (c__law_is T) hr (by decide) (by rfl) (pa_cons (pe_c (c_share T) hr (by decide) (by rfl) (pa_cons (pe_op op_mulA (pe_ix ix_seq (pv 1) pe_int (fun _ _ => rfl)) (pv 3)) (pa_cons (pe_op op_mulA (pe_ix ix_seq (pv 1) pe_int (fun _ _ => rfl)) (pv 3)) pa_nil))) (pa_cons (pe_ix ix_seq (pv 1) pe_int (fun _ _ => rfl)) (pa_cons (pe_ix ix_seq (pv 1) pe_int (fun _ _ => rfl)) pa_nil))))))
    (pss_one (ps_ret pe_bl))
    pss_nil)
    (pss_cons (ps_set (i := 4) sc_law.nd rfl (.inl rfl) (pe_op op_mulA (pe_ix ix_seq (pv 1) pe_int (fun _ _ => rfl)) (pe_ix ix_seq (pv 2) pe_int (fun _ _ => rfl))))
    (pss_cons (ps_if (pt_not (pt_val (pe_c (c__law_is T) hr (by decide) (by rfl) (pa_cons (pe_c (c_plus T) hr (by decide) (by rfl) (pa_cons (pv 1) (pa_cons (pv 2) pa_nil))) (pa_cons (pe_op op_addA (pe_op op_mulA (pe_ix ix_seq (pv 1) pe_int (fun _ _ => rfl)) (pe_ix ix_seq (pv 2) pe_int (fun _ _ => rfl))) (pe_op op_mulA (pe_ix ix_seq (pv 2) pe_int (fun _ _ => rfl)) (pe_ix ix_seq (pv 1) pe_int (fun _ _ => rfl)))) (pa_cons (pv 4) pa_nil))))))
    (pss_one (ps_ret pe_bl))
    pss_nil)
    (pss_cons (ps_if (pt_not (pt_val (pe_c (c__law_is T) hr (by decide) (by rfl) (pa_cons (pe_c (c_minus T) hr (by decide) (by rfl) (pa_cons (pv 1) (pa_cons (pv 2) pa_nil))) (pa_cons (pe_op op_sub (pe_op op_mulA (pe_ix ix_seq (pv 1) pe_int (fun _ _ => rfl)) (pe_ix ix_seq (pv 2) pe_int (fun _ _ => rfl))) (pe_op op_mulA (pe_ix ix_seq (pv 2) pe_int (fun _ _ => rfl)) (pe_ix ix_seq (pv 1) pe_int (fun _ _ => rfl)))) (pa_cons (pv 4) pa_nil))))))
    (pss_one (ps_ret pe_bl))
    pss_nil)
    (pss_cons (ps_if (pt_not (pt_val (pe_c (c__law_is T) hr (by decide) (by rfl) (pa_cons (pe_c (c_times T) hr (by decide) (by rfl) (pa_cons (pv 1) (pa_cons (pv 2) pa_nil))) (pa_cons (pe_op op_mulA (pe_ix ix_seq (pv 1) pe_int (fun _ _ => rfl)) (pe_ix ix_seq (pv 2) pe_int (fun _ _ => rfl))) (pa_cons (pv 4) pa_nil))))))
    (pss_one (ps_ret pe_bl))
    pss_nil)
    (Evl.pss_cut (ps_if (PW.pt (pw_and (pt_cmpR (op_neA hr) (pe_ix ix_seq (pv 2) pe_int (fun _ _ => rfl)) pe_int (nomark _)) (pw_and1 (pt_not (pt_val (pe_c (c__law_is T) hr (by decide) (by rfl) (pa_cons (pe_c (c_over T) hr (by decide) (by rfl) (pa_cons (pv 1) (pa_cons (pv 2) pa_nil))) (pa_cons (pe_op op_mulA (pe_ix ix_seq (pv 1) pe_int (fun _ _ => rfl)) (pe_ix ix_seq (pv 2) pe_int (fun _ _ => rfl))) (pa_cons (pe_op op_mulA (pe_ix ix_seq (pv 1) pe_int (fun _ _ => rfl)) (pe_ix ix_seq (pv 2) pe_int (fun _ _ => rfl))) pa_nil)))))))))
    (pss_one (ps_ret pe_bl))
    pss_nil)
    (pss_cons (ps_set (i := 5) sc_law.nd rfl (.inl rfl) (pe_cmpR op_ltA (pe_op op_mulA (pe_ix ix_seq (pv 1) pe_int (fun _ _ => rfl)) (pe_ix ix_seq (pv 2) pe_int (fun _ _ => rfl))) (pe_op op_mulA (pe_ix ix_seq (pv 2) pe_int (fun _ _ => rfl)) (pe_ix ix_seq (pv 1) pe_int (fun _ _ => rfl))) (nomark _)))
    (pss_cons (ps_set (i := 6) sc_law.nd rfl (.inl rfl) (pe_cmpR op_ltA (pe_op op_mulA (pe_ix ix_seq (pv 2) pe_int (fun _ _ => rfl)) (pe_ix ix_seq (pv 1) pe_int (fun _ _ => rfl))) (pe_op op_mulA (pe_ix ix_seq (pv 1) pe_int (fun _ _ => rfl)) (pe_ix ix_seq (pv 2) pe_int (fun _ _ => rfl))) (nomark _)))
    (pss_one (ps_ret (pe_and (pe_c (c__law_truth T) hr (by decide) (by rfl) (pa_cons (pe_c (c_below T) hr (by decide) (by rfl) (pa_cons (pv 1) (pa_cons (pv 2) pa_nil))) (pa_cons (pv 5) pa_nil))) (pe_one (pe_c (c__law_truth T) hr (by decide) (by rfl) (pa_cons (pe_c (c_below T) hr (by decide) (by rfl) (pa_cons (pv 2) (pa_cons (pv 1) pa_nil))) (pa_cons (pv 6) pa_nil))))))))))))))))))), ?_⟩
  try simp only [cxOf_K, cxOf_K']
  unfold sp_law at h
  split at h
  case h_2 => exact h.elim
  rename_i a
  obtain ⟨ns, hS, hl, hbits, q⟩ := h
  walk_at "sts"
  refine ⟨ns, hS, by decide, by decide, ?_⟩
  walk_at "sts"
  refine ⟨ns, hS, by decide, by decide, ?_⟩
  walk_at "sts"
  intro x y bx by_ hy hg p1 H1 hp1 s1 e1
  walk_at "sts"
  refine ⟨ns, s1.seq hS, by decide, by decide, ?_⟩
  walk_at "sts"
  refine ⟨ns, s1.seq hS, by decide, by decide, ?_⟩
  walk_at "sts"
  intro u v bu bv hv hg2 p2 H2 hp2 s2 e2
  have e1 := s2 _ _ e1
  have hS := s2.seq (s1.seq hS)
  walk_at "sts"
  refine ⟨ns, hS, by decide, by decide, ?_⟩
  walk_at "sts"
  refine L_I ⟨by decide, by decide⟩ ?_
  walk_at "sts"
  refine L_I (by decide) ?_
  walk_at "sts"
  have c0 := Int.emod_nonneg (cellAt ns 4 (7919 * 4 + 13) / 4) (show (1000 : Int) ≠ 0 by decide)
  have c1 := Int.emod_lt_of_pos (cellAt ns 4 (7919 * 4 + 13) / 4) (show (0 : Int) < 1000 by decide)
  refine L_cut (Mid := fun σ' H' => ∃ m : Int, m ≠ 0 ∧ -1001 < m ∧ m < 1001 ∧ σ' = [some (.ref a), some (.ref p1), some (.ref p2), some (.int m), none, none, none] ∧ H' = H2) ?_ ?_
  · walk_at "sts"
    refine ⟨ns, hS, by decide, by decide, ?_⟩
    walk_at "sts"
    refine L_I (by decide) ?_
    walk_at "sts"
    refine L_d (fun c => ?_) (fun c => ?_)
    · walk_at "sts"
      exact ⟨_, by omega, by omega, by omega, rfl, rfl⟩
    · walk_at "sts"
      exact ⟨_, by omega, by omega, by omega, rfl, rfl⟩
  · rintro σ' H' ⟨m, m0, m1, m2, rfl, rfl⟩
    have bm : Bd 10 m := by
      have : (2 : Nat) ^ 10 = 1024 := by decide
      unfold Bd; omega
    have F1 : Fr2 K H' p1 x y := ⟨.of e1, hy, bx.mono (by decide), by_.mono (by decide)⟩
    have F2 : Fr2 K H' p2 u v := ⟨.of e2, hv, bu.mono (by decide), bv.mono (by decide)⟩
    have sh : ∀ {t b X Y : Int}, b ≠ 0 → Bd 500 t → Bd 500 b → Bd 500 X → Bd 500 Y → t * Y = X * b → ∀ {H3 : Hp} {p : Addr} {Q' : VK}, H3 p = some (HO.tup [.int (shr t b).1, .int (shr t b).2]) → Q' (.bl true) H3 → sp__law_is K [.ref p, .int X, .int Y] H3 Q' E0 :=
      fun {t b X Y} hb bt bb bX bY d {H3 p Q'} hh qq => by
        have so := shr_ok (t := t) hb
        have sb := shr_bd hb bt bb
        exact ⟨_, _, hh, so.1, sb.1.mono (by decide), sb.2.mono (by decide), so.2.1, bX.mono (by decide), bY.mono (by decide), across hb so.2.2 d, qq⟩
    walk_at "sts"
    refine L_ixT F1.1 rfl ?_
    walk_at "sts"
    refine L_mulI (bx.cmul bm) ?_
    walk_at "sts"
    refine L_ixT F1.1 rfl ?_
    walk_at "sts"
    refine L_mulI (by_.cmul bm) ?_
    walk_at "sts"
    have n1 : y * m ≠ 0 := Int.mul_ne_zero (by omega) m0
    refine ⟨n1, (by_.mul bm).mono (by decide), fun p3 H3 _ s3 e3 => ?_⟩
    have F1 : Fr2 K H3 p1 x y := ⟨s3.seqT F1.1, F1.2⟩
    have F2 : Fr2 K H3 p2 u v := ⟨s3.seqT F2.1, F2.2⟩
    walk_at "sts"
    refine L_ixT F1.1 rfl ?_
    walk_at "sts"
    refine L_ixT F1.1 rfl ?_
    walk_at "sts"
    refine sh n1 ((bx.mul bm).mono (by decide)) ((by_.mul bm).mono (by decide)) (bx.mono (by decide)) (by_.mono (by decide)) (by rw [Int.mul_assoc, Int.mul_comm m y]) e3 ?_
    walk_at "sts"
    refine L_ixT F1.1 rfl ?_
    walk_at "sts"
    refine L_ixT F2.1 rfl ?_
    refine L_mulI (by_.cmul bv) ?_
    walk_at "sts"
    have n2 : y * v ≠ 0 := Int.mul_ne_zero (by omega) (by omega)
    refine ⟨x, y, u, v, F1, F2, fun p4 H4 _ s4 e4 => ?_⟩
    have F1 : Fr2 K H4 p1 x y := ⟨s4.seqT F1.1, F1.2⟩
    have F2 : Fr2 K H4 p2 u v := ⟨s4.seqT F2.1, F2.2⟩
    walk_at "sts"
    refine L_ixT F1.1 rfl ?_
    walk_at "sts"
    refine L_ixT F2.1 rfl ?_
    refine L_mulI (bx.cmul bv) ?_
    walk_at "sts"
    refine L_ixT F2.1 rfl ?_
    walk_at "sts"
    refine L_ixT F1.1 rfl ?_
    refine L_mulI (bu.cmul by_) ?_
    walk_at "sts"
    have bb : Bd 500 (y * v) := (by_.mul bv).mono (by decide)
    have bt : Bd 500 (x * v + u * y) := ((bx.mul bv).add (bu.mul by_)).mono (by decide)
    refine sh n2 bt bb bt bb rfl e4 ?_
    walk_at "sts"
    refine ⟨x, y, u, v, F1, F2, fun p5 H5 _ s5 e5 => ?_⟩
    have F1 : Fr2 K H5 p1 x y := ⟨s5.seqT F1.1, F1.2⟩
    have F2 : Fr2 K H5 p2 u v := ⟨s5.seqT F2.1, F2.2⟩
    walk_at "sts"
    refine L_ixT F1.1 rfl ?_
    walk_at "sts"
    refine L_ixT F2.1 rfl ?_
    refine L_mulI (bx.cmul bv) ?_
    walk_at "sts"
    refine L_ixT F2.1 rfl ?_
    walk_at "sts"
    refine L_ixT F1.1 rfl ?_
    refine L_mulI (bu.cmul by_) ?_
    walk_at "sts"
    have bt : Bd 500 (x * v - u * y) := ((bx.mul bv).sub (bu.mul by_)).mono (by decide)
    refine sh n2 bt bb bt bb rfl e5 ?_
    walk_at "sts"
    refine ⟨x, y, u, v, F1, F2, fun p6 H6 _ s6 e6 => ?_⟩
    have F1 : Fr2 K H6 p1 x y := ⟨s6.seqT F1.1, F1.2⟩
    have F2 : Fr2 K H6 p2 u v := ⟨s6.seqT F2.1, F2.2⟩
    walk_at "sts"
    refine L_ixT F1.1 rfl ?_
    walk_at "sts"
    refine L_ixT F2.1 rfl ?_
    refine L_mulI (bx.cmul bu) ?_
    walk_at "sts"
    have bt : Bd 500 (x * u) := (bx.mul bu).mono (by decide)
    refine sh n2 bt bb bt bb rfl e6 ?_
    walk_at "sts"
    refine L_cut (Mid := fun σ' H7 => σ' = [some (.ref a), some (.ref p1), some (.ref p2), some (.int m), some (.int (y * v)), none, none] ∧ Fr2 K H7 p1 x y ∧ Fr2 K H7 p2 u v) ?_ ?_
    · walk_at "sts"
      refine L_ixT F2.1 rfl ?_
      walk_at "sts"
      refine L_nd (fun c => ?_) (fun c => ?_)
      · walk_at "sts"
        refine ⟨x, y, u, v, F1, F2, c, fun p7 H7 _ s7 e7 => ?_⟩
        have F1 : Fr2 K H7 p1 x y := ⟨s7.seqT F1.1, F1.2⟩
        have F2 : Fr2 K H7 p2 u v := ⟨s7.seqT F2.1, F2.2⟩
        walk_at "sts"
        refine L_ixT F1.1 rfl ?_
        walk_at "sts"
        refine L_ixT F2.1 rfl ?_
        refine L_mulI (bx.cmul bv) ?_
        walk_at "sts"
        refine L_ixT F1.1 rfl ?_
        walk_at "sts"
        refine L_ixT F2.1 rfl ?_
        refine L_mulI (by_.cmul bu) ?_
        walk_at "sts"
        have bt : Bd 500 (x * v) := (bx.mul bv).mono (by decide)
        have bb : Bd 500 (y * u) := (by_.mul bu).mono (by decide)
        refine sh (Int.mul_ne_zero (by omega) c) bt bb bt bb rfl e7 ?_
        walk_at "sts"
        exact ⟨rfl, F1, F2⟩
      · walk_at "sts"
        exact ⟨rfl, F1, F2⟩
    · rintro σ' H7 ⟨rfl, F1, F2⟩
      walk_at "sts"
      refine L_ixT F1.1 rfl ?_
      walk_at "sts"
      refine L_ixT F2.1 rfl ?_
      refine L_mulI (bx.cmul bv) ?_
      walk_at "sts"
      refine L_ixT F2.1 rfl ?_
      walk_at "sts"
      refine L_ixT F1.1 rfl ?_
      refine L_mulI (bu.cmul by_) ?_
      walk_at "sts"
      refine L_ixT F2.1 rfl ?_
      walk_at "sts"
      refine L_ixT F1.1 rfl ?_
      refine L_mulI (bu.cmul by_) ?_
      walk_at "sts"
      refine L_ixT F1.1 rfl ?_
      walk_at "sts"
      refine L_ixT F2.1 rfl ?_
      refine L_mulI (bx.cmul bv) ?_
      walk_at "sts"
      refine ⟨x, y, u, v, F1, F2, ?_⟩
      walk_at "sts"
      refine ⟨rfl, ?_⟩
      walk_at "sts"
      refine ⟨u, v, x, y, F2, F1, ?_⟩
      walk_at "sts"
      exact ⟨rfl, q _⟩
end
theorem txt_mk {K : PySem.W.Frag} {h : Heap} {mg : Str → Option Value} (X : K.In h) (G : h.Ns mainGlobals mg)
    (z_n_abs : PySem.W.nsIn K mainGlobals "abs" = some none)
    (z_n_len : PySem.W.nsIn K mainGlobals "len" = some none)
    (z_n_bool : PySem.W.nsIn K mainGlobals "bool" = some none)
    (z_n_int : PySem.W.nsIn K mainGlobals "int" = some none)
    (z_n_isinstance : PySem.W.nsIn K mainGlobals "isinstance" = some none)
    (z_n_tuple : PySem.W.nsIn K mainGlobals "tuple" = some none)
    {f_divisor : Addr} {od_divisor an_divisor : Option Addr} {sl_divisor : Array (Option Value)} {oc_divisor kV_divisor dc_divisor pm_divisor cd_divisor ct_divisor : Value}
    (a_divisor : PySem.W.nsIn K mainGlobals "divisor" = some (some (.ref f_divisor))) (l_divisor : K.lookup f_divisor = some ⟨oc_divisor, od_divisor, .func (PySem.W.fnOf "divisor" "divisor" (defArgs s_divisor) (defBody s_divisor) (defScope s_divisor) .none kV_divisor dc_divisor pm_divisor an_divisor cd_divisor ct_divisor), sl_divisor⟩) (c_divisor : PySem.W.codeIn K cd_divisor "divisor" = true) (k_divisor : PySem.W.keepIn K (.ref f_divisor) = true)
    {f_share : Addr} {od_share an_share : Option Addr} {sl_share : Array (Option Value)} {oc_share kV_share dc_share pm_share cd_share ct_share : Value}
    (a_share : PySem.W.nsIn K mainGlobals "share" = some (some (.ref f_share))) (l_share : K.lookup f_share = some ⟨oc_share, od_share, .func (PySem.W.fnOf "share" "share" (defArgs s_share) (defBody s_share) (defScope s_share) .none kV_share dc_share pm_share an_share cd_share ct_share), sl_share⟩) (c_share : PySem.W.codeIn K cd_share "share" = true) (k_share : PySem.W.keepIn K (.ref f_share) = true)
    {f_plus : Addr} {od_plus an_plus : Option Addr} {sl_plus : Array (Option Value)} {oc_plus kV_plus dc_plus pm_plus cd_plus ct_plus : Value}
    (a_plus : PySem.W.nsIn K mainGlobals "plus" = some (some (.ref f_plus))) (l_plus : K.lookup f_plus = some ⟨oc_plus, od_plus, .func (PySem.W.fnOf "plus" "plus" (defArgs s_plus) (defBody s_plus) (defScope s_plus) .none kV_plus dc_plus pm_plus an_plus cd_plus ct_plus), sl_plus⟩) (c_plus : PySem.W.codeIn K cd_plus "plus" = true) (k_plus : PySem.W.keepIn K (.ref f_plus) = true)
    {f_minus : Addr} {od_minus an_minus : Option Addr} {sl_minus : Array (Option Value)} {oc_minus kV_minus dc_minus pm_minus cd_minus ct_minus : Value}
    (a_minus : PySem.W.nsIn K mainGlobals "minus" = some (some (.ref f_minus))) (l_minus : K.lookup f_minus = some ⟨oc_minus, od_minus, .func (PySem.W.fnOf "minus" "minus" (defArgs s_minus) (defBody s_minus) (defScope s_minus) .none kV_minus dc_minus pm_minus an_minus cd_minus ct_minus), sl_minus⟩) (c_minus : PySem.W.codeIn K cd_minus "minus" = true) (k_minus : PySem.W.keepIn K (.ref f_minus) = true)
    {f_times : Addr} {od_times an_times : Option Addr} {sl_times : Array (Option Value)} {oc_times kV_times dc_times pm_times cd_times ct_times : Value}
    (a_times : PySem.W.nsIn K mainGlobals "times" = some (some (.ref f_times))) (l_times : K.lookup f_times = some ⟨oc_times, od_times, .func (PySem.W.fnOf "times" "times" (defArgs s_times) (defBody s_times) (defScope s_times) .none kV_times dc_times pm_times an_times cd_times ct_times), sl_times⟩) (c_times : PySem.W.codeIn K cd_times "times" = true) (k_times : PySem.W.keepIn K (.ref f_times) = true)
    {f_over : Addr} {od_over an_over : Option Addr} {sl_over : Array (Option Value)} {oc_over kV_over dc_over pm_over cd_over ct_over : Value}
    (a_over : PySem.W.nsIn K mainGlobals "over" = some (some (.ref f_over))) (l_over : K.lookup f_over = some ⟨oc_over, od_over, .func (PySem.W.fnOf "over" "over" (defArgs s_over) (defBody s_over) (defScope s_over) .none kV_over dc_over pm_over an_over cd_over ct_over), sl_over⟩) (c_over : PySem.W.codeIn K cd_over "over" = true) (k_over : PySem.W.keepIn K (.ref f_over) = true)
    {f_below : Addr} {od_below an_below : Option Addr} {sl_below : Array (Option Value)} {oc_below kV_below dc_below pm_below cd_below ct_below : Value}
    (a_below : PySem.W.nsIn K mainGlobals "below" = some (some (.ref f_below))) (l_below : K.lookup f_below = some ⟨oc_below, od_below, .func (PySem.W.fnOf "below" "below" (defArgs s_below) (defBody s_below) (defScope s_below) .none kV_below dc_below pm_below an_below cd_below ct_below), sl_below⟩) (c_below : PySem.W.codeIn K cd_below "below" = true) (k_below : PySem.W.keepIn K (.ref f_below) = true)
    {f__law_cell : Addr} {od__law_cell an__law_cell : Option Addr} {sl__law_cell : Array (Option Value)} {oc__law_cell kV__law_cell dc__law_cell pm__law_cell cd__law_cell ct__law_cell : Value}
    (a__law_cell : PySem.W.nsIn K mainGlobals "_law_cell" = some (some (.ref f__law_cell))) (l__law_cell : K.lookup f__law_cell = some ⟨oc__law_cell, od__law_cell, .func (PySem.W.fnOf "_law_cell" "_law_cell" (defArgs s__law_cell) (defBody s__law_cell) (defScope s__law_cell) .none kV__law_cell dc__law_cell pm__law_cell an__law_cell cd__law_cell ct__law_cell), sl__law_cell⟩) (c__law_cell : PySem.W.codeIn K cd__law_cell "_law_cell" = true) (k__law_cell : PySem.W.keepIn K (.ref f__law_cell) = true)
    {f__law_whole : Addr} {od__law_whole an__law_whole : Option Addr} {sl__law_whole : Array (Option Value)} {oc__law_whole kV__law_whole dc__law_whole pm__law_whole cd__law_whole ct__law_whole : Value}
    (a__law_whole : PySem.W.nsIn K mainGlobals "_law_whole" = some (some (.ref f__law_whole))) (l__law_whole : K.lookup f__law_whole = some ⟨oc__law_whole, od__law_whole, .func (PySem.W.fnOf "_law_whole" "_law_whole" (defArgs s__law_whole) (defBody s__law_whole) (defScope s__law_whole) .none kV__law_whole dc__law_whole pm__law_whole an__law_whole cd__law_whole ct__law_whole), sl__law_whole⟩) (c__law_whole : PySem.W.codeIn K cd__law_whole "_law_whole" = true) (k__law_whole : PySem.W.keepIn K (.ref f__law_whole) = true)
    {f__law_divisor : Addr} {od__law_divisor an__law_divisor : Option Addr} {sl__law_divisor : Array (Option Value)} {oc__law_divisor kV__law_divisor dc__law_divisor pm__law_divisor cd__law_divisor ct__law_divisor : Value}
    (a__law_divisor : PySem.W.nsIn K mainGlobals "_law_divisor" = some (some (.ref f__law_divisor))) (l__law_divisor : K.lookup f__law_divisor = some ⟨oc__law_divisor, od__law_divisor, .func (PySem.W.fnOf "_law_divisor" "_law_divisor" (defArgs s__law_divisor) (defBody s__law_divisor) (defScope s__law_divisor) .none kV__law_divisor dc__law_divisor pm__law_divisor an__law_divisor cd__law_divisor ct__law_divisor), sl__law_divisor⟩) (c__law_divisor : PySem.W.codeIn K cd__law_divisor "_law_divisor" = true) (k__law_divisor : PySem.W.keepIn K (.ref f__law_divisor) = true)
    {f__law_lowest : Addr} {od__law_lowest an__law_lowest : Option Addr} {sl__law_lowest : Array (Option Value)} {oc__law_lowest kV__law_lowest dc__law_lowest pm__law_lowest cd__law_lowest ct__law_lowest : Value}
    (a__law_lowest : PySem.W.nsIn K mainGlobals "_law_lowest" = some (some (.ref f__law_lowest))) (l__law_lowest : K.lookup f__law_lowest = some ⟨oc__law_lowest, od__law_lowest, .func (PySem.W.fnOf "_law_lowest" "_law_lowest" (defArgs s__law_lowest) (defBody s__law_lowest) (defScope s__law_lowest) .none kV__law_lowest dc__law_lowest pm__law_lowest an__law_lowest cd__law_lowest ct__law_lowest), sl__law_lowest⟩) (c__law_lowest : PySem.W.codeIn K cd__law_lowest "_law_lowest" = true) (k__law_lowest : PySem.W.keepIn K (.ref f__law_lowest) = true)
    {f__law_fraction : Addr} {od__law_fraction an__law_fraction : Option Addr} {sl__law_fraction : Array (Option Value)} {oc__law_fraction kV__law_fraction dc__law_fraction pm__law_fraction cd__law_fraction ct__law_fraction : Value}
    (a__law_fraction : PySem.W.nsIn K mainGlobals "_law_fraction" = some (some (.ref f__law_fraction))) (l__law_fraction : K.lookup f__law_fraction = some ⟨oc__law_fraction, od__law_fraction, .func (PySem.W.fnOf "_law_fraction" "_law_fraction" (defArgs s__law_fraction) (defBody s__law_fraction) (defScope s__law_fraction) .none kV__law_fraction dc__law_fraction pm__law_fraction an__law_fraction cd__law_fraction ct__law_fraction), sl__law_fraction⟩) (c__law_fraction : PySem.W.codeIn K cd__law_fraction "_law_fraction" = true) (k__law_fraction : PySem.W.keepIn K (.ref f__law_fraction) = true)
    {f__law_is : Addr} {od__law_is an__law_is : Option Addr} {sl__law_is : Array (Option Value)} {oc__law_is kV__law_is dc__law_is pm__law_is cd__law_is ct__law_is : Value}
    (a__law_is : PySem.W.nsIn K mainGlobals "_law_is" = some (some (.ref f__law_is))) (l__law_is : K.lookup f__law_is = some ⟨oc__law_is, od__law_is, .func (PySem.W.fnOf "_law_is" "_law_is" (defArgs s__law_is) (defBody s__law_is) (defScope s__law_is) .none kV__law_is dc__law_is pm__law_is an__law_is cd__law_is ct__law_is), sl__law_is⟩) (c__law_is : PySem.W.codeIn K cd__law_is "_law_is" = true) (k__law_is : PySem.W.keepIn K (.ref f__law_is) = true)
    {f__law_truth : Addr} {od__law_truth an__law_truth : Option Addr} {sl__law_truth : Array (Option Value)} {oc__law_truth kV__law_truth dc__law_truth pm__law_truth cd__law_truth ct__law_truth : Value}
    (a__law_truth : PySem.W.nsIn K mainGlobals "_law_truth" = some (some (.ref f__law_truth))) (l__law_truth : K.lookup f__law_truth = some ⟨oc__law_truth, od__law_truth, .func (PySem.W.fnOf "_law_truth" "_law_truth" (defArgs s__law_truth) (defBody s__law_truth) (defScope s__law_truth) .none kV__law_truth dc__law_truth pm__law_truth an__law_truth cd__law_truth ct__law_truth), sl__law_truth⟩) (c__law_truth : PySem.W.codeIn K cd__law_truth "_law_truth" = true) (k__law_truth : PySem.W.keepIn K (.ref f__law_truth) = true)
    {f_law : Addr} {od_law an_law : Option Addr} {sl_law : Array (Option Value)} {oc_law kV_law dc_law pm_law cd_law ct_law : Value}
    (a_law : PySem.W.nsIn K mainGlobals "law" = some (some (.ref f_law))) (l_law : K.lookup f_law = some ⟨oc_law, od_law, .func (PySem.W.fnOf "law" "law" (defArgs s_law) (defBody s_law) (defScope s_law) .none kV_law dc_law pm_law an_law cd_law ct_law), sl_law⟩) (c_law : PySem.W.codeIn K cd_law "law" = true) (k_law : PySem.W.keepIn K (.ref f_law) = true) : Txt K mg :=
  ⟨PySem.W.mg_none_of X G z_n_abs, PySem.W.mg_none_of X G z_n_len, PySem.W.mg_none_of X G z_n_bool, PySem.W.mg_none_of X G z_n_int, PySem.W.mg_none_of X G z_n_isinstance, PySem.W.mg_none_of X G z_n_tuple, ⟨f_divisor, _, fun_mk (st := s_divisor) l_divisor c_divisor k_divisor, PySem.W.mg_of X G a_divisor, (fun_mk (st := s_divisor) l_divisor c_divisor k_divisor).binds (ps := ["one", "other"]) fun _ _ _ _ _ _ us hl => match us, hl with | [_, _], _ => rfl⟩, ⟨f_share, _, fun_mk (st := s_share) l_share c_share k_share, PySem.W.mg_of X G a_share, (fun_mk (st := s_share) l_share c_share k_share).binds (ps := ["top", "bottom"]) fun _ _ _ _ _ _ us hl => match us, hl with | [_, _], _ => rfl⟩, ⟨f_plus, _, fun_mk (st := s_plus) l_plus c_plus k_plus, PySem.W.mg_of X G a_plus, (fun_mk (st := s_plus) l_plus c_plus k_plus).binds (ps := ["one", "other"]) fun _ _ _ _ _ _ us hl => match us, hl with | [_, _], _ => rfl⟩, ⟨f_minus, _, fun_mk (st := s_minus) l_minus c_minus k_minus, PySem.W.mg_of X G a_minus, (fun_mk (st := s_minus) l_minus c_minus k_minus).binds (ps := ["one", "other"]) fun _ _ _ _ _ _ us hl => match us, hl with | [_, _], _ => rfl⟩, ⟨f_times, _, fun_mk (st := s_times) l_times c_times k_times, PySem.W.mg_of X G a_times, (fun_mk (st := s_times) l_times c_times k_times).binds (ps := ["one", "other"]) fun _ _ _ _ _ _ us hl => match us, hl with | [_, _], _ => rfl⟩, ⟨f_over, _, fun_mk (st := s_over) l_over c_over k_over, PySem.W.mg_of X G a_over, (fun_mk (st := s_over) l_over c_over k_over).binds (ps := ["one", "other"]) fun _ _ _ _ _ _ us hl => match us, hl with | [_, _], _ => rfl⟩, ⟨f_below, _, fun_mk (st := s_below) l_below c_below k_below, PySem.W.mg_of X G a_below, (fun_mk (st := s_below) l_below c_below k_below).binds (ps := ["one", "other"]) fun _ _ _ _ _ _ us hl => match us, hl with | [_, _], _ => rfl⟩, ⟨f__law_cell, _, fun_mk (st := s__law_cell) l__law_cell c__law_cell k__law_cell, PySem.W.mg_of X G a__law_cell, (fun_mk (st := s__law_cell) l__law_cell c__law_cell k__law_cell).binds (ps := ["_law_script", "_law_k"]) fun _ _ _ _ _ _ us hl => match us, hl with | [_, _], _ => rfl⟩, ⟨f__law_whole, _, fun_mk (st := s__law_whole) l__law_whole c__law_whole k__law_whole, PySem.W.mg_of X G a__law_whole, (fun_mk (st := s__law_whole) l__law_whole c__law_whole k__law_whole).binds (ps := ["_law_found"]) fun _ _ _ _ _ _ us hl => match us, hl with | [_], _ => rfl⟩, ⟨f__law_divisor, _, fun_mk (st := s__law_divisor) l__law_divisor c__law_divisor k__law_divisor, PySem.W.mg_of X G a__law_divisor, (fun_mk (st := s__law_divisor) l__law_divisor c__law_divisor k__law_divisor).binds (ps := ["_law_one", "_law_other"]) fun _ _ _ _ _ _ us hl => match us, hl with | [_, _], _ => rfl⟩, ⟨f__law_lowest, _, fun_mk (st := s__law_lowest) l__law_lowest c__law_lowest k__law_lowest, PySem.W.mg_of X G a__law_lowest, (fun_mk (st := s__law_lowest) l__law_lowest c__law_lowest k__law_lowest).binds (ps := ["_law_top", "_law_bottom"]) fun _ _ _ _ _ _ us hl => match us, hl with | [_, _], _ => rfl⟩, ⟨f__law_fraction, _, fun_mk (st := s__law_fraction) l__law_fraction c__law_fraction k__law_fraction, PySem.W.mg_of X G a__law_fraction, (fun_mk (st := s__law_fraction) l__law_fraction c__law_fraction k__law_fraction).binds (ps := ["_law_one", "_law_other"]) fun _ _ _ _ _ _ us hl => match us, hl with | [_, _], _ => rfl⟩, ⟨f__law_is, _, fun_mk (st := s__law_is) l__law_is c__law_is k__law_is, PySem.W.mg_of X G a__law_is, (fun_mk (st := s__law_is) l__law_is c__law_is k__law_is).binds (ps := ["_law_found", "_law_top", "_law_bottom"]) fun _ _ _ _ _ _ us hl => match us, hl with | [_, _, _], _ => rfl⟩, ⟨f__law_truth, _, fun_mk (st := s__law_truth) l__law_truth c__law_truth k__law_truth, PySem.W.mg_of X G a__law_truth, (fun_mk (st := s__law_truth) l__law_truth c__law_truth k__law_truth).binds (ps := ["_law_found", "_law_due"]) fun _ _ _ _ _ _ us hl => match us, hl with | [_, _], _ => rfl⟩, ⟨f_law, _, fun_mk (st := s_law) l_law c_law k_law, PySem.W.mg_of X G a_law, (fun_mk (st := s_law) l_law c_law k_law).binds (ps := ["_law_script"]) fun _ _ _ _ _ _ us hl => match us, hl with | [_], _ => rfl⟩⟩
theorem law_mk {P : Program} {w : World} {K : PySem.W.Frag} {mg : Str → Option Value} {fa : Addr} (T : Txt K mg) (hfa : mg "law" = some (.ref fa)) :
    ∃ fd : FuncData, (∀ (s : Shared) (v : Value), BindsTo s fd ⟨[v], []⟩ [("_law_script", v)]) ∧ ∀ base : Heap, K.In base → base.Ns mainGlobals mg → FnOk P w K mg base CX0 4 fa fd ["_law_script"] (sp_law K) := by
  obtain ⟨f, fd, F, hm, b⟩ := T.d_law.ex
  have e := hfa.symm.trans hm
  cases e
  refine ⟨fd, fun s v => ?_, fun base _ _ => c_law T F⟩
  obtain ⟨oc, od, kV, doc, pm, an, cdv, ct, osl, rfl, lk, hcd⟩ := F.ex
  exact .of_eq rfl
end My
open PySem PySem.W PyProof.Rows
set_option maxRecDepth 100000 in
set_option maxHeartbeats 0 in
theorem PySem.Challenge.cw_fewspeak_k11_fractions_holds : PySem.Challenge.rw_fewspeak_k11_fractions.Holds := by
  w_on; o_law; k_head; (case hw => w_witness2)
  k_fill
  refine L2.walk_ofB (l := PySem.Challenge.rw_fewspeak_k11_fractions) (n := 63) (k := 4) (x := "_law_script") (CX := fun _ => L2.CX0) (sp := fun w => My.sp_law _) rfl (by decide) rfl ⟨rfl, by decide, by decide⟩ (fun w h Y => PySem.W.kIn_of Y) ?F (fun _ _ a ns hl hb _ hS => ⟨ns, hS, hl, hb, fun _ => rfl⟩) (fun _ _ _ _ _ h => h)
  case F =>
    intro w mg fa h KX G hmg
    refine' My.law_mk (My.txt_mk KX G ?z_n_abs ?z_n_len ?z_n_bool ?z_n_int ?z_n_isinstance ?z_n_tuple ?a_divisor ?l_divisor ?c_divisor ?k_divisor ?a_share ?l_share ?c_share ?k_share ?a_plus ?l_plus ?c_plus ?k_plus ?a_minus ?l_minus ?c_minus ?k_minus ?a_times ?l_times ?c_times ?k_times ?a_over ?l_over ?c_over ?k_over ?a_below ?l_below ?c_below ?k_below ?a__law_cell ?l__law_cell ?c__law_cell ?k__law_cell ?a__law_whole ?l__law_whole ?c__law_whole ?k__law_whole ?a__law_divisor ?l__law_divisor ?c__law_divisor ?k__law_divisor ?a__law_lowest ?l__law_lowest ?c__law_lowest ?k__law_lowest ?a__law_fraction ?l__law_fraction ?c__law_fraction ?k__law_fraction ?a__law_is ?l__law_is ?c__law_is ?k__law_is ?a__law_truth ?l__law_truth ?c__law_truth ?k__law_truth ?a_law ?l_law ?c_law ?k_law) hmg
    (case z_n_abs => k_is)
    (case z_n_len => k_is)
    (case z_n_bool => k_is)
    (case z_n_int => k_is)
    (case z_n_isinstance => k_is)
    (case z_n_tuple => k_is)
    (case a_divisor => k_is)
    (case l_divisor => k_is)
    (case c_divisor => k_is)
    (case k_divisor => k_is)
    (case a_share => k_is)
    (case l_share => k_is)
    (case c_share => k_is)
    (case k_share => k_is)
    (case a_plus => k_is)
    (case l_plus => k_is)
    (case c_plus => k_is)
    (case k_plus => k_is)
    (case a_minus => k_is)
    (case l_minus => k_is)
    (case c_minus => k_is)
    (case k_minus => k_is)
    (case a_times => k_is)
    (case l_times => k_is)
    (case c_times => k_is)
    (case k_times => k_is)
    (case a_over => k_is)
    (case l_over => k_is)
    (case c_over => k_is)
    (case k_over => k_is)
    (case a_below => k_is)
    (case l_below => k_is)
    (case c_below => k_is)
    (case k_below => k_is)
    (case a__law_cell => k_is)
    (case l__law_cell => k_is)
    (case c__law_cell => k_is)
    (case k__law_cell => k_is)
    (case a__law_whole => k_is)
    (case l__law_whole => k_is)
    (case c__law_whole => k_is)
    (case k__law_whole => k_is)
    (case a__law_divisor => k_is)
    (case l__law_divisor => k_is)
    (case c__law_divisor => k_is)
    (case k__law_divisor => k_is)
    (case a__law_lowest => k_is)
    (case l__law_lowest => k_is)
    (case c__law_lowest => k_is)
    (case k__law_lowest => k_is)
    (case a__law_fraction => k_is)
    (case l__law_fraction => k_is)
    (case c__law_fraction => k_is)
    (case k__law_fraction => k_is)
    (case a__law_is => k_is)
    (case l__law_is => k_is)
    (case c__law_is => k_is)
    (case k__law_is => k_is)
    (case a__law_truth => k_is)
    (case l__law_truth => k_is)
    (case c__law_truth => k_is)
    (case k__law_truth => k_is)
    (case a_law => k_is)
    (case l_law => k_is)
    (case c_law => k_is)
    (case k_law => k_is)
#print axioms PySem.Challenge.cw_fewspeak_k11_fractions_holds

