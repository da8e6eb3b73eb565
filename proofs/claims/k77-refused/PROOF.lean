import PyProof.Rows.All
import Wide.All
import OpenK.AllK
import Wide.FinOn
import HandS.ForMost
import HandS.Exc
import HandS.TryOnly
import HandS.ExcOwn
import HandS.WordsExc
import HandS.Wide
import HandS.IsInst
import HandS.EndBits
import HandS.Conv
import HandS.Style
import HandS.TupAny
import HandS.Evl
import HandS.Walk
import HandS.ExcIs
import HandS.ExcInit
import HandS.ExcField
import HandS.ExcValue
import HandS.SetKeys
import KE.KExcIs
import HandS.Iter
import HandS.Defaults
import HandS.CallSlots
import HandS.More
import PyProof.StrBlock2
import HandS.Strs
import HandS.TupLe
import HandS.SortRule
import HandS.ListItems
import PySem.Challenge.RW_fewspeak_k77_no_bounds_and_no_answers
set_option Elab.async false
set_option linter.all false
set_option maxRecDepth 100000
set_option maxHeartbeats 4000000
namespace Kt
open PySem PySem.Spec PyProof.Rows L2
/-- a def of the top, as it stands behind the top -/
structure DefAt (K : PySem.W.Frag) (mg : Str → Option Value) (x : Str) (st : Stmt) (ps : List Str) : Prop where
  ex : ∃ (f : Addr) (fd : FuncData), Fun K x x st f fd ∧ mg x = some (.ref f) ∧ Binds K fd ps []
/-- a method of the class at C -/
structure MethAt (K : PySem.W.Frag) (C : Addr) (m qual : Str) (st : Stmt) (ps : List Str) : Prop where
  ex : ∃ (f : Addr) (fd : FuncData), Fun K m qual st f fd ∧ Meth K C m f ∧ Binds K fd ps []
structure InitAt (K : PySem.W.Frag) (C : Addr) (qual : Str) (st : Stmt) (ps : List Str) : Prop where
  ex : ∃ (f : Addr) (fd : FuncData), Fun K "__init__" qual st f fd ∧ Mk K C f ∧ Binds K fd ps []
/-- the class that a name of the module holds -/
def cA (mg : Str → Option Value) (x : Str) : Addr := match mg x with | some (.ref a) => a | _ => 0
theorem cA_of {mg : Str → Option Value} {x : Str} {a : Addr} (h : mg x = some (.ref a)) : cA mg x = a := by unfold cA; rw [h]
/-- a def that may be called by its name; a method of the class at C; a class that may be made -/
structure Cal (P : Program) (w : World) (K : PySem.W.Frag) (mg : Str → Option Value) (base : Heap) (k : Nat) (x : Str) (sp : Sp) : Prop where
  ex : ∃ (f : Addr) (fd : FuncData) (ps : List Str), FnOk P w K mg base CX0 k f fd ps sp ∧ mg x = some (.ref f) ∧ PySem.W.keepIn K (.ref f) = true ∧ Binds K fd ps []
structure Met (P : Program) (w : World) (K : PySem.W.Frag) (mg : Str → Option Value) (base : Heap) (k : Nat) (C : Addr) (m : Str) (sp : Sp) : Prop where
  ex : ∃ (f : Addr) (fd : FuncData) (ps : List Str), Cls K C ∧ Meth K C m f ∧ FnOk P w K mg base CX0 k f fd ps sp ∧ Binds K fd ps []
structure Mak (P : Program) (w : World) (K : PySem.W.Frag) (mg : Str → Option Value) (base : Heap) (k : Nat) (x : Str) (C : Addr) (sp : Sp) : Prop where
  ex : ∃ (f : Addr) (fd : FuncData) (ps : List Str), Mk K C f ∧ FnOk P w K mg base CX0 k f fd ps sp ∧ mg x = some (.ref C) ∧ Binds K fd ps []
section
variable {P : Program} {w : World} {K : PySem.W.Frag} {mg : Str → Option Value} {base : Heap}
theorem DefAt.cal {x : Str} {st : Stmt} {N ps : List Str} {k : Nat} {sp : Sp} (d : DefAt K mg x st ps) (S : FnScope N ps (defScope st)) (len : ∀ vs H Q E, sp vs H Q E → vs.length = ps.length)
    (hbody : ∀ (f : Addr) (cdv : Value) (A : Around) (outer : List Env) (s : Shared) (H : Hp) (vs : List V) (Q : VK) (E : XK), Room k (A.deeper (envOfC x (defScope st) s.heap.objs.size f cdv)) → sp vs H Q E →
      ∃ t, PSs (cxOf CX0 P w K mg base N x (defScope st) f cdv A outer s H E).nox (defBody st) t ∧ t { nx := fun _ H' => Q .non H', rt := Q } (start N vs) H) : Cal P w K mg base (k + 1) x sp := by
  obtain ⟨f, fd, F, hm, b⟩ := d.ex
  exact ⟨f, fd, ps, F.ok S len (hbody f), hm, F.kp, b⟩
/-- a def of the top by one more name -/
structure DefAtA (K : PySem.W.Frag) (mg : Str → Option Value) (x nm : Str) (st : Stmt) (ps : List Str) : Prop where
  ex : ∃ (f : Addr) (fd : FuncData), Fun K nm nm st f fd ∧ mg x = some (.ref f) ∧ Binds K fd ps []
theorem DefAtA.cal {x nm : Str} {st : Stmt} {N ps : List Str} {k : Nat} {sp : Sp} (d : DefAtA K mg x nm st ps) (S : FnScope N ps (defScope st)) (len : ∀ vs H Q E, sp vs H Q E → vs.length = ps.length)
    (hbody : ∀ (f : Addr) (cdv : Value) (A : Around) (outer : List Env) (s : Shared) (H : Hp) (vs : List V) (Q : VK) (E : XK), Room k (A.deeper (envOfC nm (defScope st) s.heap.objs.size f cdv)) → sp vs H Q E →
      ∃ t, PSs (cxOf CX0 P w K mg base N nm (defScope st) f cdv A outer s H E).nox (defBody st) t ∧ t { nx := fun _ H' => Q .non H', rt := Q } (start N vs) H) : Cal P w K mg base (k + 1) x sp := by
  obtain ⟨f, fd, F, hm, b⟩ := d.ex
  exact ⟨f, fd, ps, F.ok S len (hbody f), hm, F.kp, b⟩
theorem MethAt.met {C : Addr} {m qual : Str} {st : Stmt} {N ps : List Str} {k : Nat} {sp : Sp} (c : Cls K C) (d : MethAt K C m qual st ps) (S : FnScope N ps (defScope st)) (len : ∀ vs H Q E, sp vs H Q E → vs.length = ps.length)
    (hbody : ∀ (f : Addr) (cdv : Value) (A : Around) (outer : List Env) (s : Shared) (H : Hp) (vs : List V) (Q : VK) (E : XK), Room k (A.deeper (envOfC qual (defScope st) s.heap.objs.size f cdv)) → sp vs H Q E →
      ∃ t, PSs (cxOf CX0 P w K mg base N qual (defScope st) f cdv A outer s H E).nox (defBody st) t ∧ t { nx := fun _ H' => Q .non H', rt := Q } (start N vs) H) : Met P w K mg base (k + 1) C m sp := by
  obtain ⟨f, fd, F, hm, b⟩ := d.ex
  exact ⟨f, fd, ps, c, hm, F.ok S len (hbody f), b⟩
theorem InitAt.mak {x : Str} {C : Addr} {qual : Str} {st : Stmt} {N ps : List Str} {k : Nat} {sp : Sp} (hx : mg x = some (.ref C)) (d : InitAt K C qual st ps) (S : FnScope N ps (defScope st)) (len : ∀ vs H Q E, sp vs H Q E → vs.length = ps.length)
    (hbody : ∀ (f : Addr) (cdv : Value) (A : Around) (outer : List Env) (s : Shared) (H : Hp) (vs : List V) (Q : VK) (E : XK), Room k (A.deeper (envOfC qual (defScope st) s.heap.objs.size f cdv)) → sp vs H Q E →
      ∃ t, PSs (cxOf CX0 P w K mg base N qual (defScope st) f cdv A outer s H E).nox (defBody st) t ∧ t { nx := fun _ H' => Q .non H', rt := Q } (start N vs) H) : Mak P w K mg base (k + 1) x C sp := by
  obtain ⟨f, fd, F, hm, b⟩ := d.ex
  exact ⟨f, fd, ps, hm, F.ok S len (hbody f), hx, b⟩
/-- a def that may raise -/
structure CalX (P : Program) (w : World) (K : PySem.W.Frag) (mg : Str → Option Value) (base : Heap) (k : Nat) (x : Str) (sp : Sp) : Prop where
  ex : ∃ (f : Addr) (fd : FuncData) (ps : List Str), FnOk P w K mg base (L2.CX P w) k f fd ps sp ∧ mg x = some (.ref f) ∧ PySem.W.keepIn K (.ref f) = true ∧ Binds K fd ps []
theorem DefAt.calX {x : Str} {st : Stmt} {N ps : List Str} {k : Nat} {sp : Sp} (d : DefAt K mg x st ps) (S : FnScope N ps (defScope st)) (len : ∀ vs H Q E, sp vs H Q E → vs.length = ps.length)
    (hbody : ∀ (f : Addr) (cdv : Value) (A : Around) (outer : List Env) (s : Shared) (H : Hp) (vs : List V) (Q : VK) (E : XK), Room k (A.deeper (envOfC x (defScope st) s.heap.objs.size f cdv)) → sp vs H Q E →
      ∃ t, PSs (cxOf (L2.CX P w) P w K mg base N x (defScope st) f cdv A outer s H E) (defBody st) t ∧ t { nx := fun _ H' => Q .non H', rt := Q } (start N vs) H) : CalX P w K mg base (k + 1) x sp := by
  obtain ⟨f, fd, F, hm, b⟩ := d.ex
  exact ⟨f, fd, ps, F.okX S len (hbody f), hm, F.kp, b⟩
theorem DefAtA.calX {x nm : Str} {st : Stmt} {N ps : List Str} {k : Nat} {sp : Sp} (d : DefAtA K mg x nm st ps) (S : FnScope N ps (defScope st)) (len : ∀ vs H Q E, sp vs H Q E → vs.length = ps.length)
    (hbody : ∀ (f : Addr) (cdv : Value) (A : Around) (outer : List Env) (s : Shared) (H : Hp) (vs : List V) (Q : VK) (E : XK), Room k (A.deeper (envOfC nm (defScope st) s.heap.objs.size f cdv)) → sp vs H Q E →
      ∃ t, PSs (cxOf (L2.CX P w) P w K mg base N nm (defScope st) f cdv A outer s H E) (defBody st) t ∧ t { nx := fun _ H' => Q .non H', rt := Q } (start N vs) H) : CalX P w K mg base (k + 1) x sp := by
  obtain ⟨f, fd, F, hm, b⟩ := d.ex
  exact ⟨f, fd, ps, F.okX S len (hbody f), hm, F.kp, b⟩
end
section
variable {X : Cx} {k j : Nat} {C : Addr} {x m : Str} {sp : Sp} {p pos apos : Pos} {e o : Expr} {es : List Expr} {ta : TE} {t : TA}
theorem pe_c (c : Cal X.prog X.w X.K X.mg X.base k x sp) (hr : Room j X.A) (hk : k ≤ j) (hg : Gl X x) (ha : PA X (e :: es) t)
    (hdb : (x == ("__debug__" : Str)) = false := by decide) (he : starEach (e :: es) X.env = (false, eval e X.env) :: starEach es X.env := by rfl) (hpl : (backTo pos (starEach es X.env)).any (·.1) = false := by rfl) :
    PE X (.Call (.Name x p) (e :: es) [] pos) (tCall sp [] E0 t) := by
  obtain ⟨f, fd, ps, F, hm, kp, b⟩ := c.ex
  exact pe_call F (hr.mono hk) hg hm kp b .nil pass0 ha hdb he hpl
theorem pe_c0 (c : Cal X.prog X.w X.K X.mg X.base k x sp) (hr : Room j X.A) (hk : k ≤ j) (hg : Gl X x)
    (hdb : (x == ("__debug__" : Str)) = false := by decide) :
    PE X (.Call (.Name x p) [] [] pos) (tCall sp [] E0 tNil) := by
  obtain ⟨f, fd, ps, F, hm, kp, b⟩ := c.ex
  exact pe_call0 F (hr.mono hk) hg hm kp b .nil pass0 hdb
theorem pe_mk (c : Mak X.prog X.w X.K X.mg X.base k x C sp) (hr : Room j X.A) (hk : k + 1 ≤ j) (hg : Gl X x) (ha : PA X (e :: es) t)
    (hdb : (x == ("__debug__" : Str)) = false := by decide) (he : starEach (e :: es) X.env = (false, eval e X.env) :: starEach es X.env := by rfl) (hpl : (backTo pos (starEach es X.env)).any (·.1) = false := by rfl) :
    PE X (.Call (.Name x p) (e :: es) [] pos) (tMake C sp [] E0 t) := by
  obtain ⟨f, fd, ps, M, F, hm, b⟩ := c.ex
  exact pe_make M F (hr.mono hk) hg hm b .nil pass0 ha hdb he hpl
theorem pe_mt {pl : Sem Bool} (c : Met X.prog X.w X.K X.mg X.base k C m sp) (hr : Room j X.A) (hk : k ≤ j) (he : PE X o ta) (ha : PA X (e :: es) t)
    (hst : starEach (e :: es) X.env = (false, eval e X.env) :: starEach es X.env := by rfl) (hpl : (backTo pos (starEach es X.env)).any (·.1) = false := by rfl)
    (ht : eval (.Call (.Attribute o m apos) (e :: es) [] pos) X.env = (do
      let ov ← eval o X.env
      standAt apos.atName
      let (f, first) ← holding [ov] (getMethod ov m pl)
      callWith pos f first (backTo pos (starEach (e :: es) X.env)) (backToKw pos (keywordEach [] X.env))) := by rfl) :
    PE X (.Call (.Attribute o m apos) (e :: es) [] pos) (tMeth C m sp [] E0 ta t) := by
  obtain ⟨f, fd, ps, hc, hm, F, b⟩ := c.ex
  exact pe_meth (pl := pl) he hc hm F (hr.mono hk) b .nil pass0 ha hst hpl ht
theorem pe_mt0 {pl : Sem Bool} (c : Met X.prog X.w X.K X.mg X.base k C m sp) (hr : Room j X.A) (hk : k ≤ j) (he : PE X o ta)
    (ht : eval (.Call (.Attribute o m apos) [] [] pos) X.env = (do
      let ov ← eval o X.env
      standAt apos.atName
      let (f, first) ← holding [ov] (getMethod ov m pl)
      callWith pos f first (backTo pos (starEach [] X.env)) (backToKw pos (keywordEach [] X.env))) := by rfl) :
    PE X (.Call (.Attribute o m apos) [] [] pos) (tMeth C m sp [] E0 ta tNil) := by
  obtain ⟨f, fd, ps, hc, hm, F, b⟩ := c.ex
  exact pe_meth0 (pl := pl) he hc hm F (hr.mono hk) b .nil pass0 ht
/-- a call of a def that may raise, where nothing is raised -/
theorem pe_x0 (c : CalX X.prog X.w X.K X.mg X.base k x sp) (hr : Room j X.A) (hk : k ≤ j) (hg : Gl X x) (ha : PA X (e :: es) t)
    (hdb : (x == ("__debug__" : Str)) = false := by decide) (he : starEach (e :: es) X.env = (false, eval e X.env) :: starEach es X.env := by rfl) (hpl : (backTo pos (starEach es X.env)).any (·.1) = false := by rfl) :
    PE X (.Call (.Name x p) (e :: es) [] pos) (tCall sp [] E0 t) := by
  obtain ⟨f, fd, ps, F, hm, kp, b⟩ := c.ex
  exact pe_call F (hr.mono hk) hg hm kp b .nil passL ha hdb he hpl
end
/-- a built-in class as a value -/
theorem pe_ty {X : Cx} {x : Str} {pos : Pos} (n : String) (hg : Gl X x) (hm : X.mg x = none) (hv : bootBuiltins x = some (.type n)) (hn : x ≠ "__name__" := by decide) (hdb : (x == ("__debug__" : Str)) = false := by decide) : PE X (.Name x pos) (tC (.ty n)) :=
  pe_bltn hg hm hv rfl hn hdb
/-- a constant of the module -/
theorem pe_gc {X : Cx} {x : Str} {pos : Pos} {v : V} (hg : Gl X x) (h : ∃ u, X.mg x = some u ∧ RelV v u) (hdb : (x == ("__debug__" : Str)) = false := by decide) : PE X (.Name x pos) (tC v) := by
  obtain ⟨u, h1, h2⟩ := h
  exact pe_glob hg h1 h2 hdb
/-! ### heaps -/
theorem hp_new {H : Hp} {a b : Addr} {o o' : HO} (h : H a = none) (h' : H b = some o') : upd H a o b = some o' := by
  rw [upd_ne (ne_of_none h' h)]; exact h'
theorem hp_same {H H' : Hp} {b : Addr} {o : HO} (e : Same H H') (h : H b = some o) : H' b = some o := e b o h
theorem same_upd {H H' : Hp} {a : Addr} {o : HO} (e : Same H H') (h : H' a = none) : Same H (upd H' a o) := fun b o' q => hp_new h (e b o' q)
theorem same_new {H : Hp} {a : Addr} {o : HO} (h : H a = none) : Same H (upd H a o) := fun b o' q => hp_new h q
theorem cxOf_K {CX : CXT} {P : Program} {w : World} {K : PySem.W.Frag} {mg : Str → Option Value} {base : Heap} {N : List Str} {qual : Str} {scope : Scope} {f : Addr} {cd : Value} {A : Around} {outer : List Env} {s : Shared} {H : Hp} {E : XK} : (cxOf CX P w K mg base N qual scope f cd A outer s H E).nox.K = K := rfl
theorem cxOf_K' {CX : CXT} {P : Program} {w : World} {K : PySem.W.Frag} {mg : Str → Option Value} {base : Heap} {N : List Str} {qual : Str} {scope : Scope} {f : Addr} {cd : Value} {A : Around} {outer : List Env} {s : Shared} {H : Hp} {E : XK} : (cxOf CX P w K mg base N qual scope f cd A outer s H E).K = K := rfl
theorem cxOf_mg {CX : CXT} {P : Program} {w : World} {K : PySem.W.Frag} {mg : Str → Option Value} {base : Heap} {N : List Str} {qual : Str} {scope : Scope} {f : Addr} {cd : Value} {A : Around} {outer : List Env} {s : Shared} {H : Hp} {E : XK} : (cxOf CX P w K mg base N qual scope f cd A outer s H E).nox.mg = mg := rfl
theorem cxOf_mg' {CX : CXT} {P : Program} {w : World} {K : PySem.W.Frag} {mg : Str → Option Value} {base : Heap} {N : List Str} {qual : Str} {scope : Scope} {f : Addr} {cd : Value} {A : Around} {outer : List Env} {s : Shared} {H : Hp} {E : XK} : (cxOf CX P w K mg base N qual scope f cd A outer s H E).mg = mg := rfl
/-- a new tuple, a new list: all that stood stands -/
def NewT (H : Hp) (xs : List V) (Q : VK) : Prop := ∀ p H', H p = none → Same H H' → H' p = some (.tup xs) → Q (.ref p) H'
def NewL (H : Hp) (xs : List V) (Q : VK) : Prop := ∀ p H', H p = none → Same H H' → H' p = some (.lst xs) → Q (.ref p) H'
theorem NewT.at {H : Hp} {xs : List V} {Q : VK} (q : NewT H xs Q) (p : Addr) (h : H p = none) : Q (.ref p) (upd H p (.tup xs)) := q p _ h (same_new h) upd_same
theorem NewL.at {H : Hp} {xs : List V} {Q : VK} (q : NewL H xs Q) (p : Addr) (h : H p = none) : Q (.ref p) (upd H p (.lst xs)) := q p _ h (same_new h) upd_same
theorem NewT.of {H H' : Hp} {xs : List V} {Q : VK} (q : NewT H xs Q) (e : Same H H') : NewT H' xs Q := fun p H2 h s x => q p H2 (e.free h) (e.trans s) x
theorem NewL.of {H H' : Hp} {xs : List V} {Q : VK} (q : NewL H xs Q) (e : Same H H') : NewL H' xs Q := fun p H2 h s x => q p H2 (e.free h) (e.trans s) x
/-! ### readings by name -/
section
variable {X : Cx}
def aAdd (K : PySem.W.Frag) : R2 := fun x y H Q => rI0 (fun i j => .int (i + j)) x y H Q ∨ (∃ i j, x = .str i ∧ y = .str j ∧ i.length + j.length ≤ sizeLine ∧ Q (.str (i ++ j)) H) ∨ rCat x y H Q ∨ rCatA K x y H Q
theorem op_addA : OpR X (binaryOp .Add) (aAdd X.K) := op_add.or (op_add_str.or (op_cat.or op_catA))
def aMul : R2 := fun x y H Q => rI CMulW (fun i j => .int (i * j)) x y H Q ∨ rRep x y H Q
theorem op_mulA : OpR X (binaryOp .Mult) aMul := op_mulW.or op_rep
def aEq (K : PySem.W.Frag) : R2 := fun x y H Q => rEq x y H Q ∨ rEqD K x y H Q
theorem op_eqA {k : Nat} (hr : Room k X.A) : OpR X (compareOp .Eq) (aEq X.K) := op_eq.or (op_eqD hr.units)
def aNe (K : PySem.W.Frag) : R2 := fun x y H Q => rNe x y H Q ∨ rNeD K x y H Q
theorem op_neA {k : Nat} (hr : Room k X.A) : OpR X (compareOp .NotEq) (aNe X.K) := op_ne.or (op_neD hr.units)
def aLe : R2 := fun x y H Q => rI0 (fun i j => .bl (decide (i ≤ j))) x y H Q ∨ ∃ i j, x = .str i ∧ y = .str j ∧ Q (.bl (!decide (j.cps.toList < i.cps.toList))) H
theorem op_leA : OpR X (compareOp .LtE) aLe := op_le.or op_le_str
def aLt : R2 := fun x y H Q => rI0 (fun i j => .bl (decide (i < j))) x y H Q ∨ ∃ i j, x = .str i ∧ y = .str j ∧ Q (.bl (decide (i.cps.toList < j.cps.toList))) H
theorem op_ltA : OpR X (compareOp .Lt) aLt := op_lt.or op_lt_str
def aIn (K : PySem.W.Frag) : R2 := fun x y H Q => (∃ (c : Nat) (z : Str), x = .str ⟨#[c]⟩ ∧ y = .str z ∧ Q (.bl (decide (c ∈ z.cps.toList))) H) ∨ rIn K false x y H Q
theorem op_inA : OpR X (compareOp .In) (aIn X.K) := op_in_sign.or op_in_seq
def aNotIn (K : PySem.W.Frag) : R2 := fun x y H Q => (∃ (c : Nat) (z : Str), x = .str ⟨#[c]⟩ ∧ y = .str z ∧ Q (.bl (!decide (c ∈ z.cps.toList))) H) ∨ rIn K true x y H Q
theorem op_notInA : OpR X (compareOp .NotIn) (aNotIn X.K) := op_notIn_sign.or op_notIn_seq
def aLen (K : PySem.W.Frag) : List V → Hp → VK → Prop := fun xs H Q => (∃ p ys, xs = [.ref p] ∧ (SqL K H p ys ∨ SqT K H p ys) ∧ Q (.int ys.length) H) ∨ (∃ z, xs = [.str z] ∧ z.length ≤ sizeLine ∧ Q (.int z.length) H) ∨ (∃ a kvs, xs = [V.ref a] ∧ H a = some (.dK kvs) ∧ Q (.int kvs.length) H)
theorem call_lenA : CallR X (.builtin "len") (aLen X.K) := call_len_seq.or (call_len_str.or call_lenD)
def aAbs : List V → Hp → VK → Prop := fun xs H Q => ∃ i, xs = [.int i] ∧ Q (.int (if i < 0 then -i else i)) H
theorem call_absA : CallR X (.builtin "abs") aAbs := call_abs
def aMax2 : List V → Hp → VK → Prop := fun xs H Q => ∃ i j, xs = [.int i, .int j] ∧ Q (.int (if j > i then j else i)) H
theorem call_max2A (hc : X.calm = true) : CallR X (.builtin "max") aMax2 := call_max2 hc
def aMin2 : List V → Hp → VK → Prop := fun xs H Q => ∃ i j, xs = [.int i, .int j] ∧ Q (.int (if j < i then j else i)) H
theorem call_min2A (hc : X.calm = true) : CallR X (.builtin "min") aMin2 := call_min2 hc
def aInt1 : List V → Hp → VK → Prop := fun xs H Q => (∃ i, xs = [.int i] ∧ Q (.int i) H) ∨ ∃ k, xs = [.bl k] ∧ Q (.int (if k then 1 else 0)) H
theorem call_int1A : CallR X (.type "int") aInt1 := call_int1
def aStr1 : List V → Hp → VK → Prop := fun xs H Q => ∃ i, xs = [.int i] ∧ i.natAbs.log2 < 1920 ∧ Q (.str (toString i)) H
theorem call_str1A : CallR X (.type "str") aStr1 := call_str_int
def aList1 (K : PySem.W.Frag) : List V → Hp → VK → Prop := fun xs H Q => ∃ p ys, xs = [.ref p] ∧ (SqL K H p ys ∨ SqT K H p ys) ∧ ∀ l, H l = none → Q (.ref l) (upd H l (.lst ys))
theorem call_list1A : CallR X (.type "list") (aList1 X.K) := call_list_of
def aTuple1 (K : PySem.W.Frag) : List V → Hp → VK → Prop := fun xs H Q => ∃ p ys, xs = [.ref p] ∧ ((SqL K H p ys ∧ ∀ l, H l = none → Q (.ref l) (upd H l (.tup ys))) ∨ (SqT K H p ys ∧ Q (.ref p) H))
theorem call_tuple1A : CallR X (.type "tuple") (aTuple1 X.K) := call_tuple_of
def aTru (K : PySem.W.Frag) (ta : TE) : TT := fun σ H Q => ta σ H fun x H' => ∃ k, TruV K x H' k ∧ Q k H'
theorem pt_tru {a : Expr} {ta : TE} (ha : PE X a ta) (he : ∀ whole, isTrue a X.env whole = (do let v ← whole; standAt a.pos; holding [v] (truthy v))) : PT X a (aTru X.K ta) := pt_truth ha he
def aIsN : R2 := fun x y H Q => y = .non ∧ Q (.bl (decide (x = .non))) H
theorem op_isNA : OpR X (compareOp .Is) aIsN := op_isN
def aNotN : R2 := fun x y H Q => y = .non ∧ Q (.bl (!decide (x = .non))) H
theorem op_notNA : OpR X (compareOp .IsNot) aNotN := op_notN
end
/-! ### one step of a reading -/
section
variable {K : PySem.W.Frag} {σ : L2.St} {H : Hp} {N B C : L2.St → Hp → Prop} {R : VK} {t u : TS} {c d : TT} {ta tb te tc : TE} {tr : TA} {Q : VK} {g : TG} {i j : Nat} {v x y : V} {r r' : R2}
theorem L_seq (h : t ⟨u ⟨N, R, B, C⟩, R, B, C⟩ σ H) : tSeq t u ⟨N, R, B, C⟩ σ H := h
theorem L_next (h : N σ H) : tNext ⟨N, R, B, C⟩ σ H := h
theorem L_brk (h : B σ H) : tBreak ⟨N, R, B, C⟩ σ H := h
theorem L_cont (h : C σ H) : tCont ⟨N, R, B, C⟩ σ H := h
theorem L_ret (h : te σ H R) : tRet te ⟨N, R, B, C⟩ σ H := h
theorem L_retN (h : R .non H) : tRetN ⟨N, R, B, C⟩ σ H := h
theorem L_drop (h : te σ H fun _ H1 => N σ H1) : tDrop te ⟨N, R, B, C⟩ σ H := h
theorem L_asg (h : te σ H fun x H1 => g x σ H1 N) : tAsg te g ⟨N, R, B, C⟩ σ H := h
theorem L_gname {Q : L2.St → Hp → Prop} (h : Q (σ.set i (some v)) H) : gName i v σ H Q := h
theorem L_aug {ti : TIp} (hx : σ[i]? = some (some x)) (h : te σ H fun y H1 => ti x y H1 fun z H2 => N (σ.set i (some z)) H2) : tAug i te ti ⟨N, R, B, C⟩ σ H := ⟨x, hx, h⟩
theorem L_ipI {f : Int → Int → Int} {a b : Int} (h : Q (.int (f a b)) H) : ipI f (.int a) (.int b) H Q := ⟨a, b, rfl, rfl, h⟩
theorem L_ifS (h : c σ H fun b H1 => if b = true then t ⟨N, R, B, C⟩ σ H1 else u ⟨N, R, B, C⟩ σ H1) : tIfS c t u ⟨N, R, B, C⟩ σ H := h
theorem L_par (h : tr σ H fun vs H1 => ∃ v w, vs = [v, w] ∧ N ((σ.set i (some v)).set j (some w)) H1) : tPar i j tr ⟨N, R, B, C⟩ σ H := h
theorem L_par3 {l : Nat} (h : tr σ H fun vs H1 => ∃ u v w, vs = [u, v, w] ∧ N (((σ.set i (some u)).set j (some v)).set l (some w)) H1) : tPar3 i j l tr ⟨N, R, B, C⟩ σ H := h
theorem L_vs2 {Q : V → V → Prop} (h : Q x y) : ∃ v w, [x, y] = [v, w] ∧ Q v w := ⟨x, y, rfl, h⟩
theorem L_vs3 {z : V} {Q : V → V → V → Prop} (h : Q x y z) : ∃ u v w, [x, y, z] = [u, v, w] ∧ Q u v w := ⟨x, y, z, rfl, h⟩
theorem L_var (h : σ[i]? = some (some v)) (q : Q v H) : tVar i σ H Q := ⟨v, h, q⟩
theorem L_c (q : Q v H) : tC v σ H Q := q
theorem L_op (h : ta σ H fun x H1 => tb σ H1 fun y H2 => r x y H2 Q) : tOp r ta tb σ H Q := h
theorem L_un {r : V → Hp → VK → Prop} (h : ta σ H fun x H1 => r x H1 Q) : tUn r ta σ H Q := h
theorem L_rU {g : Int → V} {i : Int} (q : Q (g i) H) : rU g (.int i) H Q := ⟨i, rfl, q⟩
theorem L_I0 {g : Int → Int → V} {i j : Int} (q : Q (g i j) H) : rI0 g (.int i) (.int j) H Q := ⟨i, j, rfl, rfl, q⟩
theorem L_I {C : Int → Int → Prop} {g : Int → Int → V} {i j : Int} (hc : C i j) (q : Q (g i j) H) : rI C g (.int i) (.int j) H Q := ⟨i, j, rfl, rfl, hc, q⟩
theorem L_addI {i j : Int} (q : Q (.int (i + j)) H) : aAdd K (.int i) (.int j) H Q := .inl ⟨i, j, rfl, rfl, q⟩
theorem L_addS {a b : Str} (hl : a.length + b.length ≤ sizeLine) (q : Q (.str (a ++ b)) H) : aAdd K (.str a) (.str b) H Q := .inr (.inl ⟨a, b, rfl, rfl, hl, q⟩)
theorem L_addL {a b : Addr} {xs ys : List V} (ha : H a = some (.lst xs)) (hb : H b = some (.lst ys)) (hl : xs.length + ys.length ≤ sizeLine) (q : ∀ p, H p = none → Q (.ref p) (upd H p (.lst (xs ++ ys)))) : aAdd K (.ref a) (.ref b) H Q := .inr (.inr (.inl ⟨a, b, xs, ys, rfl, rfl, ha, hb, hl, q⟩))
theorem L_mulI {i j : Int} (hc : CMulW i j) (q : Q (.int (i * j)) H) : aMul (.int i) (.int j) H Q := .inl ⟨i, j, rfl, rfl, hc, q⟩
theorem L_eqI {i j : Int} (q : Q (.bl (decide (i = j))) H) : aEq K (.int i) (.int j) H Q := .inl ⟨rfl, by rw [show decide (V.int i = V.int j) = decide (i = j) by simp]; exact q⟩
theorem L_eqS {i j : Str} (q : Q (.bl (decide (i = j))) H) : aEq K (.str i) (.str j) H Q := .inl ⟨rfl, by rw [show decide (V.str i = V.str j) = decide (i = j) by simp]; exact q⟩
theorem L_eqB {i j : Bool} (q : Q (.bl (decide (i = j))) H) : aEq K (.bl i) (.bl j) H Q := .inl ⟨rfl, by rw [show decide (V.bl i = V.bl j) = decide (i = j) by simp]; exact q⟩
theorem L_neI {i j : Int} (q : Q (.bl (!decide (i = j))) H) : aNe K (.int i) (.int j) H Q := .inl ⟨rfl, by rw [show decide (V.int i = V.int j) = decide (i = j) by simp]; exact q⟩
theorem L_neS {i j : Str} (q : Q (.bl (!decide (i = j))) H) : aNe K (.str i) (.str j) H Q := .inl ⟨rfl, by rw [show decide (V.str i = V.str j) = decide (i = j) by simp]; exact q⟩
theorem L_eqD {d e : PyData} (hx : Dp K H x d) (hy : Dp K H y e) (sd : SeqAt.shaped d = true) (se : SeqAt.shaped e = true) (q : Q (.bl (PyData.eqv d e)) H) : aEq K x y H Q := .inr ⟨d, e, hx, hy, sd, se, q⟩
theorem L_neD {d e : PyData} (hx : Dp K H x d) (hy : Dp K H y e) (sd : SeqAt.shaped d = true) (se : SeqAt.shaped e = true) (q : Q (.bl (!PyData.eqv d e)) H) : aNe K x y H Q := .inr ⟨d, e, hx, hy, sd, se, q⟩
theorem L_leI {i j : Int} (q : Q (.bl (decide (i ≤ j))) H) : aLe (.int i) (.int j) H Q := .inl ⟨i, j, rfl, rfl, q⟩
theorem L_leS {i j : Str} (q : Q (.bl (!decide (j.cps.toList < i.cps.toList))) H) : aLe (.str i) (.str j) H Q := .inr ⟨i, j, rfl, rfl, q⟩
theorem L_ltI {i j : Int} (q : Q (.bl (decide (i < j))) H) : aLt (.int i) (.int j) H Q := .inl ⟨i, j, rfl, rfl, q⟩
theorem L_isN (q : Q (.bl (decide (x = .non))) H) : aIsN x .non H Q := ⟨rfl, q⟩
theorem L_notN (q : Q (.bl (!decide (x = .non))) H) : aNotN x .non H Q := ⟨rfl, q⟩
theorem L_inC {a : Nat} {z : Str} (q : Q (.bl (decide (a ∈ z.cps.toList))) H) : aIn K (.str ⟨#[a]⟩) (.str z) H Q := .inl ⟨a, z, rfl, rfl, q⟩
theorem L_notInC {a : Nat} {z : Str} (q : Q (.bl (!decide (a ∈ z.cps.toList))) H) : aNotIn K (.str ⟨#[a]⟩) (.str z) H Q := .inl ⟨a, z, rfl, rfl, q⟩
theorem L_fld {f : Str} (h : ta σ H fun x H1 => ∃ a C dx fs v, x = .ref a ∧ H1 a = some (.ins C dx fs) ∧ Cls K C ∧ NoAttr K C f ∧ fs.lookup f = some v ∧ Q v H1) : tFld K ta f σ H Q := h
theorem L_fldv {a C dx : Addr} {fs : List (Str × V)} {f : Str} {Q : V → Prop} (h : H a = some (.ins C dx fs)) (cl : Cls K C) (n : NoAttr K C f) (l : fs.lookup f = some v) (q : Q v) :
    ∃ a' C dx fs v, V.ref a = V.ref a' ∧ H a' = some (.ins C dx fs) ∧ Cls K C ∧ NoAttr K C f ∧ fs.lookup f = some v ∧ Q v := ⟨a, C, dx, fs, v, rfl, h, cl, n, l, q⟩
theorem L_tTest {Q : Bool → Hp → Prop} (h : te σ H fun x H' => ∃ k, x = .bl k ∧ Q k H') : tTest te σ H Q := h
theorem L_tB {Q : Bool → Hp → Prop} (h : te σ H fun x H' => ∃ k, x = .bl k ∧ Q k H') : tB te σ H Q := h
theorem L_k {b : Bool} {Q : Bool → Prop} (q : Q b) : ∃ k, V.bl b = V.bl k ∧ Q k := ⟨b, rfl, q⟩
theorem L_tru {Q : Bool → Hp → Prop} (h : te σ H fun x H' => ∃ k, TruV K x H' k ∧ Q k H') : aTru K te σ H Q := h
theorem L_truB {b : Bool} {Q : Bool → Prop} (q : Q b) : ∃ k, TruV K (.bl b) H k ∧ Q k := ⟨b, rfl, q⟩
theorem L_truI {i : Int} {Q : Bool → Prop} (q : Q (i != 0)) : ∃ k, TruV K (.int i) H k ∧ Q k := ⟨_, rfl, q⟩
theorem L_and {Q : Bool → Hp → Prop} (h : c σ H fun b H1 => if b = true then d σ H1 Q else Q false H1) : tAnd c d σ H Q := h
theorem L_or {Q : Bool → Hp → Prop} (h : c σ H fun b H1 => if b = true then Q true H1 else d σ H1 Q) : tOr c d σ H Q := h
theorem L_not {Q : Bool → Hp → Prop} (h : c σ H fun b H1 => Q (!b) H1) : tNot c σ H Q := h
theorem L_andV (h : ta σ H fun x H1 => ∃ c, x = .bl c ∧ if c = true then tb σ H1 Q else Q (.bl false) H1) : tAndV ta tb σ H Q := h
theorem L_orV (h : ta σ H fun x H1 => ∃ c, x = .bl c ∧ if c = true then Q (.bl true) H1 else tb σ H1 Q) : tOrV ta tb σ H Q := h
theorem L_notV (h : ta σ H fun x H1 => ∃ c, x = .bl c ∧ Q (.bl (!c)) H1) : tNotV ta σ H Q := h
theorem L_ifE (h : c σ H fun b H1 => if b = true then ta σ H1 Q else tb σ H1 Q) : tIf c ta tb σ H Q := h
theorem L_chain (h : ta σ H fun x H1 => tb σ H1 fun y H2 => r x y H2 fun z H3 => ∃ k, z = .bl k ∧ (if k = true then tc σ H3 fun w' H4 => r' y w' H4 Q else Q (.bl false) H3)) : tChain r r' ta tb tc σ H Q := h
theorem L_T {A B : Prop} (a : A) : if true = true then A else B := by rw [if_pos rfl]; exact a
theorem L_F {A B : Prop} (b : B) : if false = true then A else B := by rw [if_neg Bool.false_ne_true]; exact b
theorem L_dT {p : Prop} [Decidable p] {A B : Prop} (h : p) (a : A) : if decide p = true then A else B := by rw [decide_eq_true h]; exact L_T a
theorem L_dF {p : Prop} [Decidable p] {A B : Prop} (h : ¬ p) (b : B) : if decide p = true then A else B := by rw [decide_eq_false h]; exact L_F b
theorem L_d {p : Prop} [Decidable p] {A B : Prop} (a : p → A) (b : ¬ p → B) : if decide p = true then A else B := by
  by_cases h : p
  · exact L_dT h (a h)
  · exact L_dF h (b h)
theorem L_nd {p : Prop} [Decidable p] {A B : Prop} (a : ¬ p → A) (b : p → B) : if (!decide p) = true then A else B := by
  by_cases h : p
  · rw [decide_eq_true h]; exact L_F (b h)
  · rw [decide_eq_false h]; exact L_T (a h)
theorem L_ndT {p : Prop} [Decidable p] {A B : Prop} (h : ¬ p) (a : A) : if (!decide p) = true then A else B := by rw [decide_eq_false h]; exact L_T a
theorem L_ndF {p : Prop} [Decidable p] {A B : Prop} (h : p) (b : B) : if (!decide p) = true then A else B := by rw [decide_eq_true h]; exact L_F b
theorem L_b {k : Bool} {A B : Prop} (a : k = true → A) (b : k = false → B) : if k = true then A else B := by
  cases k with
  | true => exact L_T (a rfl)
  | false => exact L_F (b rfl)
theorem L_nT {A B : Prop} (b : B) : if (!true) = true then A else B := L_F b
theorem L_nF {A B : Prop} (a : A) : if (!false) = true then A else B := L_T a
theorem L_nil {Q : List V → Hp → Prop} (q : Q [] H) : tNil σ H Q := q
theorem L_cons {Q : List V → Hp → Prop} (h : ta σ H fun x H1 => tr σ H1 fun xs H2 => Q (x :: xs) H2) : tCons ta tr σ H Q := h
theorem L_tup (h : tr σ H fun xs H1 => xs.length ≤ sizeLine ∧ ∀ p, H1 p = none → Q (.ref p) (upd H1 p (.tup xs))) : tTup tr σ H Q := h
theorem L_lst (h : tr σ H fun xs H1 => xs.length ≤ sizeLine ∧ ∀ p, H1 p = none → Q (.ref p) (upd H1 p (.lst xs))) : tLst tr σ H Q := h
theorem L_new {n : Nat} {R : Prop} (hl : n ≤ sizeLine) (q : R) : n ≤ sizeLine ∧ R := ⟨hl, q⟩
theorem L_call {sp : Sp} {E : XK} (h : tr σ H fun vs H1 => sp vs H1 Q E) : tCall sp [] E tr σ H Q := by
  unfold tCall
  simp only [List.append_nil]
  exact h
theorem L_cb {r : List V → Hp → VK → Prop} (h : tr σ H fun vs H1 => r vs H1 Q) : tCB r tr σ H Q := h
theorem L_lenL {a : Addr} {xs : List V} (h : SqL K H a xs) (q : Q (.int xs.length) H) : aLen K [.ref a] H Q := .inl ⟨a, xs, rfl, .inl h, q⟩
theorem L_lenT {a : Addr} {xs : List V} (h : SqT K H a xs) (q : Q (.int xs.length) H) : aLen K [.ref a] H Q := .inl ⟨a, xs, rfl, .inr h, q⟩
theorem L_lenS {z : Str} (h : z.length ≤ sizeLine) (q : Q (.int z.length) H) : aLen K [.str z] H Q := .inr (.inl ⟨z, rfl, h, q⟩)
theorem L_abs {i : Int} (q : Q (.int (if i < 0 then -i else i)) H) : aAbs [.int i] H Q := ⟨i, rfl, q⟩
theorem L_max2 {i j : Int} (q : Q (.int (max i j)) H) : aMax2 [.int i, .int j] H Q := ⟨i, j, rfl, by rw [show (if j > i then j else i) = max i j by omega]; exact q⟩
theorem L_min2 {i j : Int} (q : Q (.int (min i j)) H) : aMin2 [.int i, .int j] H Q := ⟨i, j, rfl, by rw [show (if j < i then j else i) = min i j by omega]; exact q⟩
theorem L_int1 {i : Int} (q : Q (.int i) H) : aInt1 [.int i] H Q := .inl ⟨i, rfl, q⟩
theorem L_int1B {k : Bool} (q : Q (.int (if k then 1 else 0)) H) : aInt1 [.bl k] H Q := .inr ⟨k, rfl, q⟩
theorem L_isi {a n : String} {b : Bool} (hx : TyX K H x (.type a)) (hk : kitB a n = some b) (q : Q (.bl b) H) : rIsi K [x, .ty n] H Q := ⟨x, .ty n, .type a, .type n, b, rfl, .ty n, hx, kit_ty hk, q⟩
theorem L_ixL {p : Addr} {xs : List V} {i : Int} (h : SqL K H p xs) (ha : atI xs i = some v) (q : Q v H) : rIx K (.ref p) (.int i) H Q := .inl ⟨p, xs, i, v, rfl, rfl, h, ha, q⟩
theorem L_ixT {p : Addr} {xs : List V} {i : Int} (h : SqT K H p xs) (ha : atI xs i = some v) (q : Q v H) : rIx K (.ref p) (.int i) H Q := .inr (.inl ⟨p, xs, i, v, rfl, rfl, h, ha, q⟩)
theorem L_ixS {z : Str} {i : Int} {a : Nat} (h : z.length ≤ sizeLine) (ha : atI z.cps.toList i = some a) (q : Q (.str ⟨#[a]⟩) H) : rIx K (.str z) (.int i) H Q := .inr (.inr ⟨z, i, a, rfl, rfl, h, ha, q⟩)
theorem L_bm {T : String} {r : V → List V → Hp → VK → Prop} (h : te σ H fun x H1 => tyV K T x H1 ∧ tr σ H1 fun xs H2 => r x xs H2 Q) : tBM K T r te tr σ H Q := h
theorem L_tyL {a : Addr} {xs : List V} {R : Prop} (h : SqL K H a xs) (q : R) : tyV K "list" (.ref a) H ∧ R := ⟨.inl ⟨rfl, xs, h⟩, q⟩
theorem L_app {a : Addr} {xs : List V} (h : H a = some (.lst xs)) (hl : xs.length < sizeLine) (q : Q .non (upd H a (.lst (xs ++ [v])))) : rAppend (.ref a) [v] H Q := ⟨a, xs, v, rfl, rfl, h, hl, q⟩
theorem L_sum {a : Addr} {ns : List Int} (h : SqL K H a (ns.map V.int)) (q : Q (.int ns.sum) H) : rSum K [.ref a] H Q := ⟨a, ns, rfl, h, q⟩
theorem L_while (W : Nat → L2.St → Hp → Prop) (h0 : ∃ m, W m σ H) (hs : ∀ m σ H, W m σ H → c σ H fun b H1 => if b = true then ∃ M : L2.St → Hp → Prop, (∀ σ' H', M σ' H' → ∃ m', m' < m ∧ W m' σ' H') ∧ t ⟨M, R, N, M⟩ σ H1 else N σ H1) : tWhile c t ⟨N, R, B, C⟩ σ H := ⟨W, h0, hs⟩
theorem L_N {W : Nat → L2.St → Hp → Prop} {m : Nat} (h : t ⟨fun σ' H' => ∃ m', m' < m ∧ W m' σ' H', R, N, fun σ' H' => ∃ m', m' < m ∧ W m' σ' H'⟩ σ H) :
    ∃ M : L2.St → Hp → Prop, (∀ σ' H', M σ' H' → ∃ m', m' < m ∧ W m' σ' H') ∧ t ⟨M, R, N, M⟩ σ H := ⟨_, fun _ _ h => h, h⟩
theorem L_cut {Mid : L2.St → Hp → Prop} (h : t ⟨Mid, R, B, C⟩ σ H) (k : ∀ σ' H', Mid σ' H' → u ⟨N, R, B, C⟩ σ' H') : Evl.tCut t u ⟨N, R, B, C⟩ σ H := ⟨Mid, h, k⟩
theorem L_for {wi : TI} (h : wi σ H fun J H1 => ∃ W : Nat → Nat → L2.St → Hp → Prop, (∃ m, W 0 m σ H1) ∧ ∀ i m σ H, W i m σ H →
      (J.stop i H ∧ N σ H) ∨ (J.go i H ∧ ∃ M : L2.St → Hp → Prop, (∀ σ' H', M σ' H' → ∃ m', m' < m ∧ W (i + 1) m' σ' H') ∧ ∀ x H', J.yld i H x H' → g x σ H' fun σ2 H2 => t ⟨M, R, N, M⟩ σ2 H2)) : tFor wi g t ⟨N, R, B, C⟩ σ H := h
theorem L_iRng1 {R : It → Hp → Prop} (h : tr σ H fun vs H1 => ∃ j : Int, vs = [.int j] ∧ -(2 ^ 62) ≤ j ∧ j < 2 ^ 62 ∧ R (Itr 0 j.toNat) H1) : iRng1 tr σ H R := h
theorem L_iRng2 {R : It → Hp → Prop} (h : tr σ H fun vs H1 => ∃ i j : Int, vs = [.int i, .int j] ∧ (-(2 ^ 62) ≤ i ∧ i < 2 ^ 62 ∧ -(2 ^ 62) ≤ j ∧ j < 2 ^ 62) ∧ R (Itr i (j - i).toNat) H1) : iRng2 tr σ H R := h
theorem L_iList {R : It → Hp → Prop} (h : te σ H fun x H1 => ∃ a, x = .ref a ∧ (∃ xs, SqL K H1 a xs) ∧ R (Itl K a) H1) : iList K te σ H R := h
theorem L_iTup {R : It → Hp → Prop} (h : te σ H fun x H1 => ∃ a, x = .ref a ∧ (∃ xs, SqT K H1 a xs) ∧ R (Itt K a) H1) : iTup K te σ H R := h
theorem L_r1 {n : Int} {R : Int → Prop} (h1 : -(2 ^ 62) ≤ n) (h2 : n < 2 ^ 62) (q : R n) : ∃ j : Int, [V.int n] = [V.int j] ∧ -(2 ^ 62) ≤ j ∧ j < 2 ^ 62 ∧ R j := ⟨n, rfl, h1, h2, q⟩
theorem L_r2 {a n : Int} {R : Int → Int → Prop} (h : -(2 ^ 62) ≤ a ∧ a < 2 ^ 62 ∧ -(2 ^ 62) ≤ n ∧ n < 2 ^ 62) (q : R a n) : ∃ i j : Int, [V.int a, V.int n] = [V.int i, V.int j] ∧ (-(2 ^ 62) ≤ i ∧ i < 2 ^ 62 ∧ -(2 ^ 62) ≤ j ∧ j < 2 ^ 62) ∧ R i j := ⟨a, n, rfl, h, q⟩
theorem L_rl {a : Addr} {xs : List V} {R : Addr → Prop} (h : SqL K H a xs) (q : R a) : ∃ b, V.ref a = V.ref b ∧ (∃ xs, SqL K H b xs) ∧ R b := ⟨a, rfl, ⟨xs, h⟩, q⟩
theorem L_rt {a : Addr} {xs : List V} {R : Addr → Prop} (h : SqT K H a xs) (q : R a) : ∃ b, V.ref a = V.ref b ∧ (∃ xs, SqT K H b xs) ∧ R b := ⟨a, rfl, ⟨xs, h⟩, q⟩
end
theorem sz_dec {n : Nat} (h : n ≤ 1000000) : n ≤ sizeLine := Nat.le_trans h (by decide)
theorem sz_lt {n : Nat} (h : n < 1000000) : n < sizeLine := Nat.lt_of_lt_of_le h (by decide)
/-! ### sizes of ints -/
/-- less than n bits -/
def Bd (n : Nat) (i : Int) : Prop := i.natAbs < 2 ^ n
theorem Bd.mono {n m : Nat} {i : Int} (h : Bd n i) (hm : n ≤ m) : Bd m i := Nat.lt_of_lt_of_le h (Nat.pow_le_pow_right (by decide) hm)
theorem Bd.mul {n m : Nat} {i j : Int} (h : Bd n i) (k : Bd m j) : Bd (n + m) (i * j) := wide_lt h k
theorem Bd.add {n m : Nat} {i j : Int} (h : Bd n i) (k : Bd m j) : Bd (max n m + 1) (i + j) := by
  have a := h.mono (Nat.le_max_left n m)
  have b := k.mono (Nat.le_max_right n m)
  unfold Bd at *
  rw [Nat.pow_succ]
  have := Int.natAbs_add_le i j
  omega
theorem Bd.neg {n : Nat} {i : Int} (h : Bd n i) : Bd n (-i) := by unfold Bd at *; rw [Int.natAbs_neg]; exact h
theorem Bd.sub {n m : Nat} {i j : Int} (h : Bd n i) (k : Bd m j) : Bd (max n m + 1) (i - j) := by
  rw [Int.sub_eq_add_neg]; exact h.add k.neg
theorem Bd.cmul {n m : Nat} {i j : Int} (h : Bd n i) (k : Bd m j) (hz : n + m + 2 ≤ 1000000 := by decide) : CMulW i j :=
  wide_mul (h.mono (Nat.le_succ n)) (k.mono (Nat.le_succ m)) (Nat.succ_pos _) (Nat.succ_pos _) (by omega)
theorem Bd.cdiv {n : Nat} {i j : Int} (k : Bd n j) (h : 0 < j) (hz : n + 1 ≤ 9000 := by decide) : CDivW i j := wide_div h (k.mono (Nat.le_succ n)) (Nat.succ_pos _) hz
theorem bd_lit {i : Int} (h : -4294967296 < i ∧ i < 4294967296) : Bd 32 i := by
  unfold Bd
  have : (2 : Nat) ^ 32 = 4294967296 := by decide
  omega
theorem bd_64 {i : Int} (h : -18446744073709551616 < i ∧ i < 18446744073709551616) : Bd 64 i := by
  unfold Bd
  have : (2 : Nat) ^ 64 = 18446744073709551616 := by decide
  omega
/-- an item of the script, or what stands in its place -/
def cellAt (ns : List Int) (k d : Int) : Int := if k < (ns.length : Int) then ns.getD k.toNat 0 else d
theorem cellAt_in {ns : List Int} {k d : Int} (h0 : 0 ≤ k) (h : k < (ns.length : Int)) : atI (ns.map V.int) k = some (V.int (cellAt ns k d)) := by
  obtain ⟨j, rfl⟩ : ∃ j : Nat, k = (j : Int) := ⟨k.toNat, by omega⟩
  have hl : j < ns.length := by omega
  unfold cellAt
  rw [if_pos h]
  refine atI_nat ?_
  rw [List.getElem?_map, List.getElem?_eq_getElem hl]
  simp [List.getD, List.getElem?_eq_getElem hl]
theorem cellAt_out {ns : List Int} {k d : Int} (h : ¬ k < (ns.length : Int)) : cellAt ns k d = d := if_neg h
theorem cellAt_mem {ns : List Int} {k d : Int} (h0 : 0 ≤ k) : cellAt ns k d ∈ ns ∨ cellAt ns k d = d := by
  unfold cellAt
  split
  · rename_i h
    have hl : k.toNat < ns.length := by omega
    left
    simp [List.getD, List.getElem?_eq_getElem hl]
  · exact .inr rfl
theorem _root_.L2.Same.seqT {K : PySem.W.Frag} {H H' : Hp} {a : Addr} {xs : List V} (e : Same H H') (h : SqT K H a xs) : SqT K H' a xs := by
  rcases h with (h | ⟨o, h⟩) | h
  · exact .inl (.inl (e _ _ h))
  · exact .inl (.inr ⟨o, e _ _ h⟩)
  · exact .inr h
/-! ### what is walked: more -/
section
variable {K : PySem.W.Frag} {σ : L2.St} {H : Hp} {te : TE} {tr : TA} {Q : VK} {g : TG} {tt : TT}
theorem L_yes {Q : Bool → Hp → Prop} (q : Q true H) : tYes σ H Q := q
theorem L_iZip {R : It → Hp → Prop} (h : tr σ H fun vs H1 => ∃ a b xs ys, vs = [.ref a, .ref b] ∧ SqL K H1 a xs ∧ SqL K H1 b ys ∧ R (Itz K a b) H1) : iZip K tr σ H R := h
theorem L_iEnum {R : It → Hp → Prop} (h : tr σ H fun vs H1 => ∃ a xs, vs = [.ref a] ∧ SqL K H1 a xs ∧ R (Ite K a) H1) : iEnum K tr σ H R := h
theorem L_iStr {R : It → Hp → Prop} (h : te σ H fun v H1 => ∃ x, v = .str x ∧ R (Its x) H1) : iStr te σ H R := h
theorem L_iRng3 {R : It → Hp → Prop} (h : tr σ H fun vs H1 => ∃ (i j c : Int) (n : Nat), vs = [.int i, .int j, .int c] ∧ RgC i j c n ∧ R (Itc i c n) H1) : iRng3 tr σ H R := h
theorem L_rz {a b : Addr} {xs ys : List V} {R : Addr → Addr → Prop} (h1 : SqL K H a xs) (h2 : SqL K H b ys) (q : R a b) : ∃ a' b' xs ys, [V.ref a, V.ref b] = [.ref a', .ref b'] ∧ SqL K H a' xs ∧ SqL K H b' ys ∧ R a' b' := ⟨a, b, xs, ys, rfl, h1, h2, q⟩
theorem L_re {a : Addr} {xs : List V} {R : Addr → Prop} (h1 : SqL K H a xs) (q : R a) : ∃ a' xs, [V.ref a] = [.ref a'] ∧ SqL K H a' xs ∧ R a' := ⟨a, xs, rfl, h1, q⟩
theorem L_rs {z : Str} {R : Str → Prop} (q : R z) : ∃ x, V.str z = .str x ∧ R x := ⟨z, rfl, q⟩
theorem L_r3 {i j c : Int} {n : Nat} {R : Int → Int → Nat → Prop} (h : RgC i j c n) (q : R i c n) : ∃ (i' j' c' : Int) (n : Nat), [V.int i, V.int j, V.int c] = [.int i', .int j', .int c'] ∧ RgC i' j' c' n ∧ R i' c' n := ⟨i, j, c, n, rfl, h, q⟩
theorem L_lc {wi : TI} {vs : List Nat} (h : wi σ H fun J H1 => ∀ D, H1 D = none → ∃ W : Nat → Nat → Hp → Prop, (∃ m, W 0 m (upd H1 D (.lst []))) ∧ ∀ i m H, W i m H →
  (J.stop i H ∧ Q (.ref D) H) ∨ (J.go i H ∧ ∃ Nx : Hp → Prop, (∀ H', Nx H' → ∃ m', m' < m ∧ W (i + 1) m' H') ∧ ∀ x H', J.yld i H x H' → g x (wipe σ vs) H' fun σ2 H2 => wipe σ2 vs = wipe σ vs ∧ tt σ2 H2 fun b H3 =>
    if b = true then te σ2 H3 fun y H4 => ∃ acc, H4 D = some (.lst acc) ∧ acc.length < sizeLine ∧ Nx (upd H4 D (.lst (acc ++ [y]))) else Nx H3)) : tLc wi g tt te vs σ H Q := h
theorem fm_succ (f : Nat → Option V) (i : Nat) : (List.range (i + 1)).filterMap f = (List.range i).filterMap f ++ (match f i with | some y => [y] | none => []) := by
  rw [List.range_succ, List.filterMap_append]
  cases h : f i <;> simp [h]
theorem fm_len (f : Nat → Option V) (i : Nat) : ((List.range i).filterMap f).length ≤ i := by
  have := List.length_filterMap_le f (List.range i)
  simpa using this
/-- a comprehension whose things are told one by one: f i is what turn i gives, none where its test is false -/
theorem lc_fm {J : It} {n : Nat} {G : Hp → Prop} {Y : Nat → Hp → V → Hp → Prop} (w : L2.Walk J n G Y) {vs : List Nat} {Qd : Addr → Hp → Prop} (f : Nat → Option V) (hn : n ≤ 1000000) (hG : ∀ H', Same H H' → G H')
    (hs : ∀ i x H2 H' (R : V → Hp → Prop) (R' : Hp → Prop), i < n → Same H H2 → Y i H2 x H' → (∀ y H4, f i = some y → Same H2 H4 → R y H4) → (∀ H3, f i = none → Same H2 H3 → R' H3) →
      g x (wipe σ vs) H' fun σ2 H2 => wipe σ2 vs = wipe σ vs ∧ tt σ2 H2 fun b H3 => if b = true then te σ2 H3 R else R' H3)
    (q : ∀ p H', H p = none → Same H H' → H' p = some (.lst ((List.range n).filterMap f)) → Qd p H') :
    ∀ D, H D = none → ∃ W : Nat → Nat → Hp → Prop, (∃ m, W 0 m (upd H D (.lst []))) ∧ ∀ i m H, W i m H →
      (J.stop i H ∧ Qd D H) ∨ (J.go i H ∧ ∃ Nx : Hp → Prop, (∀ H', Nx H' → ∃ m', m' < m ∧ W (i + 1) m' H') ∧ ∀ x H', J.yld i H x H' → g x (wipe σ vs) H' fun σ2 H2 => wipe σ2 vs = wipe σ vs ∧ tt σ2 H2 fun b H3 =>
        if b = true then te σ2 H3 fun y H4 => ∃ acc, H4 D = some (.lst acc) ∧ acc.length < sizeLine ∧ Nx (upd H4 D (.lst (acc ++ [y]))) else Nx H3) := by
  intro D hD
  refine lc_it w (fun i H2 => Same H H2 ∧ H2 D = some (.lst ((List.range i).filterMap f))) ⟨same_new hD, upd_same⟩ (fun i H2 _ p => hG H2 p.1) ?_ (fun H2 p => q D H2 hD p.1 p.2)
  intro i x H2 H' hi ⟨p1, p2⟩ y
  refine hs i x H2 H' _ _ hi p1 y (fun y H4 e s => ?_) (fun H3 e s => ?_)
  · refine ⟨_, s _ _ p2, sz_lt (by have := fm_len f i; omega), ?_, ?_⟩
    · intro b o hb
      rw [upd_ne (ne_of_none hb hD)]
      exact s _ _ (p1 _ _ hb)
    · rw [fm_succ, e]; exact upd_same
  · refine ⟨p1.trans s, ?_⟩
    rw [fm_succ, e, List.append_nil]
    exact s _ _ p2
theorem fm_map {α : Type} (f : Nat → α) (h : α → V) (n : Nat) : (List.range n).filterMap (fun i => some (h (f i))) = ((List.range n).map f).map h := by
  rw [List.map_map]
  induction n with
  | zero => rfl
  | succ n ih => rw [fm_succ (fun i => some (h (f i))), ih, List.range_succ, List.map_append]; rfl
theorem rgC_up {i j c : Int} (hc : 0 < c) (hc2 : c < 1000000) (hi : -1000000000 ≤ i ∧ i ≤ 1000000000) (hj : -1000000000 ≤ j ∧ j ≤ 1000000000) : RgC i j c (if i < j then ((j - i - 1) / c + 1).toNat else 0) := by
  have e : Builtin.Range.rangeSize i j c = ((if i < j then ((j - i - 1) / c + 1).toNat else 0 : Nat) : Int) := by
    unfold Builtin.Range.rangeSize
    rw [if_pos (by omega)]
    split
    · have : 0 ≤ (j - i - 1) / c := Int.ediv_nonneg (by omega) (by omega)
      omega
    · rfl
  refine ⟨by omega, by omega, ?_, e⟩
  unfold Builtin.Range.small
  rw [e]
  have hz : ((if i < j then ((j - i - 1) / c + 1).toNat else 0 : Nat) : Int) * c ≤ 4000000000 ∧ ((if i < j then ((j - i - 1) / c + 1).toNat else 0 : Nat) : Int) ≤ 4000000000 ∧ 0 ≤ ((if i < j then ((j - i - 1) / c + 1).toNat else 0 : Nat) : Int) := by
    split
    · have h0 : 0 ≤ (j - i - 1) / c := Int.ediv_nonneg (by omega) (by omega)
      have h1 : (j - i - 1) / c * c ≤ j - i - 1 := Int.ediv_mul_le _ (by omega)
      have h2 : (j - i - 1) / c ≤ j - i - 1 := Int.ediv_le_self _ (by omega)
      have h3 : (((j - i - 1) / c + 1).toNat : Int) = (j - i - 1) / c + 1 := by omega
      rw [h3, Int.add_mul]
      omega
    · simp
  generalize ((if i < j then ((j - i - 1) / c + 1).toNat else 0 : Nat) : Int) = n at *
  simp only [Builtin.Range.rangeFitsLong, Bool.and_eq_true, Bool.or_eq_true, decide_eq_true_eq, beq_iff_eq]
  refine ⟨by omega, .inr ?_⟩
  rw [if_pos (by omega), Bool.and_eq_true, decide_eq_true_eq, decide_eq_true_eq]
  omega
/-- what making an instance asks -/
def MakeP (C : Addr) (sp : Sp) (E : XK) (vs : List V) (H : Hp) (Q : VK) : Prop := ∀ x dx, H x = none → H dx = none → dx ≠ x → sp (.ref x :: vs) (upd (upd H dx (.own x)) x (.ins C dx [])) (fun v H2 => v = .non ∧ Q (.ref x) H2) E
theorem L_make {C : Addr} {sp : Sp} {E : XK} (h : tr σ H fun vs H1 => MakeP C sp E vs H1 Q) : tMake C sp [] E tr σ H Q := by
  unfold tMake
  simp only [List.append_nil]
  exact h
/-- a new instance: all that stood stands -/
def NewI (H : Hp) (C : Addr) (fs : List (Str × V)) (Q : VK) : Prop := ∀ p H' dx, H p = none → Same H H' → H' p = some (.ins C dx fs) → Q (.ref p) H'
theorem L_gTup {n : Nat} {t : TGs} {a : Addr} {xs : List V} {Q : L2.St → Hp → Prop} (h : SqT K H a xs) (hn : xs.length = n) (q : t xs σ H Q) : gTup K n t (.ref a) σ H Q := ⟨a, xs, rfl, h, hn, q⟩
theorem L_gLst {n : Nat} {t : TGs} {a : Addr} {xs : List V} {Q : L2.St → Hp → Prop} (h : SqL K H a xs) (hn : xs.length = n) (q : t xs σ H Q) : gLst K n t (.ref a) σ H Q := ⟨a, xs, rfl, h, hn, q⟩
theorem L_gCons {v : V} {r : List V} {t : TG} {u : TGs} {Q : L2.St → Hp → Prop} (q : t v σ H fun σ' H' => u r σ' H' Q) : gCons t u (v :: r) σ H Q := ⟨v, r, rfl, q⟩
theorem L_gNil {Q : L2.St → Hp → Prop} (q : Q σ H) : gNil [] σ H Q := ⟨rfl, q⟩
theorem L_sub {to ti : TE} {t : TSet} {v : V} {Q : L2.St → Hp → Prop} (h : to σ H fun o H1 => ti σ H1 fun i H2 => t o i v H2 fun H3 => Q σ H3) : gSub to ti t v σ H Q := h
theorem L_setL {p : Addr} {xs : List V} {k : Int} {j : Nat} {v : V} {Q : Hp → Prop} (h : H p = some (.lst xs)) (hj : ixN xs.length k = some j) (q : Q (upd H p (.lst (xs.set j v)))) : rSetL (.ref p) (.int k) v H Q := ⟨p, xs, k, j, rfl, rfl, h, hj, q⟩
theorem ixN_of {n : Nat} {k : Int} (h0 : 0 ≤ k) (h : k < n) : ixN n k = some k.toNat := by
  unfold ixN
  rw [if_pos h0, if_pos h]
theorem L_sFld {f : Str} {ta tv : TE} {N B C' : L2.St → Hp → Prop} {R : VK} (h : tv σ H fun y H1 => ta σ H1 fun x H2 => ∃ a C dx fs, x = .ref a ∧ H2 a = some (.ins C dx fs) ∧ Cls K C ∧ NoAttr K C f ∧ fs.length < 1000 ∧ N σ (upd H2 a (.ins C dx (putF f y fs)))) : sFld K ta tv f ⟨N, R, B, C'⟩ σ H := h
theorem L_sFldv {a C dx : Addr} {fs : List (Str × V)} {f : Str} {Q : Addr → Addr → Addr → List (Str × V) → Prop} (h : H a = some (.ins C dx fs)) (cl : Cls K C) (n : NoAttr K C f) (l : fs.length < 1000) (q : Q a C dx fs) :
    ∃ a' C dx fs, V.ref a = V.ref a' ∧ H a' = some (.ins C dx fs) ∧ Cls K C ∧ NoAttr K C f ∧ fs.length < 1000 ∧ Q a' C dx fs := ⟨a, C, dx, fs, rfl, h, cl, n, l, q⟩
theorem L_repL {a : Addr} {xs : List V} {k : Int} (h : H a = some (.lst xs)) (h1 : -(2 ^ 63) ≤ k) (h2 : k < 2 ^ 63) (h3 : xs.length * k.toNat ≤ sizeLine) (q : ∀ p, H p = none → Q (.ref p) (upd H p (.lst (List.replicate k.toNat xs).flatten))) : aMul (.ref a) (.int k) H Q := .inr ⟨a, k, xs, rfl, rfl, h, h1, h2, h3, q⟩
theorem atI_int {xs : List V} {k : Int} {v : V} (h0 : 0 ≤ k) (h : xs[k.toNat]? = some v) : atI xs k = some v := by
  obtain ⟨j, rfl⟩ : ∃ j : Nat, k = (j : Int) := ⟨k.toNat, by omega⟩
  exact atI_nat h
theorem atI_ints {xs : List Int} {k : Int} (h0 : 0 ≤ k) (h : k < xs.length) : atI (xs.map V.int) k = some (.int (xs.getD k.toNat 0)) := by
  refine atI_int h0 ?_
  have hl : k.toNat < xs.length := by omega
  rw [List.getElem?_map, List.getElem?_eq_getElem hl]
  simp [List.getD, List.getElem?_eq_getElem hl]
theorem L_nw {xs : List V} {R : Prop} (q : R) (hl : xs.length ≤ 1000000 := by simp) : xs.length ≤ sizeLine ∧ R := ⟨sz_dec hl, q⟩
end
theorem fm_succ' {α : Type} (f : Nat → Option α) (i : Nat) : (List.range (i + 1)).filterMap f = (List.range i).filterMap f ++ (match f i with | some y => [y] | none => []) := by
  rw [List.range_succ, List.filterMap_append]
  cases h : f i <;> simp [h]
theorem fm_len' {α : Type} (f : Nat → Option α) (i : Nat) : ((List.range i).filterMap f).length ≤ i := by
  have := List.length_filterMap_le f (List.range i)
  simpa using this
/-! ### data as trees -/
mutual
theorem Dp_same {K : PySem.W.Frag} {H H' : Hp} (e : Same H H') : ∀ (d : PyData) {v : V}, Dp K H v d → Dp K H' v d
  | .none, _, h => by cases h; exact .non
  | .bool b, _, h => by cases h; exact .bl b
  | .int i, _, h => by cases h; exact .int i
  | .str x, _, h => by cases h; exact .str x
  | .list ds, _, h => by cases h with | lst hs ha => exact .lst (e.seq hs) (DpAll_same e ds ha)
  | .tuple ds, _, h => by cases h with | tup hs ha => exact .tup (e.seqT hs) (DpAll_same e ds ha)
  | .dict _, _, h => by cases h
theorem DpAll_same {K : PySem.W.Frag} {H H' : Hp} (e : Same H H') : ∀ (ds : List PyData) {vs : List V}, DpAll K H vs ds → DpAll K H' vs ds
  | [], _, h => by cases h; exact .nil
  | d :: ds, _, h => by cases h with | cons h1 h2 => exact .cons (Dp_same e d h1) (DpAll_same e ds h2)
end
section
variable {K : PySem.W.Frag} {H H' : Hp} {v : V} {vs : List V} {d : PyData} {ds : List PyData}
theorem _root_.L2.Dp.same (h : Dp K H v d) (e : Same H H') : Dp K H' v d := Dp_same e d h
theorem _root_.L2.DpAll.same (h : DpAll K H vs ds) (e : Same H H') : DpAll K H' vs ds := DpAll_same e ds h
theorem _root_.L2.DpAll.len : ∀ {ds : List PyData} {vs : List V}, DpAll K H vs ds → vs.length = ds.length
  | [], _, h => by cases h; rfl
  | d :: ds, _, h => by cases h with | cons h1 h2 => rw [List.length_cons, List.length_cons, h2.len]
theorem _root_.L2.DpAll.at : ∀ {ds : List PyData} {vs : List V} {i : Nat}, DpAll K H vs ds → ds[i]? = some d → ∃ v, vs[i]? = some v ∧ Dp K H v d
  | [], _, i, h, e => by simp at e
  | c :: ds, _, 0, h, e => by
    cases h with
    | cons h1 h2 =>
      rename_i v vs
      have : c = d := by simpa using e
      subst this
      exact ⟨v, by simp, h1⟩
  | c :: ds, _, i + 1, h, e => by
    cases h with
    | cons h1 h2 =>
      obtain ⟨v, q1, q2⟩ := h2.at (i := i) (by simpa using e)
      exact ⟨v, by simpa using q1, q2⟩
theorem _root_.L2.DpAll.of : ∀ {ds : List PyData} {vs : List V} {i : Nat}, DpAll K H vs ds → vs[i]? = some v → ∃ d, ds[i]? = some d ∧ Dp K H v d
  | [], _, i, h, e => by cases h; simp at e
  | c :: ds, _, 0, h, e => by
    cases h with
    | cons h1 h2 =>
      rename_i w vs
      have : w = v := by simpa using e
      subst this
      exact ⟨c, by simp, h1⟩
  | c :: ds, _, i + 1, h, e => by
    cases h with
    | cons h1 h2 =>
      obtain ⟨d, q1, q2⟩ := h2.of (i := i) (by simpa using e)
      exact ⟨d, by simpa using q1, q2⟩
theorem _root_.L2.DpAll.app : ∀ {ds es : List PyData} {vs us : List V}, DpAll K H vs ds → DpAll K H us es → DpAll K H (vs ++ us) (ds ++ es)
  | [], _, _, _, h, g => by cases h; exact g
  | d :: ds, _, _, _, h, g => by cases h with | cons h1 h2 => exact .cons h1 (h2.app g)
theorem _root_.L2.DpAll.snoc (h : DpAll K H vs ds) (g : Dp K H v d) : DpAll K H (vs ++ [v]) (ds ++ [d]) := h.app (.cons g .nil)
theorem dp_ints : ∀ (ns : List Int), DpAll K H (ns.map V.int) (ns.map PyData.int)
  | [] => .nil
  | n :: ns => .cons (.int n) (dp_ints ns)
theorem dp_strs : ∀ (ns : List Str), DpAll K H (ns.map V.str) (ns.map PyData.str)
  | [] => .nil
  | n :: ns => .cons (.str n) (dp_strs ns)
theorem of_ints : ∀ {ns : List Int} {vs : List V}, DpAll K H vs (ns.map PyData.int) → vs = ns.map V.int
  | [], _, h => by cases h; rfl
  | n :: ns, _, h => by
    cases h with
    | cons h1 h2 => cases h1; rw [of_ints h2]; rfl
theorem of_strs : ∀ {ns : List Str} {vs : List V}, DpAll K H vs (ns.map PyData.str) → vs = ns.map V.str
  | [], _, h => by cases h; rfl
  | n :: ns, _, h => by
    cases h with
    | cons h1 h2 => cases h1; rw [of_strs h2]; rfl
theorem of_tup (h : Dp K H v (.tuple ds)) : ∃ a xs, v = .ref a ∧ SqT K H a xs ∧ DpAll K H xs ds := by
  cases h with | tup h1 h2 => exact ⟨_, _, rfl, h1, h2⟩
theorem of_lst (h : Dp K H v (.list ds)) : ∃ a xs, v = .ref a ∧ SqL K H a xs ∧ DpAll K H xs ds := by
  cases h with | lst h1 h2 => exact ⟨_, _, rfl, h1, h2⟩
theorem of_int {i : Int} (h : Dp K H v (.int i)) : v = .int i := by cases h; rfl
theorem of_str {i : Str} (h : Dp K H v (.str i)) : v = .str i := by cases h; rfl
theorem of_bl {i : Bool} (h : Dp K H v (.bool i)) : v = .bl i := by cases h; rfl
theorem of_non (h : Dp K H v .none) : v = .non := by cases h; rfl
theorem of_t2 {d e : PyData} (h : Dp K H v (.tuple [d, e])) : ∃ a x y, v = .ref a ∧ SqT K H a [x, y] ∧ Dp K H x d ∧ Dp K H y e := by
  obtain ⟨a, xs, rfl, h1, h2⟩ := of_tup h
  cases h2 with
  | cons p1 p2 => cases p2 with | cons p3 p4 => cases p4; exact ⟨a, _, _, rfl, h1, p1, p3⟩
theorem of_t3 {d e f : PyData} (h : Dp K H v (.tuple [d, e, f])) : ∃ a x y z, v = .ref a ∧ SqT K H a [x, y, z] ∧ Dp K H x d ∧ Dp K H y e ∧ Dp K H z f := by
  obtain ⟨a, xs, rfl, h1, h2⟩ := of_tup h
  cases h2 with
  | cons p1 p2 => cases p2 with | cons p3 p4 => cases p4 with | cons p5 p6 => cases p6; exact ⟨a, _, _, _, rfl, h1, p1, p3, p5⟩
theorem of_t4 {d e f g : PyData} (h : Dp K H v (.tuple [d, e, f, g])) : ∃ a x y z w, v = .ref a ∧ SqT K H a [x, y, z, w] ∧ Dp K H x d ∧ Dp K H y e ∧ Dp K H z f ∧ Dp K H w g := by
  obtain ⟨a, xs, rfl, h1, h2⟩ := of_tup h
  cases h2 with
  | cons p1 p2 => cases p2 with | cons p3 p4 => cases p4 with | cons p5 p6 => cases p6 with | cons p7 p8 => cases p8; exact ⟨a, _, _, _, _, rfl, h1, p1, p3, p5, p7⟩
end
/-- the part of a heap at which P holds -/
noncomputable def rs (P : Addr → Prop) (H : Hp) : Hp := fun a => @ite _ (P a) (Classical.propDecidable _) (H a) none
theorem rs_at {P : Addr → Prop} {H : Hp} {a : Addr} {o : HO} (p : P a) (h : H a = some o) : rs P H a = some o := by unfold rs; rw [if_pos p]; exact h
theorem rs_of {P : Addr → Prop} {H : Hp} {a : Addr} {o : HO} (h : rs P H a = some o) : P a ∧ H a = some o := by
  unfold rs at h
  split at h
  · rename_i p; exact ⟨p, h⟩
  · cases h
theorem rs_same {P P' : Addr → Prop} {H H' : Hp} (h : ∀ a o, P a → H a = some o → P' a ∧ H' a = some o) : Same (rs P H) (rs P' H') := fun a o e => by
  obtain ⟨p, q⟩ := rs_of e
  obtain ⟨p', q'⟩ := h a o p q
  exact rs_at p' q'
theorem rs_sub {P : Addr → Prop} {H : Hp} : Same (rs P H) H := fun a o e => (rs_of e).2
theorem rs_in {P : Addr → Prop} {H H' : Hp} (h : ∀ a o, P a → H a = some o → H' a = some o) : Same (rs P H) H' := fun a o e => h a o (rs_of e).1 (rs_of e).2
theorem rs_all {P : Addr → Prop} {H H' : Hp} (h : ∀ a o, H a = some o → P a ∧ H' a = some o) : Same H (rs P H') := fun a o e => rs_at (h a o e).1 (h a o e).2
/-- a list that changes: what stood ahead of it stands -/
theorem same_mut {H H' : Hp} {a : Addr} {o : HO} (e : Same H H') (h : H a = none) : Same H (upd H' a o) := fun b o' q => by
  rw [upd_ne (fun z => by rw [z, h] at q; cases q)]; exact e b o' q
section
variable {K : PySem.W.Frag} {σ : L2.St} {H : Hp} {g : TG} {tt : TT} {te : TE} {tb : TS} {D : Ends} {x y : V} {Q : VK}
theorem L_rlD {v : V} {ds : List PyData} {R : Addr → Prop} (h : Dp K H v (.list ds)) (q : ∀ a, v = .ref a → R a) : ∃ b, v = V.ref b ∧ (∃ xs, SqL K H b xs) ∧ R b := by
  obtain ⟨a, xs, rfl, h1, h2⟩ := of_lst h
  exact ⟨a, rfl, ⟨xs, h1⟩, q a rfl⟩
/-- for x in a list of data -/
theorem for_dp {a : Addr} {ds : List PyData} (h : Dp K H (.ref a) (.list ds)) (Pv : Nat → L2.St → Hp → Prop) (h0 : Pv 0 σ H) (hG : ∀ i σ' H', i ≤ ds.length → Pv i σ' H' → Same H H')
    (hs : ∀ i d x σ' H', i < ds.length → ds[i]? = some d → Pv i σ' H' → Dp K H' x d → g x σ' H' fun σ2 H2 => tb { D with nx := Pv (i + 1), ct := Pv (i + 1), bk := D.nx } σ2 H2) (hd : ∀ σ' H', Pv ds.length σ' H' → D.nx σ' H') :
    ∃ W : Nat → Nat → L2.St → Hp → Prop, (∃ m, W 0 m σ H) ∧ ∀ i m σ H, W i m σ H →
      ((Itl K a).stop i H ∧ D.nx σ H) ∨ ((Itl K a).go i H ∧ ∃ N : L2.St → Hp → Prop, (∀ σ' H', N σ' H' → ∃ m', m' < m ∧ W (i + 1) m' σ' H') ∧ ∀ x H', (Itl K a).yld i H x H' → g x σ H' fun σ2 H2 => tb { D with nx := N, ct := N, bk := D.nx } σ2 H2) := by
  obtain ⟨a', xs, ea, h1, h2⟩ := of_lst h
  cases ea
  have hl := h2.len
  refine for_it walk_list Pv h0 (fun i σ' H' hi p => (hG i σ' H' (by omega) p).seq h1) (fun i x σ' H' H'' hi p ⟨e1, e2⟩ => ?_) (fun σ' H' p => hd σ' H' (by rw [← hl]; exact p))
  subst e1
  obtain ⟨d, e3, e4⟩ := h2.of e2
  exact hs i d x σ' _ (by omega) e3 p (e4.same (hG i σ' _ (by omega) p))
/-- a comprehension: what turn i gives is told as data, or none; the new list's things stand apart from it -/
theorem lc_dp {J : It} {n : Nat} {G : Hp → Prop} {Y : Nat → Hp → V → Hp → Prop} (w : L2.Walk J n G Y) {vs : List Nat} {Qd : Addr → Hp → Prop} (f : Nat → Option PyData) (hn : n ≤ 1000000) (hG : ∀ H', Same H H' → G H')
    (hs : ∀ i x p H2 H' (R : V → Hp → Prop) (R' : Hp → Prop), i < n → H p = none → Same H H2 → (∃ o, H2 p = some o) → Y i H2 x H' → (∀ y d H4, f i = some d → Same H2 H4 → Dp K (rs (· ≠ p) H4) y d → R y H4) → (∀ H3, f i = none → Same H2 H3 → R' H3) →
      g x (wipe σ vs) H' fun σ2 H2 => wipe σ2 vs = wipe σ vs ∧ tt σ2 H2 fun b H3 => if b = true then te σ2 H3 R else R' H3)
    (q : ∀ p H' vs, H p = none → Same H H' → H' p = some (.lst vs) → DpAll K (rs (· ≠ p) H') vs ((List.range n).filterMap f) → Qd p H') :
    ∀ D, H D = none → ∃ W : Nat → Nat → Hp → Prop, (∃ m, W 0 m (upd H D (.lst []))) ∧ ∀ i m H, W i m H →
      (J.stop i H ∧ Qd D H) ∨ (J.go i H ∧ ∃ Nx : Hp → Prop, (∀ H', Nx H' → ∃ m', m' < m ∧ W (i + 1) m' H') ∧ ∀ x H', J.yld i H x H' → g x (wipe σ vs) H' fun σ2 H2 => wipe σ2 vs = wipe σ vs ∧ tt σ2 H2 fun b H3 =>
        if b = true then te σ2 H3 fun y H4 => ∃ acc, H4 D = some (.lst acc) ∧ acc.length < sizeLine ∧ Nx (upd H4 D (.lst (acc ++ [y]))) else Nx H3) := by
  intro D hD
  refine lc_it w (fun i H2 => Same H H2 ∧ ∃ us, H2 D = some (.lst us) ∧ DpAll K (rs (· ≠ D) H2) us ((List.range i).filterMap f)) ⟨same_new hD, [], upd_same, .nil⟩ (fun i H2 _ p => hG H2 p.1) ?_ (fun H2 ⟨p1, us, p2, p3⟩ => q D H2 us hD p1 p2 p3)
  rintro i x H2 H' hi ⟨p1, us, p2, p3⟩ y
  refine hs i x D H2 H' _ _ hi hD p1 ⟨_, p2⟩ y (fun y d H4 e s dy => ?_) (fun H3 e s => ?_)
  · have e4 : Same (rs (· ≠ D) H2) (rs (· ≠ D) H4) := rs_same fun a o h1 h2 => ⟨h1, s _ _ h2⟩
    have e5 : Same (rs (· ≠ D) H4) (rs (· ≠ D) (upd H4 D (.lst (us ++ [y])))) := rs_same fun a o h1 h2 => ⟨h1, by rw [upd_ne h1]; exact h2⟩
    refine ⟨us, s _ _ p2, sz_lt (by have := p3.len; have := fm_len' f i; omega), same_mut (p1.trans s) hD, _, upd_same, ?_⟩
    rw [fm_succ', e]
    exact ((p3.same e4).same e5).snoc (dy.same e5)
  · refine ⟨p1.trans s, us, s _ _ p2, ?_⟩
    rw [fm_succ', e, List.append_nil]
    exact p3.same (rs_same fun a o h1 h2 => ⟨h1, s _ _ h2⟩)
end
/-! ### defs that may raise -/
structure MetX (P : Program) (w : World) (K : PySem.W.Frag) (mg : Str → Option Value) (base : Heap) (k : Nat) (C : Addr) (m : Str) (sp : Sp) : Prop where
  ex : ∃ (f : Addr) (fd : FuncData) (ps : List Str), Cls K C ∧ Meth K C m f ∧ FnOk P w K mg base (L2.CX P w) k f fd ps sp ∧ Binds K fd ps []
structure MakX (P : Program) (w : World) (K : PySem.W.Frag) (mg : Str → Option Value) (base : Heap) (k : Nat) (x : Str) (C : Addr) (sp : Sp) : Prop where
  ex : ∃ (f : Addr) (fd : FuncData) (ps : List Str), Mk K C f ∧ FnOk P w K mg base (L2.CX P w) k f fd ps sp ∧ mg x = some (.ref C) ∧ Binds K fd ps []
section
variable {P : Program} {w : World} {K : PySem.W.Frag} {mg : Str → Option Value} {base : Heap}
theorem MethAt.metX {C : Addr} {m qual : Str} {st : Stmt} {N ps : List Str} {k : Nat} {sp : Sp} (c : Cls K C) (d : MethAt K C m qual st ps) (S : FnScope N ps (defScope st)) (len : ∀ vs H Q E, sp vs H Q E → vs.length = ps.length)
    (hbody : ∀ (f : Addr) (cdv : Value) (A : Around) (outer : List Env) (s : Shared) (H : Hp) (vs : List V) (Q : VK) (E : XK), Room k (A.deeper (envOfC qual (defScope st) s.heap.objs.size f cdv)) → sp vs H Q E →
      ∃ t, PSs (cxOf (L2.CX P w) P w K mg base N qual (defScope st) f cdv A outer s H E) (defBody st) t ∧ t { nx := fun _ H' => Q .non H', rt := Q } (start N vs) H) : MetX P w K mg base (k + 1) C m sp := by
  obtain ⟨f, fd, F, hm, b⟩ := d.ex
  exact ⟨f, fd, ps, c, hm, F.okX S len (hbody f), b⟩
theorem InitAt.makX {x : Str} {C : Addr} {qual : Str} {st : Stmt} {N ps : List Str} {k : Nat} {sp : Sp} (hx : mg x = some (.ref C)) (d : InitAt K C qual st ps) (S : FnScope N ps (defScope st)) (len : ∀ vs H Q E, sp vs H Q E → vs.length = ps.length)
    (hbody : ∀ (f : Addr) (cdv : Value) (A : Around) (outer : List Env) (s : Shared) (H : Hp) (vs : List V) (Q : VK) (E : XK), Room k (A.deeper (envOfC qual (defScope st) s.heap.objs.size f cdv)) → sp vs H Q E →
      ∃ t, PSs (cxOf (L2.CX P w) P w K mg base N qual (defScope st) f cdv A outer s H E) (defBody st) t ∧ t { nx := fun _ H' => Q .non H', rt := Q } (start N vs) H) : MakX P w K mg base (k + 1) x C sp := by
  obtain ⟨f, fd, F, hm, b⟩ := d.ex
  exact ⟨f, fd, ps, hm, F.okX S len (hbody f), hx, b⟩
end
/-- where no exception is wanted -/
theorem passN {X : Cx} (σ : L2.St) : PassesAt (L2.CX X.prog X.w) X σ ((fun _ => E0) σ) := fun pins H s e s' I c => passL pins σ H s e s' I c
/-- x.m(..), C(..), where what is raised is wished for at the caller's slots -/
def tMethE (C : Addr) (m : Str) (sp : Sp) (E : L2.St → XK) (ta : TE) (t : TA) : TE := fun σ H Q => ta σ H fun x H1 => ∃ a dx fs, x = .ref a ∧ H1 a = some (.ins C dx fs) ∧ fs.lookup m = none ∧ t σ H1 fun vs H2 => sp (x :: vs) H2 Q (E σ)
def tMakeE (C : Addr) (sp : Sp) (E : L2.St → XK) (t : TA) : TE := fun σ H Q => t σ H fun vs H1 => ∀ x dx, H1 x = none → H1 dx = none → dx ≠ x →
  sp (.ref x :: vs) (upd (upd H1 dx (.own x)) x (.ins C dx [])) (fun v H2 => v = .non ∧ Q (.ref x) H2) (E σ)
section
variable {X : Cx} {CX : CXT} {k j : Nat} {f C : Addr} {fd : FuncData} {ps : List Str} {x m : Str} {sp : Sp} {p pos apos : Pos} {e o : Expr} {es : List Expr} {ta : TE} {t : TA} {E : L2.St → XK}
theorem run_makeS {pins : List (Addr × Obj)} {σ : L2.St} {H : Hp} {s : Shared} {Q : VK} {us : List Value} {vs : List V} (M : Mk X.K C f) (F : FnOk X.prog X.w X.K X.mg X.base CX k f fd ps sp) (hr : Room (k + 1) X.A) (hb : Binds X.K fd ps [])
    (hx : PassesAt CX X σ (E σ)) (I : Inv X pins σ H s) (r : Vals vs us)
    (h : ∀ x dx, H x = none → H dx = none → dx ≠ x → sp (.ref x :: vs) (upd (upd H dx (.own x)) x (.ins C dx [])) (fun v H2 => v = .non ∧ Q (.ref x) H2) (E σ)) :
    wpAny (model X.prog X.w) X.A (call (.ref C) us) (EP X pins σ Q) X.xe s := by
  -- the new object's place, its dict's place
  obtain ⟨dn, hdn⟩ : ∃ dn, dn = s.heap.objs.size := ⟨_, rfl⟩
  have fresh1 : H dn = none := I.hok.fresh (Nat.le_of_eq hdn.symm)
  have fresh2 : H (dn + 1) = none := I.hok.fresh (Nat.le_succ_of_le (Nat.le_of_eq hdn.symm))
  have asked := h (dn + 1) dn fresh2 fresh1 (Nat.ne_of_lt (Nat.lt_succ_self _))
  have J := Inv.made (C := C) I
  rw [← hdn] at J
  have args : Vals (V.ref (dn + 1) :: vs) (Value.ref (dn + 1) :: us) := .cons rfl r
  have many : (Value.ref (dn + 1) :: us).length = ps.length := args.length.symm.trans (F.len _ _ _ _ asked)
  have bound := hb _ (Value.ref (dn + 1) :: us) J.kIn (by rw [List.append_nil]; exact many)
  rw [List.append_nil] at bound
  subst hdn
  refine wpAny_call (make_map (f := f) I.kIn M.makes M.init (beq_iff_eq.mp M.fn) ?_)
  refine codeAny_mono (F.run _ X.stack _ _ ⟨_, []⟩ _ _ _ (E σ) (hr.make C us []) (J.env0.make C us []) bound args asked) fun out s' ho => ?_
  match out, ho with
  | .error e, ho => exact hx pins _ _ e s' J ho
  | .ok (.ret u), ho =>
    obtain ⟨v, H', J', rel, hv, rest⟩ := J.after ho
    cases hv
    exact ⟨rel, .ref (s.heap.objs.size + 1), H', J', rfl, rest⟩
  | .ok .next, ho => exact ho.elim
  | .ok .brk, ho => exact ho.elim
  | .ok .cont, ho => exact ho.elim
theorem pe_xS (c : CalX X.prog X.w X.K X.mg X.base k x sp) (hr : Room j X.A) (hk : k ≤ j) (hg : Gl X x) (hx : ∀ σ, PassesAt (L2.CX X.prog X.w) X σ (E σ)) (ha : PA X (e :: es) t)
    (hdb : (x == ("__debug__" : Str)) = false := by decide) (he : starEach (e :: es) X.env = (false, eval e X.env) :: starEach es X.env := by rfl) (hpl : (backTo pos (starEach es X.env)).any (·.1) = false := by rfl) :
    PE X (.Call (.Name x p) (e :: es) [] pos) (tCallS sp E t) := by
  obtain ⟨f, fd, ps, F, hm, kp, b⟩ := c.ex
  exact pe_callS F (hr.mono hk) hg hm kp b hx ha hdb he hpl
theorem pe_xMk (c : MakX X.prog X.w X.K X.mg X.base k x C sp) (hr : Room j X.A) (hk : k + 1 ≤ j) (hg : Gl X x) (hx : ∀ σ, PassesAt (L2.CX X.prog X.w) X σ (E σ)) (ha : PA X (e :: es) t)
    (hdb : (x == ("__debug__" : Str)) = false := by decide) (he : starEach (e :: es) X.env = (false, eval e X.env) :: starEach es X.env := by rfl) (hpl : (backTo pos (starEach es X.env)).any (·.1) = false := by rfl) :
    PE X (.Call (.Name x p) (e :: es) [] pos) (tMakeE C sp E t) := by
  obtain ⟨f, fd, ps, M, F, hm, hb⟩ := c.ex
  refine ⟨fun pins s σ H Q I h => ?_⟩
  refine wpAny_Call_Name_kw (ld_glob I hg hm ?_ hdb)
  refine PySem.W.callWith_K (h₀ := X.base) I.ok.mod.kin M.kp (thn (ha.run pos pins s σ H _ I h) fun us s1 ⟨vs, H1, I1, r, q⟩ => ⟨I1.kIn, ?_⟩) he hpl
  exact run_makeS M F (hr.mono hk) hb (hx σ) I1 r q
theorem pe_xMt {pl : Sem Bool} (c : MetX X.prog X.w X.K X.mg X.base k C m sp) (hr : Room j X.A) (hk : k ≤ j) (hx : ∀ σ, PassesAt (L2.CX X.prog X.w) X σ (E σ)) (he : PE X o ta) (ha : PA X (e :: es) t)
    (hst : starEach (e :: es) X.env = (false, eval e X.env) :: starEach es X.env := by rfl) (hpl : (backTo pos (starEach es X.env)).any (·.1) = false := by rfl)
    (ht : eval (.Call (.Attribute o m apos) (e :: es) [] pos) X.env = (do
      let ov ← eval o X.env
      standAt apos.atName
      let (f, first) ← holding [ov] (getMethod ov m pl)
      callWith pos f first (backTo pos (starEach (e :: es) X.env)) (backToKw pos (keywordEach [] X.env))) := by rfl) :
    PE X (.Call (.Attribute o m apos) (e :: es) [] pos) (tMethE C m sp E ta t) := by
  obtain ⟨f, fd, ps, hc, hm, F, hb⟩ := c.ex
  refine ⟨fun pins s σ H Q I h => ?_⟩
  refine PySem.W.methodCall_KW (pl := pl) (thn (he.run pins s σ H _ I h) fun u s1 ⟨x, H1, I1, rx, a, dx, fs, ex, ea, l, q⟩ => ?_) ht
  subst ex
  obtain rfl : u = Value.ref a := rx
  refine getmeth_ok I1 ea hc hm l ?_
  refine PySem.W.callWith_K (first := [.ref a]) (h₀ := X.base) I.ok.mod.kin hm.kp (thn (ha.run pos pins s1 σ H1 _ I1 q) fun us s2 ⟨vs, H2, I2, r, q2⟩ => ⟨I2.kIn, ?_⟩) hst hpl
  exact run_fnS (us := .ref a :: us) (vs := .ref a :: vs) F (hr.mono hk) hb (hx σ) I2 (.cons rfl r) q2
theorem pe_xMt0 {pl : Sem Bool} (c : MetX X.prog X.w X.K X.mg X.base k C m sp) (hr : Room j X.A) (hk : k ≤ j) (hx : ∀ σ, PassesAt (L2.CX X.prog X.w) X σ (E σ)) (he : PE X o ta)
    (ht : eval (.Call (.Attribute o m apos) [] [] pos) X.env = (do
      let ov ← eval o X.env
      standAt apos.atName
      let (f, first) ← holding [ov] (getMethod ov m pl)
      callWith pos f first (backTo pos (starEach [] X.env)) (backToKw pos (keywordEach [] X.env))) := by rfl) :
    PE X (.Call (.Attribute o m apos) [] [] pos) (tMethE C m sp E ta tNil) := by
  obtain ⟨f, fd, ps, hc, hm, F, hb⟩ := c.ex
  refine ⟨fun pins s σ H Q I h => ?_⟩
  refine PySem.W.methodCall_KW (pl := pl) (thn (he.run pins s σ H _ I h) fun u s1 ⟨x, H1, I1, rx, a, dx, fs, ex, ea, l, q⟩ => ?_) ht
  subst ex
  obtain rfl : u = Value.ref a := rx
  refine getmeth_ok I1 ea hc hm l ?_
  exact PySem.W.callWith_K0 (first := [.ref a]) I1.kIn hm.kp (run_fnS (us := [.ref a]) (vs := [.ref a]) F (hr.mono hk) hb (hx σ) I1 (.cons rfl .nil) q)
end
/-- an own exception class that is raised; one that is caught -/
structure ExcAt (K : PySem.W.Frag) (C : Addr) : Prop where
  x : PySem.W.excIn K C [.type "ValueError", .type "Exception", .type "BaseException", .type "object"] "ValueError.__new__" = true
  k : PySem.W.keepIn K (.ref C) = true
  b : PySem.W.subIn K (.ref C) (.type "BaseException") = some true
  t : PySem.W.typeIn K (.ref C) = some (.type "type")
structure ExcK (K : PySem.W.Frag) (C : Addr) : Prop where
  b : PySem.W.subIn K (.ref C) (.type "BaseException") = some true
  i : PySem.W.isClsIn K C = true
  t : PySem.W.typeIn K (.ref C) = some (.type "type")
theorem ExcK.exm {K : PySem.W.Frag} {C D : Addr} {r : Bool} (c : ExcK K C) (h : PySem.W.subIn K (.ref D) (.ref C) = some r) : PySem.W.exmOne K (.ref D) (.ref C) = some r := by
  have e1 : (PySem.W.subIn K (.ref C) (.type "BaseException") == some true) = true := by rw [c.b] <;> rfl
  have e2 : ((PySem.W.clsIn K C).isSome && PySem.W.typeIn K (.ref C) == some (.type "type")) = true := by
    have h2' : (PySem.W.clsIn K C).isSome = true := c.i
    rw [h2', c.t] <;> rfl
  show (if (PySem.W.subIn K (.ref C) (.type "BaseException") == some true) = true then (if ((PySem.W.clsIn K C).isSome && PySem.W.typeIn K (.ref C) == some (.type "type")) = true then PySem.W.subIn K (.ref D) (.ref C) else none) else none) = some r
  rw [if_pos e1, if_pos e2]
  exact h
/-- C() -/
theorem pmk_own0 {X : Cx} {C : Addr} {x : Str} {p pos : Pos} (c : ExcAt X.K C) (gC : X.mg x = some (.ref C)) (hg : Gl X x) (hdb : (x == ("__debug__" : Str)) = false := by decide) :
    PMk X (.Call (.Name x p) [] [] pos) (fun _ H Q => Q (.ref C) none H) := by
  intro pins s σ H Q I h
  refine wpAny_Call_Name_kw (ld_glob I hg gC ?_ hdb)
  refine PySem.W.callWith_K0 I.kIn c.k ?_
  obtain ⟨bm, N, nm, qn, bs, hdct, sn, sub, ab, col, dd, k0, k1, k2, k3, k5, mN, hC, hN, hni, T⟩ := exc_obj I.kIn c.x
  refine wpAny_call_exc_subT PySem.F.excBase_ValueError T hC hN hni (fun h' e hm => ?_) (Nat.zero_le _)
  exact mk_of I hm (raises_own c.b c.t) h (I.hok.gone hm.new)
section
variable {K : PySem.W.Frag} {σ : L2.St} {H : Hp} {ta : TE} {tr : TA} {Q : VK} {E : L2.St → XK} {C : Addr} {m : Str} {sp : Sp}
theorem L_callS (h : tr σ H fun vs H1 => sp vs H1 Q (E σ)) : tCallS sp E tr σ H Q := h
theorem L_methE (h : ta σ H fun x H1 => ∃ a dx fs, x = .ref a ∧ H1 a = some (.ins C dx fs) ∧ fs.lookup m = none ∧ tr σ H1 fun vs H2 => sp (x :: vs) H2 Q (E σ)) : tMethE C m sp E ta tr σ H Q := h
theorem L_makeE (h : tr σ H fun vs H1 => MakeP C sp (E σ) vs H1 Q) : tMakeE C sp E tr σ H Q := h
theorem L_meth {E : XK} (h : ta σ H fun x H1 => ∃ a dx fs, x = .ref a ∧ H1 a = some (.ins C dx fs) ∧ fs.lookup m = none ∧ tr σ H1 fun vs H2 => sp (x :: vs) H2 Q E) : tMeth C m sp [] E ta tr σ H Q := by
  unfold tMeth
  simp only [List.append_nil]
  exact h
theorem L_methv {a dx : Addr} {fs : List (Str × V)} {R : Prop} (h : H a = some (.ins C dx fs)) (l : fs.lookup m = none) (q : R) : ∃ a' dx fs, V.ref a = V.ref a' ∧ H a' = some (.ins C dx fs) ∧ fs.lookup m = none ∧ R := ⟨a, dx, fs, rfl, h, l, q⟩
theorem L_only {c : Value} {ts : Addr → Value → Option Addr → TS} {Wout : WX} {D : Ends} {cls : Value} {d : Option Addr} (h : PySem.W.exmOne K cls c = some true) (q : ∀ a, H a = none → ts a cls d D σ H) : wOnly K c ts Wout D cls d σ H := ⟨true, h, fun _ => q, fun z => nomatch z⟩
end
/-- no whole number: another kind of thing, or a truth -/
def NotW (K : PySem.W.Frag) (H : Hp) (v : V) : Prop := (∃ b, v = .bl b) ∨ ∃ a, TyX K H v (.type a) ∧ kitB a "int" = some false
/-- what is_whole denies -/
def BadW (K : PySem.W.Frag) (H : Hp) (v : V) (lo hi : Int) : Prop := NotW K H v ∨ ∃ t, v = .int t ∧ ¬ (lo ≤ t ∧ t ≤ hi)
section
variable {K : PySem.W.Frag} {H : Hp}
theorem notw_non : NotW K H .non := .inr ⟨_, .base .non, by decide +kernel⟩
theorem notw_bl {b : Bool} : NotW K H (.bl b) := .inl ⟨b, rfl⟩
theorem notw_str {z : Str} : NotW K H (.str z) := .inr ⟨_, .base (.str z), by decide +kernel⟩
theorem notw_lst {a : Addr} {xs : List V} (h : H a = some (.lst xs)) : NotW K H (.ref a) := .inr ⟨_, .base (.lst h), by decide +kernel⟩
theorem notw_tup {a : Addr} {xs : List V} (h : H a = some (.tup xs)) : NotW K H (.ref a) := .inr ⟨_, .base (.tup h), by decide +kernel⟩
theorem notw_dK {a : Addr} {xs : List (Key × V)} (h : H a = some (.dK xs)) : NotW K H (.ref a) := .inr ⟨_, .base (.dK h), by decide +kernel⟩
theorem badw_int {t lo hi : Int} (h : ¬ (lo ≤ t ∧ t ≤ hi)) : BadW K H (.int t) lo hi := .inr ⟨t, rfl, h⟩
theorem NotW.bad {v : V} {lo hi : Int} (h : NotW K H v) : BadW K H v lo hi := .inl h
end
section
variable {K : PySem.W.Frag} {H H' : Hp}
theorem tyx_T {a : Addr} {xs : List V} (h : SqT K H a xs) : TyX K H (.ref a) (.type "tuple") := by
  rcases h with (h | ⟨o, h⟩) | ⟨o, _, _, h, c, _⟩
  · exact .base (.tup h)
  · exact .fTuple h
  · exact .kTuple h c
theorem tyx_L {a : Addr} {xs : List V} (h : SqL K H a xs) : TyX K H (.ref a) (.type "list") := by
  rcases h with (h | ⟨o, h⟩) | ⟨o, _, _, h, c, _⟩
  · exact .base (.lst h)
  · exact .base (.frz h)
  · exact .kList h c
variable {σ : L2.St} {Q : VK}
theorem L_sort2 {a : Addr} {x y : Int} (h : SqL K H a [V.int x, V.int y]) (q : ∀ p, H p = none → Q (.ref p) (upd H p (.lst [V.int (min x y), V.int (max x y)]))) : rSorted K [.ref a] H Q := by
  refine ⟨a, [x, y], rfl, h, by simp, fun ns p hp hs hn => ?_⟩
  have hl := hp.length_eq
  match ns, hl with
  | [u, v], _ =>
    have hle : u ≤ v := by simpa using hs
    have hm : (u = x ∧ v = y) ∨ (u = y ∧ v = x) := by
      have h1 : u ∈ [x, y] := hp.mem_iff.mp (by simp)
      have h2 : v ∈ [x, y] := hp.mem_iff.mp (by simp)
      have h3 : x ∈ [u, v] := hp.mem_iff.mpr (by simp)
      have h4 : y ∈ [u, v] := hp.mem_iff.mpr (by simp)
      simp only [List.mem_cons, List.not_mem_nil, or_false] at h1 h2 h3 h4
      rcases h1 with h1 | h1 <;> rcases h2 with h2 | h2 <;> rcases h3 with h3 | h3 <;> rcases h4 with h4 | h4 <;> omega
    have e : [u, v] = [min x y, max x y] := by
      rcases hm with ⟨rfl, rfl⟩ | ⟨rfl, rfl⟩
      · rw [Int.min_eq_left hle, Int.max_eq_right hle]
      · rw [Int.min_eq_right hle, Int.max_eq_left hle]
    rw [e]
    exact q p hn
theorem L_list1 {a : Addr} {xs : List V} (h : SqL K H a xs) (q : ∀ l, H l = none → Q (.ref l) (upd H l (.lst xs))) : aList1 K [.ref a] H Q := ⟨a, xs, rfl, .inl h, q⟩
theorem L_tuple1 {a : Addr} {xs : List V} (h : SqL K H a xs) (q : ∀ l, H l = none → Q (.ref l) (upd H l (.tup xs))) : aTuple1 K [.ref a] H Q := ⟨a, xs, rfl, .inl ⟨h, q⟩⟩
theorem eqv_same {d : PyData} (h : SeqAt.shaped d = true) : PyData.eqv d d = true := SeqAt.eqv_refl d (SeqAt.canLay_of_shaped h)
theorem L_eqR {x y : V} {d : PyData} (hx : Dp K H x d) (hy : Dp K H y d) (s : SeqAt.shaped d = true) (q : Q (.bl true) H) : aEq K x y H Q := L_eqD hx hy s s (by rw [eqv_same s]; exact q)
theorem L_neR {x y : V} {d : PyData} (hx : Dp K H x d) (hy : Dp K H y d) (s : SeqAt.shaped d = true) (q : Q (.bl false) H) : aNe K x y H Q := L_neD hx hy s s (by rw [eqv_same s]; exact q)
theorem L_zipA {a b : Addr} {xs ys : List V} {R : Addr → Addr → Prop} (h1 : SqL K H a xs) (h2 : SqL K H b ys) (q : R a b) : ∃ a' b' xs ys, [V.ref a, V.ref b] = [.ref a', .ref b'] ∧ SqL K H a' xs ∧ SqL K H b' ys ∧ R a' b' := ⟨a, b, xs, ys, rfl, h1, h2, q⟩
end
/-- data that == may be asked of, at most n deep -/
structure Shp (n : Nat) (d : PyData) : Prop where
  c : d.canLay0 = true
  d : d.depth ≤ n
theorem Shp.ok {n : Nat} {d : PyData} (h : Shp n d) (hn : n ≤ 64 := by decide) : SeqAt.shaped d = true := by
  unfold SeqAt.shaped
  rw [h.c, decide_eq_true (Nat.le_trans h.d hn)]; rfl
theorem shp_int {n : Nat} {i : Int} : Shp n (.int i) := ⟨by simp [PyData.canLay0], by simp [PyData.depth]⟩
theorem shp_bl {n : Nat} {i : Bool} : Shp n (.bool i) := ⟨by simp [PyData.canLay0], by simp [PyData.depth]⟩
theorem shp_non {n : Nat} : Shp n .none := ⟨by simp [PyData.canLay0], by simp [PyData.depth]⟩
theorem shp_str {n : Nat} {z : Str} (h : PyData.strOk z = true) : Shp n (.str z) := ⟨by simpa [PyData.canLay0] using h, by simp [PyData.depth]⟩
theorem shp_all {n : Nat} : ∀ {ds : List PyData}, (∀ d ∈ ds, Shp n d) → PyData.canLayAll0 ds = true ∧ PyData.depthAll ds ≤ n
  | [], _ => ⟨by simp [PyData.canLayAll0], by simp [PyData.depthAll]⟩
  | d :: ds, h => by
    have h1 := h d (List.mem_cons_self ..)
    have h2 := shp_all fun x hx => h x (List.mem_cons_of_mem _ hx)
    exact ⟨by simp [PyData.canLayAll0, h1.c, h2.1], by simp only [PyData.depthAll]; exact Nat.max_le.mpr ⟨h1.d, h2.2⟩⟩
theorem shp_lst {n : Nat} {ds : List PyData} (h : ∀ d ∈ ds, Shp n d) : Shp (n + 1) (.list ds) := ⟨by simp only [PyData.canLay0]; exact (shp_all h).1, by simp only [PyData.depth]; have := (shp_all h).2; omega⟩
theorem shp_tup {n : Nat} {ds : List PyData} (h : ∀ d ∈ ds, Shp n d) : Shp (n + 1) (.tuple ds) := ⟨by simp only [PyData.canLay0]; exact (shp_all h).1, by simp only [PyData.depth]; have := (shp_all h).2; omega⟩
theorem shp_nil {n : Nat} : ∀ d ∈ ([] : List PyData), Shp n d := fun _ h => nomatch h
theorem shp_cons {n : Nat} {d : PyData} {ds : List PyData} (h : Shp n d) (t : ∀ d ∈ ds, Shp n d) : ∀ x ∈ d :: ds, Shp n x := fun x hx => by
  rcases List.mem_cons.mp hx with rfl | hx
  · exact h
  · exact t x hx
theorem shp_map {n : Nat} {α : Type} {f : α → PyData} {l : List α} (h : ∀ a ∈ l, Shp n (f a)) : ∀ d ∈ l.map f, Shp n d := fun d hd => by
  obtain ⟨a, ha, rfl⟩ := List.mem_map.mp hd
  exact h a ha
theorem shp_ints {n : Nat} {l : List Int} : Shp (n + 1) (.list (l.map .int)) := shp_lst (shp_map fun _ _ => shp_int)
theorem _root_.L2.Dp.ints {K : PySem.W.Frag} {H : Hp} {a : Addr} {ns : List Int} (h : SqL K H a (ns.map V.int)) : Dp K H (.ref a) (.list (ns.map .int)) := .lst h (dp_ints ns)
section
variable {K : PySem.W.Frag} {H : Hp} {Q : VK}
theorem L_powE {i j n : Int} (h : CPow i j) (e : i ^ j.toNat = n) (q : Q (.int n) H) : rI CPow (fun i j => .int (i ^ j.toNat)) (.int i) (.int j) H Q := ⟨i, j, rfl, rfl, h, by subst e; exact q⟩
/-- one of some ints -/
theorem L_menu {ns : List Int} {p : Addr} {i : Int} (h : SqL K H p (ns.map V.int)) (h0 : 0 ≤ i) (h1 : i < ns.length) (q : ∀ v ∈ ns, Q (.int v) H) : rIx K (.ref p) (.int i) H Q := by
  have hl : i.toNat < ns.length := by omega
  refine L_ixL h (atI_ints h0 h1) (q _ ?_)
  rw [List.getD_eq_getElem?_getD, List.getElem?_eq_getElem hl]
  exact List.getElem_mem hl
/-- an item of a list of ints, some property of all its items kept -/
theorem L_ixP {ns : List Int} {p : Addr} {i : Int} {P : Int → Prop} (h : SqL K H p (ns.map V.int)) (hP : ∀ v ∈ ns, P v) (h0 : 0 ≤ i) (h1 : i < ns.length) (q : ∀ v, P v → Q (.int v) H) : rIx K (.ref p) (.int i) H Q :=
  L_menu h h0 h1 fun v hv => q v (hP v hv)
end
theorem cdiv_lit {i j : Int} (h : 0 < j ∧ j < 1000000000000) : CDivW i j := (bd_64 (by omega)).cdiv h.1
theorem cpow_lit {i j : Int} (h : 0 ≤ j ∧ j ≤ 1000 ∧ -1000000 < i ∧ i < 1000000) : CPow i j := by
  have e : (2 : Nat) ^ 64 = 18446744073709551616 := by decide
  exact ⟨h.1, by omega, by omega⟩
theorem same_newE {H Hn : Hp} {p : Addr} {o : HO} (e : upd H p o = Hn) (h : H p = none) : Same H Hn := e ▸ same_new h
theorem upd_at {H Hn : Hp} {p : Addr} {o : HO} (e : upd H p o = Hn) : Hn p = some o := e ▸ upd_same
section
variable {K : PySem.W.Frag} {H H' : Hp} {p q : Addr} {us xs : List V} {ds : List PyData} {d : PyData} {y : V} {o : HO}
/-- a list grows: its things stand apart from it -/
theorem dp_grow (hdp : DpAll K (rs (· ≠ p) H) us ds) (s : Same H H') (hy : Dp K (rs (· ≠ p) H') y d) : DpAll K (rs (· ≠ p) (upd H' p o)) (us ++ [y]) (ds ++ [d]) :=
  (hdp.same (rs_same fun a u na ha => ⟨na, by rw [upd_ne na]; exact s _ _ ha⟩)).snoc (hy.same (rs_same fun a u na ha => ⟨na, by rw [upd_ne na]; exact ha⟩))
theorem dp_tupN (h : H q = some (.tup xs)) (n : q ≠ p) (ha : DpAll K (rs (· ≠ p) H) xs ds) : Dp K (rs (· ≠ p) H) (.ref q) (.tuple ds) := .tup (.of (rs_at n h)) ha
theorem dp_lstN (h : H q = some (.lst xs)) (n : q ≠ p) (ha : DpAll K (rs (· ≠ p) H) xs ds) : Dp K (rs (· ≠ p) H) (.ref q) (.list ds) := .lst (.of (rs_at n h)) ha
/-- data that stood ahead of p -/
theorem dp_old {H0 : Hp} (h : Dp K H0 y d) (n : H0 p = none) (s : Same H0 H) : Dp K (rs (· ≠ p) H) y d := h.same (rs_all fun a u ha => ⟨fun z => (by rw [z, n] at ha; cases ha), s _ _ ha⟩)
theorem dpA_old {H0 : Hp} (h : DpAll K H0 us ds) (n : H0 p = none) (s : Same H0 H) : DpAll K (rs (· ≠ p) H) us ds := h.same (rs_all fun a u ha => ⟨fun z => (by rw [z, n] at ha; cases ha), s _ _ ha⟩)
theorem dp_whole (h : DpAll K (rs (· ≠ p) H) us ds) (e : H p = some (.lst us)) : Dp K H (.ref p) (.list ds) := .lst (.of e) (h.same rs_sub)
theorem ne_new (h : H p = none) (h' : ∃ o, H q = some o) : p ≠ q := fun z => by
  obtain ⟨o, e⟩ := h'
  rw [z, e] at h; cases h
end
theorem fm_get {α β : Type} (g : α → β) : ∀ (l : List α), (List.range l.length).filterMap (fun i => l[i]?.map g) = l.map g
  | [] => rfl
  | a :: l => by
    have ih := fm_get g l
    rw [List.length_cons, List.range_succ_eq_map]
    simp only [List.filterMap_cons, List.getElem?_cons_zero, Option.map_some, List.filterMap_map, Function.comp_def, List.getElem?_cons_succ, List.map_cons]
    rw [ih]
theorem sum_take {α : Type} {l : List α} {f : α → Int} {i : Nat} {x : α} (h : l[i]? = some x) : ((l.take (i + 1)).map f).sum = ((l.take i).map f).sum + f x := by
  rw [List.take_succ, h]
  simp
theorem sum_takeAll {α : Type} {l : List α} {f : α → Int} {n : Nat} (h : l.length ≤ n) : ((l.take n).map f).sum = (l.map f).sum := by rw [List.take_of_length_le h]
/-! ### loops, the ends told one by one -/
section
variable {K : PySem.W.Frag} {σ : L2.St} {H : Hp} {g : TG} {tb : TS} {N : L2.St → Hp → Prop} {R : VK}
/-- what a for asks behind its iterable -/
abbrev ForT (J : It) (σ : L2.St) (H : Hp) (g : TG) (tb : TS) (N : L2.St → Hp → Prop) (R : VK) : Prop :=
  ∃ W : Nat → Nat → L2.St → Hp → Prop, (∃ m, W 0 m σ H) ∧ ∀ i m σ H, W i m σ H →
      (J.stop i H ∧ N σ H) ∨ (J.go i H ∧ ∃ M : L2.St → Hp → Prop, (∀ σ' H', M σ' H' → ∃ m', m' < m ∧ W (i + 1) m' σ' H') ∧ ∀ x H', J.yld i H x H' → g x σ H' fun σ2 H2 => tb ⟨M, R, N, M⟩ σ2 H2)
theorem f_it {J : It} {n : Nat} {G : Hp → Prop} {Y : Nat → Hp → V → Hp → Prop} (w : L2.Walk J n G Y) (Pv : Nat → L2.St → Hp → Prop) (h0 : Pv 0 σ H) (hG : ∀ i σ H, i ≤ n → Pv i σ H → G H)
    (hs : ∀ i x σ H H', i < n → Pv i σ H → Y i H x H' → g x σ H' fun σ2 H2 => tb ⟨Pv (i + 1), R, N, Pv (i + 1)⟩ σ2 H2) (hd : ∀ σ H, Pv n σ H → N σ H) : ForT J σ H g tb N R :=
  for_it (D := ⟨N, R, N, N⟩) w Pv h0 hG hs hd
theorem f_range {lo : Int} {n : Nat} (Pv : Nat → L2.St → Hp → Prop) (h0 : Pv 0 σ H)
    (hs : ∀ i σ H, i < n → Pv i σ H → g (.int (lo + i)) σ H fun σ2 H2 => tb ⟨Pv (i + 1), R, N, Pv (i + 1)⟩ σ2 H2) (hd : ∀ σ H, Pv n σ H → N σ H) : ForT (Itr lo n) σ H g tb N R :=
  for_range (D := ⟨N, R, N, N⟩) Pv h0 hs hd
theorem f_rangeC {lo c : Int} {n : Nat} (Pv : Nat → L2.St → Hp → Prop) (h0 : Pv 0 σ H)
    (hs : ∀ i σ H, i < n → Pv i σ H → g (.int (lo + (i : Nat) * c)) σ H fun σ2 H2 => tb ⟨Pv (i + 1), R, N, Pv (i + 1)⟩ σ2 H2) (hd : ∀ σ H, Pv n σ H → N σ H) : ForT (Itc lo c n) σ H g tb N R :=
  for_rangeC (D := ⟨N, R, N, N⟩) Pv h0 hs hd
theorem f_dp {a : Addr} {ds : List PyData} (h : Dp K H (.ref a) (.list ds)) (Pv : Nat → L2.St → Hp → Prop) (h0 : Pv 0 σ H) (hG : ∀ i σ' H', i ≤ ds.length → Pv i σ' H' → Same H H')
    (hs : ∀ i d x σ' H', i < ds.length → ds[i]? = some d → Pv i σ' H' → Dp K H' x d → g x σ' H' fun σ2 H2 => tb ⟨Pv (i + 1), R, N, Pv (i + 1)⟩ σ2 H2) (hd : ∀ σ' H', Pv ds.length σ' H' → N σ' H') : ForT (Itl K a) σ H g tb N R :=
  for_dp (D := ⟨N, R, N, N⟩) h Pv h0 hG hs hd
end
section
variable {σ σ' : L2.St} {H : Hp} {i : Nat} {v x : V} {B C : L2.St → Hp → Prop} {N : L2.St → Hp → Prop} {R : VK} {te : TE}
theorem L_gnameE {Q : L2.St → Hp → Prop} (e : σ.set i (some v) = σ') (h : Q σ' H) : gName i v σ H Q := by subst e; exact h
end
section
variable {K : PySem.W.Frag} {H H' : Hp} {σ : L2.St} {Q : VK} {te : TE} {tl th : TO}
theorem TyX_same {v : V} {t : Value} (e : Same H H') (h : TyX K H v t) : TyX K H' v t := by
  cases h with
  | base h =>
    refine .base ?_
    cases h with
    | non => exact .non
    | bl x => exact .bl x
    | int x => exact .int x
    | str x => exact .str x
    | flt x => exact .flt x
    | lst h => exact .lst (e _ _ h)
    | frz h => exact .frz (e _ _ h)
    | tup h => exact .tup (e _ _ h)
    | dK h => exact .dK (e _ _ h)
    | dT h => exact .dT (e _ _ h)
    | ins h cl ha hn htk hm => exact .ins (e _ _ h) cl ha hn htk hm
  | byt b => exact .byt b
  | set h => exact .set (e _ _ h)
  | kList h c => exact .kList h c
  | kTuple h c => exact .kTuple h c
  | kDict h c => exact .kDict h c
  | fTuple h => exact .fTuple (e _ _ h)
  | fDict h => exact .fDict (e _ _ h)
theorem NotW.same {v : V} (h : NotW K H v) (e : Same H H') : NotW K H' v := by
  rcases h with h | ⟨a, h1, h2⟩
  · exact .inl h
  · exact .inr ⟨a, TyX_same e h1, h2⟩
theorem BadW.same {v : V} {lo hi : Int} (h : BadW K H v lo hi) (e : Same H H') : BadW K H' v lo hi := by
  rcases h with h | h
  · exact .inl (h.same e)
  · exact .inr h
theorem L_sl {r : V → Option Int → Option Int → Hp → VK → Prop} (h : te σ H fun x H1 => tl σ H1 fun l H2 => th σ H2 fun u H3 => r x l u H3 Q) : L2.tSl r te tl th σ H Q := h
theorem L_noPart {R : Option Int → Hp → Prop} (h : R none H) : tNoPart σ H R := h
theorem L_part {t : TE} {R : Option Int → Hp → Prop} (h : t σ H fun x H1 => ∃ i, x = .int i ∧ R (some i) H1) : tPart t σ H R := h
theorem L_ki {i : Int} {R : Int → Prop} (h : R i) : ∃ j, V.int i = V.int j ∧ R j := ⟨i, rfl, h⟩
theorem L_slL {a : Addr} {xs : List V} {lo hi : Option Int} (h : SqL K H a xs) (q : ∀ p, H p = none → Q (.ref p) (upd H p (.lst (cutV xs lo hi)))) : rSlL K (.ref a) lo hi H Q := ⟨a, xs, rfl, h, q⟩
end
def cutG {α : Type} (xs : List α) (lo hi : Option Int) : List α := (xs.drop (HT.sIx xs.length 0 lo)).take (HT.sIx xs.length xs.length hi - HT.sIx xs.length 0 lo)
theorem cutV_map {α : Type} (f : α → V) (xs : List α) (lo hi : Option Int) : cutV (xs.map f) lo hi = (cutG xs lo hi).map f := by
  unfold cutV cutG
  rw [List.length_map, List.map_take, List.map_drop]
theorem cutG_mem {α : Type} {xs : List α} {lo hi : Option Int} {x : α} (h : x ∈ cutG xs lo hi) : x ∈ xs := List.mem_of_mem_drop (List.mem_of_mem_take h)
theorem cutG_len {α : Type} (xs : List α) (lo hi : Option Int) : (cutG xs lo hi).length ≤ xs.length := by
  unfold cutG
  rw [List.length_take, List.length_drop]
  omega
section
variable {K : PySem.W.Frag} {H : Hp} {Q : VK}
/-- one of some things -/
theorem L_menuV {xs : List V} {p : Addr} {i : Int} (h : SqL K H p xs) (h0 : 0 ≤ i) (h1 : i < xs.length) (q : ∀ v ∈ xs, Q v H) : rIx K (.ref p) (.int i) H Q := by
  have hl : i.toNat < xs.length := by omega
  exact L_ixL h (atI_int h0 (List.getElem?_eq_getElem hl)) (q _ (List.getElem_mem hl))
end
theorem hpL {K : PySem.W.Frag} {H : Hp} {a : Addr} {xs : List V} (h : H a = some (.lst xs)) : SqL K H a xs := .of h
theorem hpT {K : PySem.W.Frag} {H : Hp} {a : Addr} {xs : List V} (h : H a = some (.tup xs)) : SqT K H a xs := .of h
theorem bd_mod {x n : Int} (h : 0 < n ∧ n < 18446744073709551616) : Bd 64 (x % n) := bd_64 (by
  have h1 := Int.emod_nonneg x (show n ≠ 0 by omega)
  have h2 := Int.emod_lt_of_pos x h.1
  omega)
theorem hp_from {H0 H : Hp} {p : Addr} {o : HO} (h : H0 p = some o) (e : Same H0 H) : H p = some o := e _ _ h
theorem same_via {H H1 H2 : Hp} (b : Same H1 H2) (a : Same H H1) : Same H H2 := a.trans b
theorem same_upd' {H H' : Hp} {a : Addr} {o : HO} (h : H' a = none) (e : Same H H') : Same H (upd H' a o) := same_upd e h
theorem same_mut' {H H' : Hp} {a : Addr} {o : HO} (h : H a = none) (e : Same H H') : Same H (upd H' a o) := same_mut e h
section
variable {K : PySem.W.Frag} {H : Hp} {σ : L2.St} {Q : VK}
theorem L_clear {a : Addr} {xs : List V} (h : H a = some (.lst xs)) (q : Q .non (upd H a (.lst []))) : rClear (.ref a) [] H Q := ⟨a, xs, rfl, rfl, h, q⟩
theorem L_dnew (h : ∀ p, H p = none → Q (.ref p) (upd H p (.dK []))) : tDNewK σ H Q := h
/-- no list -/
def NotL (K : PySem.W.Frag) (H : Hp) (v : V) : Prop := ∃ a, TyX K H v (.type a) ∧ kitB a "list" = some false
theorem notl_tup {a : Addr} {xs : List V} (h : SqT K H a xs) : NotL K H (.ref a) := ⟨_, tyx_T h, by decide +kernel⟩
theorem notl_non : NotL K H .non := ⟨_, .base .non, by decide +kernel⟩
theorem notl_int {i : Int} : NotL K H (.int i) := ⟨_, .base (.int i), by decide +kernel⟩
theorem notl_bl {i : Bool} : NotL K H (.bl i) := ⟨_, .base (.bl i), by decide +kernel⟩
theorem notl_str {i : Str} : NotL K H (.str i) := ⟨_, .base (.str i), by decide +kernel⟩
theorem notl_dK {a : Addr} {xs : List (Key × V)} (h : H a = some (.dK xs)) : NotL K H (.ref a) := ⟨_, .base (.dK h), by decide +kernel⟩
theorem NotL.same {H' : Hp} {v : V} (h : NotL K H v) (e : Same H H') : NotL K H' v := by
  obtain ⟨a, h1, h2⟩ := h
  exact ⟨a, TyX_same e h1, h2⟩
end
theorem rep1 (x : Int) : ∀ n : Nat, (List.replicate n [V.int x]).flatten = (List.replicate n x).map V.int
  | 0 => rfl
  | n + 1 => by rw [List.replicate_succ, List.flatten_cons, rep1 x n]; rfl
section
variable {K : PySem.W.Frag} {H : Hp} {Q : VK}
theorem L_neB {i j : Bool} (q : Q (.bl (!decide (i = j))) H) : aNe K (.bl i) (.bl j) H Q := .inl ⟨rfl, by rw [show decide (V.bl i = V.bl j) = decide (i = j) by simp]; exact q⟩
end
/-! ### for x in xs: check(x) -/
section
variable {K : PySem.W.Frag} {σ : L2.St} {H : Hp} {N : L2.St → Hp → Prop} {R : VK} {a : Addr} {xs : List V} {sp : Sp} {ES : L2.St → XK} {i : Nat} {c : Value}
theorem set_self (σ : L2.St) (i : Nat) (hi : i < σ.length) : ∃ v, σ = σ.set i v := ⟨σ[i], by simp⟩
theorem L_forChk (hL : SqL K H a xs) (hi : i < σ.length) (hok : ∀ x ∈ xs, ∀ Q E, Q .non H → sp [x] H Q E) (q : ∀ v, N (σ.set i v) H) : ForT (Itl K a) σ H (gName i) (tDrop (tCallS sp ES (tCons (tVar i) tNil))) N R := by
  refine f_it walk_list (fun _ σ' H' => H' = H ∧ ∃ v, σ' = σ.set i v) ⟨rfl, set_self σ i hi⟩ (fun _ _ _ _ p => p.1 ▸ hL) ?_ ?_
  · rintro j x σ' H' H'' hj ⟨rfl, v, rfl⟩ ⟨rfl, e⟩
    refine L_gname (L_drop (L_callS (L_cons (L_var (v := x) ?_ (L_nil (hok x (List.mem_of_getElem? e) _ _ ?_))))))
    · simp [hi]
    · exact ⟨rfl, some x, by rw [List.set_set]⟩
  · rintro σ' H' ⟨rfl, v, rfl⟩
    exact q v
theorem L_forChkX (hL : SqL K H a xs) (hi : i < σ.length) (hx : ∀ x ∈ xs, (∀ Q E, Q .non H → sp [x] H Q E) ∨ ∀ Q E, E c none H → sp [x] H Q E) (hb : ∃ x ∈ xs, ∀ Q E, E c none H → sp [x] H Q E) (q : ∀ v, ES (σ.set i v) c none H) :
    ForT (Itl K a) σ H (gName i) (tDrop (tCallS sp ES (tCons (tVar i) tNil))) N R := by
  obtain ⟨x0, hx0, hb0⟩ := hb
  obtain ⟨j0, hj0⟩ := List.mem_iff_getElem?.mp hx0
  refine f_it walk_list (fun j σ' H' => H' = H ∧ (∃ v, σ' = σ.set i v) ∧ ∃ k x, j ≤ k ∧ xs[k]? = some x ∧ ∀ Q E, E c none H → sp [x] H Q E) ⟨rfl, set_self σ i hi, j0, x0, Nat.zero_le _, hj0, hb0⟩ (fun _ _ _ _ p => p.1 ▸ hL) ?_ ?_
  · rintro j x σ' H' H'' hj ⟨rfl, ⟨v, rfl⟩, k, y, hk, hy, hby⟩ ⟨rfl, e⟩
    refine L_gname (L_drop (L_callS (L_cons (L_var (v := x) ?_ (L_nil ?_)))))
    · simp [hi]
    · by_cases hc : ∀ Q E, E c none H'' → sp [x] H'' Q E
      · exact hc _ _ (by rw [List.set_set]; exact q _)
      · refine (hx x (List.mem_of_getElem? e)).resolve_right hc _ _ ⟨rfl, ⟨some x, by rw [List.set_set]⟩, k, y, ?_, hy, hby⟩
        rcases Nat.lt_or_eq_of_le hk with hlt | rfl
        · exact hlt
        · rw [e] at hy
          cases hy
          exact absurd hby hc
  · rintro σ' H' ⟨rfl, ⟨v, rfl⟩, k, y, hk, hy, hby⟩
    have := (List.getElem?_eq_some_iff.mp hy).1
    omega
end
theorem L_bm0 {K : PySem.W.Frag} {σ : L2.St} {H : Hp} {Q : VK} {te : TE} {T : String} {r : V → List V → Hp → VK → Prop} (h : te σ H fun x H1 => tyV K T x H1 ∧ r x [] H1 Q) : tBM0 K T r te σ H Q := h
/-- what an expression's ways have in common -/
theorem L_via {P : VK → Prop} {Q : VK} (R : V → Hp → Prop) (key : ∀ Q : VK, (∀ v H', R v H' → Q v H') → P Q) (q : ∀ v H', R v H' → Q v H') : P Q := key Q q
section
variable {K : PySem.W.Frag} {H : Hp} {σ : L2.St} {Q : VK} {ta tb : TE}
theorem L_disp1 (h : ∀ p, H p = none → ta σ (upd H p (.dK [])) fun k H1 => tb σ H1 fun v H2 => H2 p = some (.dK []) ∧ ∃ kvs : List (Key × V), [(k, v)] = kvs.map (fun kv => (kV kv.1, kv.2)) ∧ kvs.length ≤ 15 ∧ Q (.ref p) (upd H2 p (.dK (mergeK [] kvs)))) : tDisp [(ta, tb)] σ H Q := h
theorem L_dispE1 {p : Addr} {k v : V} (kk : Key) (e : k = kV kk) (h : H p = some (.dK [])) (q : Q (.ref p) (upd H p (.dK [(kk, v)]))) : H p = some (.dK []) ∧ ∃ kvs : List (Key × V), [(k, v)] = kvs.map (fun kv => (kV kv.1, kv.2)) ∧ kvs.length ≤ 15 ∧ Q (.ref p) (upd H p (.dK (mergeK [] kvs))) :=
  ⟨h, [(kk, v)], by rw [e]; rfl, by simp, q⟩
/-- a sign of a text -/
theorem L_ixSany {z : Str} {i : Int} (hz : z.length ≤ 1000000) (h0 : 0 ≤ i) (h1 : i < z.length) (q : ∀ a ∈ z.cps.toList, Q (.str ⟨#[a]⟩) H) : rIx K (.str z) (.int i) H Q := by
  have hl : i.toNat < z.cps.toList.length := by
    have e : z.cps.toList.length = z.length := by rw [Array.length_toList]; rfl
    omega
  have h3 : z.cps.toList[i.toNat]? = some z.cps.toList[i.toNat] := List.getElem?_eq_getElem hl
  refine L_ixS (sz_dec hz) (a := z.cps.toList[i.toNat]) ?_ (q _ (List.getElem_mem hl))
  obtain ⟨j, rfl⟩ : ∃ j : Nat, i = (j : Int) := ⟨i.toNat, by omega⟩
  exact atI_nat h3
theorem L_inR {i lo hi : Int} {a : Addr} (h : H a = some (.rng lo hi)) (q : Q (.bl (decide (lo ≤ i ∧ i < hi))) H) : (∃ i' a' lo hi, V.int i = V.int i' ∧ V.ref a = V.ref a' ∧ H a' = some (.rng lo hi) ∧ Q (.bl (decide (lo ≤ i' ∧ i' < hi))) H) := ⟨i, a, lo, hi, rfl, rfl, h, q⟩
theorem L_rng2 {i j : Int} (q : ∀ p, H p = none → Q (.ref p) (upd H p (.rng i j))) : (∃ i' j', [V.int i, V.int j] = [V.int i', V.int j'] ∧ ∀ p, H p = none → Q (.ref p) (upd H p (.rng i' j'))) := ⟨i, j, rfl, q⟩
/-- no text -/
def NotS (K : PySem.W.Frag) (H : Hp) (v : V) : Prop := ∃ a, TyX K H v (.type a) ∧ kitB a "str" = some false
theorem nots_tup {a : Addr} {xs : List V} (h : SqT K H a xs) : NotS K H (.ref a) := ⟨_, tyx_T h, by decide +kernel⟩
theorem nots_lst {a : Addr} {xs : List V} (h : SqL K H a xs) : NotS K H (.ref a) := ⟨_, tyx_L h, by decide +kernel⟩
theorem nots_non : NotS K H .non := ⟨_, .base .non, by decide +kernel⟩
theorem nots_int {i : Int} : NotS K H (.int i) := ⟨_, .base (.int i), by decide +kernel⟩
theorem nots_bl {i : Bool} : NotS K H (.bl i) := ⟨_, .base (.bl i), by decide +kernel⟩
theorem nots_dK {a : Addr} {xs : List (Key × V)} (h : H a = some (.dK xs)) : NotS K H (.ref a) := ⟨_, .base (.dK h), by decide +kernel⟩
theorem NotS.same {H' : Hp} {v : V} (h : NotS K H v) (e : Same H H') : NotS K H' v := by
  obtain ⟨a, h1, h2⟩ := h
  exact ⟨a, TyX_same e h1, h2⟩
end
theorem len1 (a : Nat) : (⟨#[a]⟩ : Str).length = 1 := rfl
theorem str_len_append (a b : Str) : (a ++ b).length = a.length + b.length := Array.size_append
theorem str_len {z : Str} : z.cps.toList.length = z.length := by rw [Array.length_toList]; rfl
theorem one_lt {c d : Nat} : ([c] : List Nat) < [d] ↔ c < d := by
  rw [List.cons_lt_cons_iff]
  constructor
  · rintro (h | ⟨_, h⟩)
    · exact h
    · exact absurd h (List.not_lt_nil _)
  · exact .inl
theorem str_app_list (a b : Str) : (a ++ b).cps.toList = a.cps.toList ++ b.cps.toList := Array.toList_append
theorem eqv_nil {ds : List PyData} : PyData.eqv (.list ds) (.list []) = ds.isEmpty := by
  cases ds <;> simp [PyData.eqv, PyData.eqvAll]
theorem strOk_of {z : Str} (h : ∀ c ∈ z.cps.toList, c < 1114112) : PyData.strOk z = true := by
  show (z.cps.all (· < 0x110000)) = true
  rw [← Array.all_toList, List.all_eq_true]
  intro c hc
  exact decide_eq_true (h c hc)
theorem L_nnT {A B : Prop} (a : A) : if (!!true) = true then A else B := L_T a
theorem L_nnF {A B : Prop} (b : B) : if (!!false) = true then A else B := L_F b
theorem bd_128 {i : Int} (h : -340282366920938463463374607431768211456 < i ∧ i < 340282366920938463463374607431768211456) : Bd 128 i := by
  unfold Bd
  have : (2 : Nat) ^ 128 = 340282366920938463463374607431768211456 := by decide
  omega
/-! ### an exception that was caught, held by a name beyond the clause -/
/-- an exception of the class cls at a, its own dict d -/
def ExI (cls : Value) (d : Option Addr) (a : Addr) : HO := .ext fun h => ∃ (oe : Obj) (vs : Array Value), h.get? a = some oe ∧ Zc cls d oe ∧ oe.data = .fields vs
section
variable {X : Cx} {pins : List (Addr × Obj)} {σ : L2.St} {H : Hp} {s : Shared}
theorem track {a : Addr} {d : Option Addr} {cls : Value} {oe : Obj} {vs : Array Value} (I : Inv X pins σ H s) (na : H a = none) (he : s.heap.get? a = some oe) (z : Zc cls d oe) (hd : oe.data = .fields vs) (n0 : X.s_0.heap.get? a = none)
    (nL : a ≠ X.env.locals) (np : ∀ p ∈ X.pn ++ pins, p.1 ≠ a) : Inv X pins σ (upd H a (ExI cls d a)) s where
  ok := I.ok
  os := I.os
  bare := I.bare
  base := {
    keep := I.base.keep
    slot := I.base.slot
    free := fun b o e n hx => by
      rw [upd_ne (fun z => by rw [z, n0] at e; cases e)]
      exact I.base.free b o e n hx
    there := I.base.there
    tups := fun b xs q => by
      have t := I.base.tups b xs q
      rw [upd_ne (ne_of_none t na)]; exact t
    frzs := fun b o u q => by
      have t := I.base.frzs b o u q
      rw [upd_ne (ne_of_none t na)]; exact t
    tbls := fun b ps q => by
      obtain ⟨more, t⟩ := I.base.tbls b ps q
      exact ⟨more, by rw [upd_ne (ne_of_none t na)]; exact t⟩ }
  loc := I.loc
  cell := I.cell
  free := by rw [upd_ne nL.symm]; exact I.free
  freeC := fun x c e => by
    obtain ⟨v, o, ho, hc⟩ := I.cell x c e
    rw [upd_ne (fun z => by rw [z, he] at ho; cases ho; rw [hd] at hc; cases hc)]
    exact I.freeC x c e
  pin := fun p hp => by
    obtain ⟨h1, h2, h3⟩ := I.pin p hp
    exact ⟨h1, by rw [upd_ne (np p hp)]; exact h2, h3⟩
  hok := fun b o e => by
    by_cases hb : b = a
    · cases hb
      rw [upd_same] at e
      cases e
      exact ⟨⟨oe, vs, he, z, hd⟩, ⟨oe, he⟩, fun _ _ ⟨o1, v1, q, r⟩ k => ⟨o1, v1, k o1 q, r⟩⟩
    · rw [upd_ne hb] at e
      exact (I.hok b o e).stay (fun _ _ _ q => q) (fun c q => by rw [upd_ne (ne_of_none q na)]; exact q) fun c xs q => by rw [upd_ne (ne_of_none q na)]; exact q
  len := I.len
end
/-- what 'except x as n' wishes of an exception, which is tracked behind the suite -/
def wAsT (K : PySem.W.Frag) (c : Value) (i : Nat) (ts : Addr → Value → Option Addr → TS) (Wout : WX) (D : Ends) : WX := fun cls d σ H =>
  ∃ b, PySem.W.exmOne K cls c = some b ∧
    (b = true → ∀ a, H a = none → ts a cls d ⟨fun σ' H' => H' a = none → D.nx (σ'.set i none) (upd H' a (ExI cls d a)), D.rt, fun σ' H' => D.bk (σ'.set i none) H', fun σ' H' => D.ct (σ'.set i none) H'⟩ (σ.set i (some (.ref a))) H) ∧
    (b = false → Wout cls d σ H)
section
variable {X : Cx} {x n : Str} {c : Value} {i : Nat} {body suite : List Stmt} {b₀ : Stmt} {np pos pos' : Pos} {tb : WX → TS} {ts : Addr → Value → Option Addr → TS} {Wout : WX}
theorem ps_try_asT (hs : X.stack = X.env :: X.outer) (hf : X.env.frame = some X.env.locals) (hN : X.N.Nodup) (hi : X.N[i]? = some n) (hln : X.env.kindOf n = some .local) (hex : X.ex = []) (hc : Names X x c) (tk : Takes X Wout)
    (hb : ∀ (W : WX) (pn : List (Addr × Obj)) (xe : Value → Shared → Prop), Takes (X.tr pn xe) W → PassesOwn (model X.prog X.w) X.A X.env xe → PSs (X.tr pn xe) body (tb W))
    (hsu : ∀ (a : Addr) (oe : Obj) (cls : Value) (d : Option Addr) (pn : List (Addr × Obj)), Zc cls d oe → (∃ vs, oe.data = .fields vs) → PSs (X.suite a ((a, oe) :: pn)) (b₀ :: suite) (ts a cls d)) :
    PS X (.Try body [.ExceptHandler (some (.Name x np)) (some n) (b₀ :: suite) pos'] [] [] pos) (fun D σ H => tb (wAsT X.K c i ts Wout D) D σ H) := by
  constructor
  intro pins s0 σ0 H0 D I0 start
  have okX := I0.ok
  have frames : X.A.frames = some (X.env :: X.outer) := by
    rw [okX.frames, hs]
  apply wpAny_Try_except
  -- what is raised in the body is looked at by the clause
  let look : Value → Shared → Prop := fun e t1 => wpAny (model X.prog X.w) X.A (noteFrame e X.env) (fun _ t2 => wpAny (model X.prog X.w) X.A (setFlight e none)
    (fun _ t3 => wpAny (model X.prog X.w) X.A (handleBy e X.env [.ExceptHandler (some (.Name x np)) (some n) (b₀ :: suite) pos']) (SP X pins D) X.xe t3) X.xe t2) X.xe t1
  have caught : Takes (X.tr (X.pn ++ pins) look) (wAsT X.K c i ts Wout D) := by
    intro u s' air
    obtain ⟨a, B, sI, pins', σ', H', cls, d, rfl, K', nb, up, sky, na, os, ag, b, exm, yes, no⟩ := air
    have K0 : Inv X pins σ' H' sI := K'.ofTry okX
    have sky1 : Sky B (X.env :: X.outer) a (Zc cls d) X.env.locals s'.heap := hs ▸ sky
    show wpAny (model X.prog X.w) X.A (noteFrame (.ref a) X.env) _ _ _
    apply Sky.land Zc.steady frames hf sky1
    intro h3 fl3 up3
    have J3 : Inv X pins σ' H' { s' with heap := h3 } := K0.landed nb fl3.1 (up.trans up3) os ag
    obtain ⟨oe3, vs3, at3, z3, data3⟩ := fl3.there
    have offFrames : a ∉ frs (X.env :: X.outer) := fun hm => by
      obtain ⟨_, o', there', hnf⟩ := fl3.2.2.1.mem hm
      rw [at3] at there'
      cases there'
      exact hnf _ data3
    have nL : a ≠ X.env.locals := fun e => offFrames (List.mem_filterMap.mpr ⟨X.env, List.mem_cons_self, by rw [hf, e]⟩)
    have nF : a ∉ X.fs := fun hm => by
      obtain ⟨e, he, q⟩ := List.mem_filterMap.mp hm
      exact offFrames (List.mem_filterMap.mpr ⟨e, List.mem_cons_of_mem _ he, q⟩)
    -- a is new: it stood neither at the try's entry nor at the def's
    have newB : B.get? a = none := fl3.2.1
    have newI : sI.heap.get? a = none := by
      cases q : sI.heap.get? a with
      | none => rfl
      | some o =>
        have := nb a o q (by rw [hs]; exact offFrames)
        rw [newB] at this
        cases this
    have new0 : X.s_0.heap.get? a = none := by
      cases q : X.s_0.heap.get? a with
      | none => rfl
      | some o =>
        obtain ⟨o', q'⟩ := K0.base.there a o q (by rw [hex]; exact List.not_mem_nil)
        rw [newI] at q'
        cases q'
    have apart : ∀ p ∈ X.pn ++ pins, p.1 ≠ a := fun p hp e => by
      have := (K0.pin p hp).1
      rw [e, newI] at this
      cases this
    have S3 := J3.suite at3 data3 na nL nF
    apply wpAny_handleBy_cons _ (by intro q; cases q)
    apply codeAny_handlers_test
    have tyA : PySem.W.Looks (model X.prog X.w) h3 (typeOf (.ref a)) cls := fun A Q E t k q => wpAny_typeOf_ref (k _ _ at3) (by rw [z3.1]; exact q)
    have matched := PySem.W.exm_one (M := model X.prog X.w) (J3.kIn) tyA exm
    have named : ∀ {Q : Value → Shared → Prop} {E : Value → Shared → Prop}, Q c { s' with heap := h3 } → wpAny (model X.prog X.w) (X.A.mark (some (.ref a))) (eval (.Name x np) X.env) Q E { s' with heap := h3 } := by
      intro Q E q
      obtain ⟨hg, hdbg, hm⟩ := hc
      rcases hm with hm | ⟨hm, hv, hnn⟩
      · exact ld_glob (X := X.suite a ((a, oe3) :: (X.pn ++ pins))) S3 hg hm q hdbg
      · exact ld_blt (X := X.suite a ((a, oe3) :: (X.pn ++ pins))) S3 hg hm hv q hnn hdbg
    apply named
    apply matched.here
    cases b with
    | true =>
      apply codeAny_handlers_suite_as
      apply HandSPX.lands_againZ fl3
      intro h4 fl4 up4
      have J4 : Inv X pins σ' H' { s' with heap := h4 } := K0.landed nb fl4.1 ((up.trans up3).trans up4) os ag
      obtain ⟨oe4, vs4, at4, z4, data4⟩ := fl4.there
      have S4 := J4.suite at4 data4 na nL nF
      refine store_ok (X := X.suite a ((a, oe4) :: (X.pn ++ pins))) (v := .ref a) S4 hN hi (.inl hln) rfl (fun s5 S5 => ?_) (.inr hln)
      refine wpAny_mono ((hsu a oe4 cls d (X.pn ++ pins) z4 ⟨_, data4⟩).run [] s5 _ H' _ S5 (yes rfl a na)) (fun f s6 hsp => ?_) (fun _ _ z => z.elim)
      -- out of the suite, the exception still pinned
      have out : ∀ {σ6 : L2.St} {H6 : Hp} {Q : Shared → Prop}, Inv (X.suite a ((a, oe4) :: (X.pn ++ pins))) [] σ6 H6 s6 → (∀ s7, Inv X pins (σ6.set i none) H6 s7 → H6 a = none → s7.heap.get? a = some oe4 → Q s7) →
          wpAny (model X.prog X.w) X.A (do bindName X.env n .none; unbindBehindTheSuite X.env n pos') (fun _ s7 => Q s7) X.xe s6 := fun {σ6 H6 Q} S6 hq => by
        have P6 : Inv X ((a, oe4) :: pins) σ6 H6 s6 := { S6.unsuite okX with
          pin := fun p hp => S6.pin p (by
            rcases List.mem_append.mp hp with hp | hp
            · exact List.mem_append_left _ (List.mem_cons_of_mem _ (List.mem_append_left _ hp))
            · rcases List.mem_cons.mp hp with e | hp
              · rw [e]; exact List.mem_append_left _ List.mem_cons_self
              · exact List.mem_append_left _ (List.mem_cons_of_mem _ (List.mem_append_right _ hp))) }
        refine gone_ok P6 hN hi hln fun s7 P7 => ?_
        have pinned := P7.pin (a, oe4) (List.mem_append_right _ List.mem_cons_self)
        refine hq s7 { P7 with pin := fun p hp => P7.pin p ?_ } pinned.2.1 pinned.1
        rcases List.mem_append.mp hp with hp | hp
        · exact List.mem_append_left _ hp
        · exact List.mem_append_right _ (List.mem_cons_of_mem _ hp)
      match f, hsp with
      | .next, ⟨σ6, H6, S6, q6⟩ => exact out S6 fun s7 J7 n6 a6 => ⟨_, _, track J7 n6 a6 z4 data4 new0 nL apart, q6 n6⟩
      | .brk, ⟨σ6, H6, S6, q6⟩ => exact out S6 fun s7 J7 _ _ => ⟨_, _, J7, q6⟩
      | .cont, ⟨σ6, H6, S6, q6⟩ => exact out S6 fun s7 J7 _ _ => ⟨_, _, J7, q6⟩
      | .ret u, ⟨v6, σ6, H6, S6, r6, q6⟩ => exact out S6 fun s7 J7 _ _ => ⟨_, _, _, J7, r6, q6⟩
    | false =>
      show wpAny _ X.A (handleBy (.ref a) X.env []) _ _ _
      apply wpAny_handleBy_nil
      obtain ⟨_, _, _, oe, vs, T, oT, ts', he, hz, hd, h1, hr⟩ := id fl3
      unfold PySem.passOn
      refine wpAny_bind (wpAny_field he hd h1 ?_)
      rw [if_neg (show ¬ ((Value.ref T == Value.none) = true) from by simp)]
      have on : wpAny (model X.prog X.w) X.A (setFlight (.ref a) X.env.frame) (fun _ s4 => wpAny (model X.prog X.w) X.A (throw (.ref a) : Sem Flow) (SP X pins D) X.xe s4) X.xe { s' with heap := h3 } := by
        rw [hf]
        apply HandSPX.setFlight_upZ fl3
        intro h4 held4 up4
        apply wpAny_throw
        apply tk
        exact ⟨a, B, sI, pins, σ', H', cls, d, rfl, K0, nb, (up.trans up3).trans up4, .inr (.inr (by rw [hs]; exact held4)), na, os, ag, no rfl⟩
      first
        | exact wpAny_bind (wpAny_pure (wpAny_bind on))
        | exact wpAny_bind on
  refine wpAny_mono ((hb (wAsT X.K c i ts Wout D) (X.pn ++ pins) look caught PassesOwn.looking).run [] s0 σ0 H0 D (I0.toTry _) start) (fun f s1 hsp => ?_) (fun e s1 he => he)
  match f, hsp with
  | .next, ⟨σ1, H1, J1, q⟩ => exact wpAny_execs_nil ⟨σ1, H1, J1.ofTry okX, q⟩
  | .brk, ⟨σ1, H1, J1, q⟩ => exact ⟨σ1, H1, J1.ofTry okX, q⟩
  | .cont, ⟨σ1, H1, J1, q⟩ => exact ⟨σ1, H1, J1.ofTry okX, q⟩
  | .ret u, ⟨v, σ1, H1, J1, r, q⟩ => exact ⟨v, σ1, H1, J1.ofTry okX, r, q⟩
end
/-- isinstance of a caught exception that a name holds -/
def rIsX (K : PySem.W.Frag) : List V → Hp → VK → Prop := fun xs H Q => ∃ (a D : Addr) (c : V) (u : Value) (b : Bool), xs = [.ref a, c] ∧ H a = some (ExI (.ref D) none a) ∧ L2.ExcC K D ∧ ClsV c u ∧ PySem.W.kitOne K (.ref D) u = some b ∧ Q (.bl b) H
def rIsXT (K : PySem.W.Frag) : List V → Hp → VK → Prop := fun xs H Q => ∃ (a D tp : Addr) (cs : List V) (us : List Value) (b : Bool), xs = [.ref a, .ref tp] ∧ H a = some (ExI (.ref D) none a) ∧ L2.ExcC K D ∧ H tp = some (.tup cs) ∧ Paired ClsV cs us ∧ PySem.W.kitAny K (.ref D) us = some b ∧ Q (.bl b) H
section
variable {X : Cx} {pins : List (Addr × Obj)} {σ : L2.St} {H : Hp} {s : Shared}
theorem exI_at {a D : Addr} (I : Inv X pins σ H s) (h : H a = some (ExI (.ref D) none a)) : ∃ oe, PySem.W.InstAt s.heap a oe D none := by
  obtain ⟨⟨oe, vs, q1, ⟨q2, q3⟩, q4⟩, _⟩ := I.hok a _ h
  obtain ⟨oc, od, oda, osl⟩ := oe
  dsimp only at q2 q3 q4
  subst q2 q3 q4
  exact ⟨_, q1, rfl, rfl, trivial⟩
theorem call_isX : CallR X (.builtin "isinstance") (rIsX X.K) := by
  intro pins s σ H xs us Q I r h
  obtain ⟨a, D, c, u, b, rfl, hx, C, k, e, q⟩ := h
  obtain ⟨u1, u2, rfl, r1, r2⟩ := vals2 r
  cases r1
  cases k.eq r2
  obtain ⟨oe, J⟩ := exI_at I hx
  exact PySem.W.kia_one (PySem.W.handS_kitx_exc C.hg C.hk C.hs C.hd C.ha C.hn C.ht C.hm) I.kIn J e (fun z => nomatch z) fun tk => ⟨.bl b, H, I.tok tk, rfl, q⟩
theorem call_isXT : CallR X (.builtin "isinstance") (rIsXT X.K) := by
  intro pins s σ H xs us Q I r h
  obtain ⟨a, D, tp, cs, ws, b, rfl, hx, C, hT, k, e, q⟩ := h
  obtain ⟨u1, u2, rfl, r1, r2⟩ := vals2 r
  cases r1
  cases (show u2 = Value.ref tp from r2)
  obtain ⟨oe, J⟩ := exI_at I hx
  obtain ⟨_, its, rv, o, h1, h2, n, h3⟩ := (show ObjOk X.prog X.w H s.heap tp (.tup cs) from I.hok tp _ hT)
  have e3 := ClsV.all k rv
  subst e3
  obtain ⟨oc, od, dt, sl⟩ := o
  simp only at h2 h3
  subst h2 h3
  exact PySem.W.kia_tup (PySem.W.handS_kitx_exc C.hg C.hk C.hs C.hd C.ha C.hn C.ht C.hm) I.kIn J h1 e (fun z => nomatch z) fun tk => ⟨.bl b, H, I.tok tk, rfl, q⟩
end
section
variable {K : PySem.W.Frag} {H : Hp} {Q : VK} {C D : Addr} {b : Bool}
theorem kit_ref (hD : PySem.W.subIn K (.ref D) (.ref D) = some true) (k : ExcK K C) (h : PySem.W.subIn K (.ref D) (.ref C) = some b) : PySem.W.kitOne K (.ref D) (.ref C) = some b := by
  unfold PySem.W.kitOne
  by_cases e : D = C
  · subst e
    rw [hD] at h
    cases h
    rw [if_pos (by simp)]
  · rw [if_neg (by simpa using e)]
    have h2 : (PySem.W.clsIn K C).isSome = true := k.i
    show (if ((PySem.W.clsIn K C).isSome && PySem.W.typeIn K (.ref C) == some (.type "type")) = true then PySem.W.subIn K (.ref D) (.ref C) else none) = some b
    rw [if_pos (by rw [h2, k.t]; rfl)]
    exact h
theorem kit_typ {T : String} (hm : PySem.W.kitMeta T = true) (h : PySem.W.subIn K (.ref D) (.type T) = some b) : PySem.W.kitOne K (.ref D) (.type T) = some b := by
  unfold PySem.W.kitOne
  rw [if_neg (by simp)]
  show (if PySem.W.kitMeta T = true then PySem.W.subIn K (.ref D) (.type T) else none) = some b
  rw [if_pos hm]
  exact h
theorem L_isX {a : Addr} {c : V} {u : Value} (h : H a = some (ExI (.ref D) none a)) (C : L2.ExcC K D) (k : ClsV c u) (e : PySem.W.kitOne K (.ref D) u = some b) (q : Q (.bl b) H) : rIsX K [.ref a, c] H Q := ⟨a, D, c, u, b, rfl, h, C, k, e, q⟩
theorem L_isXT {a tp : Addr} {cs : List V} {us : List Value} (h : H a = some (ExI (.ref D) none a)) (C : L2.ExcC K D) (hT : H tp = some (.tup cs)) (k : Paired ClsV cs us) (e : PySem.W.kitAny K (.ref D) us = some b) (q : Q (.bl b) H) : rIsXT K [.ref a, .ref tp] H Q := ⟨a, D, tp, cs, us, b, rfl, h, C, hT, k, e, q⟩
theorem kit_none : ∀ {us : List Value}, (∀ u ∈ us, PySem.W.kitOne K (.ref D) u = some false) → PySem.W.kitAny K (.ref D) us = some false
  | [], _ => rfl
  | u :: us, h => by
    unfold PySem.W.kitAny
    rw [h u (List.mem_cons_self ..)]
    exact kit_none fun x hx => h x (List.mem_cons_of_mem _ hx)
theorem L_asT {c : Value} {i : Nat} {ts : Addr → Value → Option Addr → TS} {Wout : WX} {D : Ends} {σ : L2.St} {cls : Value} {d : Option Addr} (h : PySem.W.exmOne K cls c = some true)
    (q : ∀ a, H a = none → ts a cls d ⟨fun σ' H' => H' a = none → D.nx (σ'.set i none) (upd H' a (ExI cls d a)), D.rt, fun σ' H' => D.bk (σ'.set i none) H', fun σ' H' => D.ct (σ'.set i none) H'⟩ (σ.set i (some (.ref a))) H) : wAsT K c i ts Wout D cls d σ H :=
  ⟨true, h, fun _ => q, fun z => nomatch z⟩
end
/-! ### lists of numbers, and what is none -/
def BadNs (K : PySem.W.Frag) (H : Hp) (v : V) (lo hi : Int) : Prop := NotL K H v ∨ ∃ a xs, v = .ref a ∧ SqL K H a xs ∧ (24 < xs.length ∨ ((∀ x ∈ xs, (∃ t, x = .int t ∧ lo ≤ t ∧ t ≤ hi) ∨ BadW K H x lo hi) ∧ ∃ x ∈ xs, BadW K H x lo hi))
def GoodNs (K : PySem.W.Frag) (H : Hp) (v : V) (ts : List Int) (lo hi : Int) : Prop := ∃ a, v = .ref a ∧ SqL K H a (ts.map V.int) ∧ ts.length ≤ 24 ∧ ∀ t ∈ ts, lo ≤ t ∧ t ≤ hi
section
variable {K : PySem.W.Frag} {H H' : Hp} {v : V} {lo hi : Int} {ts : List Int}
theorem BadNs.same (h : BadNs K H v lo hi) (e : Same H H') : BadNs K H' v lo hi := by
  rcases h with h | ⟨a, xs, h1, h2, h3⟩
  · exact .inl (h.same e)
  · refine .inr ⟨a, xs, h1, e.seq h2, ?_⟩
    rcases h3 with h3 | ⟨h3, x, h4, h5⟩
    · exact .inl h3
    · exact .inr ⟨fun x hx => (h3 x hx).imp id fun b => b.same e, x, h4, h5.same e⟩
theorem GoodNs.same (h : GoodNs K H v ts lo hi) (e : Same H H') : GoodNs K H' v ts lo hi := by
  obtain ⟨a, h1, h2, h3, h4⟩ := h
  exact ⟨a, h1, e.seq h2, h3, h4⟩
theorem bad_one {a : Addr} {x : V} (h : H a = some (.lst [x])) (b : BadW K H x lo hi) : BadNs K H (.ref a) lo hi := .inr ⟨a, _, rfl, .of h, .inr ⟨fun y hy => by rw [List.mem_singleton.mp hy]; exact .inr b, x, List.mem_singleton.mpr rfl, b⟩⟩
theorem good_ns {a : Addr} (h : H a = some (.lst (ts.map V.int))) (hl : ts.length ≤ 24) (hb : ∀ t ∈ ts, lo ≤ t ∧ t ≤ hi) : GoodNs K H (.ref a) ts lo hi := ⟨a, rfl, .of h, hl, hb⟩
theorem int_of_mem {x : V} (h : x ∈ ts.map V.int) : ∃ t ∈ ts, x = .int t := by
  obtain ⟨t, h1, h2⟩ := List.mem_map.mp h
  exact ⟨t, h1, h2.symm⟩
theorem getD_of {i : Nat} {t : Int} (h : ts[i]? = some t) : ts.getD i 0 = t := by rw [List.getD_eq_getElem?_getD, h]; rfl
theorem fm_int {f : Nat → Option Int} {n : Nat} : (List.range n).filterMap (fun i => (f i).map V.int) = ((List.range n).filterMap f).map V.int := by
  rw [List.map_filterMap]
end
/-- pairs of ints as data -/
def d2 (r : Int × Int) : PyData := .tuple [.int r.1, .int r.2]
section
variable {K : PySem.W.Frag} {H : Hp} {v : V} {us : List V} {rows : List (Int × Int)}
theorem of_d2 {r : Int × Int} (h : Dp K H v (d2 r)) : ∃ a, v = .ref a ∧ SqT K H a [.int r.1, .int r.2] := by
  obtain ⟨a, x, y, rfl, h1, h2, h3⟩ := of_t2 h
  rw [of_int h2, of_int h3] at h1
  exact ⟨a, rfl, h1⟩
theorem hit2 (hA : DpAll K H us (rows.map d2)) {i : Nat} {x : V} (hx : us[i]? = some x) : ∃ r t, rows[i]? = some r ∧ x = V.ref t ∧ SqT K H t [.int r.1, .int r.2] := by
  obtain ⟨d, h1, h2⟩ := hA.of hx
  rw [List.getElem?_map] at h1
  obtain ⟨r, h3, rfl⟩ := Option.map_eq_some_iff.mp h1
  obtain ⟨t, rfl, h4⟩ := of_d2 h2
  exact ⟨r, t, h3, rfl, h4⟩
theorem shp_d2s : SeqAt.shaped (.list (rows.map d2)) = true := (shp_lst (n := 1) (shp_map fun r _ => shp_tup (n := 0) (shp_cons shp_int (shp_cons shp_int shp_nil)))).ok
end
theorem cutG_take {α : Type} (xs : List α) (n : Nat) : cutG xs none (some (n : Int)) = xs.take n := by
  unfold cutG
  rw [HT.sIx_none, HT.sIx_nat, List.drop_zero, Nat.sub_zero]
  rcases Nat.le_total n xs.length with h | h
  · rw [Nat.min_eq_left h]
  · rw [Nat.min_eq_right h, List.take_of_length_le (Nat.le_refl _), List.take_of_length_le h]
theorem cutG_drop {α : Type} (xs : List α) (n : Nat) : cutG xs (some (n : Int)) none = xs.drop n := by
  unfold cutG
  rw [HT.sIx_none, HT.sIx_nat]
  rcases Nat.le_total n xs.length with h | h
  · rw [Nat.min_eq_left h, List.take_of_length_le (by rw [List.length_drop]; exact Nat.le_refl _)]
  · rw [Nat.min_eq_right h, List.drop_of_length_le (Nat.le_refl _), List.drop_of_length_le h, List.take_nil]
theorem strOk_lit {z : Str} (h : PyData.strOk z = true) : PyData.strOk z = true := h
theorem dpa_app {K : PySem.W.Frag} {H : Hp} : ∀ {ds es : List PyData} {vs us : List V}, DpAll K H (vs ++ us) (ds ++ es) → vs.length = ds.length → DpAll K H vs ds ∧ DpAll K H us es
  | [], _, [], _, h, _ => ⟨.nil, h⟩
  | [], _, _ :: _, _, _, e => by simp at e
  | _ :: _, _, [], _, _, e => by simp at e
  | d :: ds, _, v :: vs, _, h, e => by
    cases h with
    | cons h1 h2 =>
      obtain ⟨a, b⟩ := dpa_app h2 (by simpa using e)
      exact ⟨.cons h1 a, b⟩
theorem nn_ints_or {K : PySem.W.Frag} {H : Hp} {x : V} {ts : List Int} {lo hi : Int} (hb : ∀ t ∈ ts, lo ≤ t ∧ t ≤ hi) (h : x ∈ ts.map V.int) : (∃ t, x = .int t ∧ lo ≤ t ∧ t ≤ hi) ∨ BadW K H x lo hi := by
  obtain ⟨t, ht, e⟩ := int_of_mem h
  exact .inl ⟨t, e, hb t ht⟩
theorem rep_len {α : Type} (xs : List α) : ∀ n : Nat, (List.replicate n xs).flatten.length = n * xs.length
  | 0 => by simp
  | n + 1 => by rw [List.replicate_succ, List.flatten_cons, List.length_append, rep_len xs n, Nat.succ_mul, Nat.add_comm]
/-! ### exceptions whose own __init__ asks their base's by its name -/
/-- S.__init__, S an own class, is ValueError's -/
structure BaseI (K : PySem.W.Frag) (S : Addr) : Prop where
  rd : PySem.W.readsIn K S (.type "type") = true
  ga : PySem.W.specialIn K (.ref S) "__getattribute__" = some (some (.builtin "type.__getattribute__"))
  vi : PySem.W.findCls K (.ref S) (.type "type") "__init__" = some (.val (.builtin "ValueError.__init__"))
structure XIniAt (K : PySem.W.Frag) (C : Addr) (qual : Str) (st : Stmt) (ps : List Str) : Prop where
  ex : ∃ (f : Addr) (fd : FuncData), Fun K "__init__" qual st f fd ∧ PySem.W.findIn K (.ref C) "__init__" = some (some (.ref f)) ∧ PySem.W.isFn K (.ref f) = true ∧ Binds K fd ps []
/-- an exception that may be made by its class's name -/
structure XMak (P : Program) (w : World) (K : PySem.W.Frag) (mg : Str → Option Value) (base : Heap) (k : Nat) (x : Str) (C : Addr) (sp : Sp) : Prop where
  ex : ∃ (f : Addr) (fd : FuncData) (ps : List Str), FnOk P w K mg base CX0 k f fd ps sp ∧ PySem.W.findIn K (.ref C) "__init__" = some (some (.ref f)) ∧ PySem.W.typeIn K (.ref f) = some (.type "function") ∧ mg x = some (.ref C) ∧ Binds K fd ps []
section
variable {P : Program} {w : World} {K : PySem.W.Frag} {mg : Str → Option Value} {base : Heap}
theorem XIniAt.xmak {x : Str} {C : Addr} {qual : Str} {st : Stmt} {N ps : List Str} {k : Nat} {sp : Sp} (hx : mg x = some (.ref C)) (d : XIniAt K C qual st ps) (S : FnScope N ps (defScope st)) (len : ∀ vs H Q E, sp vs H Q E → vs.length = ps.length)
    (hbody : ∀ (f : Addr) (cdv : Value) (A : Around) (outer : List Env) (s : Shared) (H : Hp) (vs : List V) (Q : VK) (E : XK), Room k (A.deeper (envOfC qual (defScope st) s.heap.objs.size f cdv)) → sp vs H Q E →
      ∃ t, PSs (cxOf CX0 P w K mg base N qual (defScope st) f cdv A outer s H E).nox (defBody st) t ∧ t { nx := fun _ H' => Q .non H', rt := Q } (start N vs) H) : XMak P w K mg base (k + 1) x C sp := by
  obtain ⟨f, fd, F, h1, h2, b⟩ := d.ex
  exact ⟨f, fd, ps, F.ok S len (hbody f), h1, beq_iff_eq.mp h2, hx, b⟩
end
section
variable {X : Cx} {k j : Nat} {C S : Addr} {x : Str} {sp : Sp} {p p1 p2 pos : Pos} {e : Expr} {es : List Expr} {ta : TA}
theorem pmk_x (c : XMak X.prog X.w X.K X.mg X.base k x C sp) (T : OexC X.K C) (hr : Room j X.A) (hk : k + 1 ≤ j) (hg : Gl X x) (ha : PA X (e :: es) ta)
    (hdb : (x == ("__debug__" : Str)) = false := by decide) (he : starEach (e :: es) X.env = (false, eval e X.env) :: starEach es X.env := by rfl) (hpl : (backTo pos (starEach es X.env)).any (·.1) = false := by rfl) :
    PMk X (.Call (.Name x p) (e :: es) [] pos) (tMkO C sp [] ta) := by
  obtain ⟨f, fd, ps, F, h1, h2, hm, b⟩ := c.ex
  exact pmk_oex T h1 h2 F (hr.mono hk) b .nil pass0 hg hm ha hdb he hpl
theorem pe_baseI {pl : Sem Bool} (hg : Gl X x) (hm : X.mg x = some (.ref S)) (B : BaseI X.K S) (ha : PA X (e :: es) ta)
    (hc : eval (.Call (.Attribute (.Name x p1) "__init__" p2) (e :: es) [] pos) X.env = (do
      let ov ← eval (.Name x p1) X.env
      standAt p2.atName
      let (f, first) ← holding [ov] (getMethod ov "__init__" pl)
      callWith pos f first (backTo pos (starEach (e :: es) X.env)) (backToKw pos (keywordEach [] X.env))) := by rfl)
    (hdb : (x == ("__debug__" : Str)) = false := by decide) (he : starEach (e :: es) X.env = (false, eval e X.env) :: starEach es X.env := by rfl) (hpl : (backTo pos (starEach es X.env)).any (·.1) = false := by rfl) :
    PE X (.Call (.Attribute (.Name x p1) "__init__" p2) (e :: es) [] pos) (tVeI X.K ta) := by
  constructor
  intro pins s σ H Q I h
  have asked : ∀ s1, Inv X pins σ H s1 → wpAny (model X.prog X.w) X.A (callWith pos (Value.builtin "ValueError.__init__") [] (backTo pos (starEach (e :: es) X.env)) []) (EP X pins σ Q) X.xe s1 := fun s1 I1 =>
    PyProof.Rows.callWith_method1 (thn (ha.run pos pins s1 σ H _ I1 h) fun us s2 ⟨vs, H2, I2, r, a, D, ws, evs, few, T, atA, q⟩ => by
      subst evs
      cases r with
      | @cons _ u0 _ ur r0 rr =>
        obtain rfl : u0 = Value.ref a := r0
        have few' : ur.length ≤ sizeLine := by
          have := Paired.length rr
          have := sizeLine_eq
          omega
        exact oinit_ok T I2 atA few' fun s3 I3 => ⟨.non, H2, I3, rfl, q⟩) he hpl
  refine PySem.W.methodCall_KW (ld_glob I hg hm ?_ hdb) hc
  refine PySem.W.method_cls I.kIn B.ga (PySem.W.cls_value I.kIn B.rd B.vi (by decide +kernel) ?_)
  exact asked _ (I.tok _)
end
section
variable {K : PySem.W.Frag} {σ : L2.St} {H : Hp} {D : Ends} {C a : Addr} {f : Str} {y : V} {ta : TA} {te to : TE}
theorem L_veI {R : Hp → Prop} {ws : List V} (T : OexC K C) (h : H a = some (exo a C none)) (l : ws.length ≤ 1000) (q : R H) : ∃ (a' C : Addr) (ws' : List V), V.ref a :: ws = .ref a' :: ws' ∧ ws'.length ≤ 1000 ∧ OexC K C ∧ H a' = some (exo a' C none) ∧ R H := ⟨a, C, ws, rfl, l, T, h, q⟩
theorem L_tveI {Q : VK} (h : ta σ H fun vs H1 => ∃ (a C : Addr) (ws : List V), vs = .ref a :: ws ∧ ws.length ≤ 1000 ∧ OexC K C ∧ H1 a = some (exo a C none) ∧ Q .non H1) : tVeI K ta σ H Q := h
theorem L_ost (h : te σ H fun y H1 => to σ H1 fun x H2 => ∃ a C : Addr, x = .ref a ∧ OexC K C ∧ PySem.W.findIn K (.ref C) f = some none ∧
  ((H2 a = some (exo a C none) ∧ ∀ dx, H2 dx = none → dx ≠ a → D.nx σ (upd (upd H2 dx (exd dx [(f, y)])) a (exo a C (some dx)))) ∨
    ∃ (dx : Addr) (fs : List (Str × V)), H2 a = some (exo a C (some dx)) ∧ H2 dx = some (exd dx fs) ∧ fs.length ≤ 900 ∧ D.nx σ (upd H2 dx (exd dx ((f, y) :: fs))))) : tOst K f to te D σ H := h
theorem L_ost1 {R : Hp → Prop} (T : OexC K C) (nf : PySem.W.findIn K (.ref C) f = some none) (h : H a = some (exo a C none)) (q : ∀ dx, H dx = none → dx ≠ a → R (upd (upd H dx (exd dx [(f, y)])) a (exo a C (some dx)))) :
    ∃ a' C : Addr, V.ref a = .ref a' ∧ OexC K C ∧ PySem.W.findIn K (.ref C) f = some none ∧
  ((H a' = some (exo a' C none) ∧ ∀ dx, H dx = none → dx ≠ a' → R (upd (upd H dx (exd dx [(f, y)])) a' (exo a' C (some dx)))) ∨
    ∃ (dx : Addr) (fs : List (Str × V)), H a' = some (exo a' C (some dx)) ∧ H dx = some (exd dx fs) ∧ fs.length ≤ 900 ∧ R (upd H dx (exd dx ((f, y) :: fs)))) := ⟨a, C, rfl, T, nf, .inl ⟨h, q⟩⟩
/-- what an __init__ with one field keeps -/
def XIni1 (C : Addr) (f : Str) (a : Addr) (v : V) (H : Hp) (Q : VK) : Prop := H a = some (exo a C none) ∧ ∀ d, H d = none → d ≠ a → Q .non (upd (upd H d (exd d [(f, v)])) a (exo a C (some d)))
/-- C(v) is raised -/
theorem L_mkO1 {sp : Sp} {E : XK} {v : V} (hs : ∀ a H Q E, XIni1 C f a v H Q → sp [.ref a, v] H Q E) (q : ∀ d, H d = none → E (.ref C) (some d) (upd H d (.xd [(f, v)]))) : [v].length ≤ 1000 ∧ ∀ a, H a = none → sp (.ref a :: ([v] ++ [])) (upd H a (exo a C none))
  (fun v H2 => v = .non ∧ ∃ (d : Addr) (fs : List (Str × V)), H2 a = some (exo a C (some d)) ∧ H2 d = some (exd d fs) ∧ H d = none ∧ E (.ref C) (some d) (upd (del H2 a) d (.xd fs))) (fun _ _ _ => False) := by
  refine ⟨by rw [List.length_singleton]; decide, fun a na => hs a _ _ _ ⟨upd_same, fun d nd ne => ⟨rfl, d, [(f, v)], upd_same, ?_, ?_, ?_⟩⟩⟩
  · rw [upd_ne ne, upd_same]
  · rw [upd_ne ne] at nd
    exact nd
  · rw [upd_ne ne] at nd
    have z : upd (del (upd (upd (upd H a (exo a C none)) d (exd d [(f, v)])) a (exo a C (some d))) a) d (.xd [(f, v)]) = upd H d (.xd [(f, v)]) := by
      funext b
      by_cases hb : b = d
      · rw [hb, upd_same, upd_same]
      · rw [upd_ne hb, upd_ne hb]
        by_cases ha : b = a
        · rw [ha, del_same, na]
        · rw [del_ne ha, upd_ne ha, upd_ne hb, upd_ne ha]
    rw [z]
    exact q d nd
theorem L_mkO {sp : Sp} {dvs : List V} {Q : XK} (h : ta σ H fun vs H1 => vs.length ≤ 1000 ∧ ∀ a, H1 a = none → sp (.ref a :: (vs ++ dvs)) (upd H1 a (exo a C none))
  (fun v H2 => v = .non ∧ ∃ (d : Addr) (fs : List (Str × V)), H2 a = some (exo a C (some d)) ∧ H2 d = some (exd d fs) ∧ H1 d = none ∧ Q (.ref C) (some d) (upd (del H2 a) d (.xd fs))) (fun _ _ _ => False)) : tMkO C sp dvs ta σ H Q := h
end
/-- isinstance(e, c) in e's own suite, whatever its dict -/
def rIsS (K : PySem.W.Frag) (a : Addr) (cls : Value) (d : Option Addr) : List V → Hp → VK → Prop := fun xs H Q => ∃ (D : Addr) (c : V) (u : Value) (b : Bool), xs = [.ref a, c] ∧ cls = .ref D ∧ (∀ dd, d = some dd → ∃ fs, H dd = some (.xd fs)) ∧ L2.ExcC K D ∧ ClsV c u ∧ PySem.W.kitOne K (.ref D) u = some b ∧ Q (.bl b) H
theorem call_isS {X : Cx} {a : Addr} {cls : Value} {d : Option Addr} {oe : Obj} {pn : List (Addr × Obj)} (hz : Zc cls d oe) (hf : ∃ vs, oe.data = .fields vs) : CallR (X.suite a ((a, oe) :: pn)) (.builtin "isinstance") (rIsS X.K a cls d) := by
  intro pins s σ H xs us Q I r h
  obtain ⟨D, c, u, b, rfl, rfl, hd, C, k, e, q⟩ := h
  obtain ⟨u1, u2, rfl, r1, r2⟩ := vals2 r
  cases r1
  cases k.eq r2
  obtain ⟨there, _⟩ := I.pin (a, oe) (List.mem_append_left _ List.mem_cons_self)
  obtain ⟨vs, data⟩ := hf
  have J : ∃ od, PySem.W.InstAt s.heap a oe D od := by
    have nc : PySem.W.notCls oe = true := by unfold PySem.W.notCls; rw [data] <;> rfl
    cases d with
    | none => exact ⟨none, there, hz.1, nc, by rw [hz.2]; exact True.intro⟩
    | some dd =>
      obtain ⟨fs, hdd⟩ := hd dd rfl
      obtain ⟨mA, ⟨o, es, ep, ho, _⟩, _⟩ := (show ObjOk X.prog X.w H s.heap dd (.xd fs) from I.hok dd _ hdd)
      exact ⟨some o, there, hz.1, nc, by rw [hz.2]; exact ho⟩
  obtain ⟨od, J⟩ := J
  obtain ⟨cd, hcd, _⟩ := PySem.W.any_some C.hd
  exact PySem.W.kia_one (PySem.W.kitx_exc (show (PySem.W.clsIn _ D).isSome = true by rw [hcd]; rfl) C.hg C.hk C.hs C.ha C.hn C.ht C.hm) I.kIn J e (fun z => nomatch z) fun tk => ⟨.bl b, H, I.tok tk, rfl, q⟩
theorem L_isS {K : PySem.W.Frag} {H : Hp} {Q : VK} {a D : Addr} {d : Option Addr} {c : V} {u : Value} {b : Bool} (hd : ∀ dd, d = some dd → ∃ fs, H dd = some (.xd fs)) (C : L2.ExcC K D) (k : ClsV c u) (e : PySem.W.kitOne K (.ref D) u = some b) (q : Q (.bl b) H) : rIsS K a (.ref D) d [.ref a, c] H Q := ⟨D, c, u, b, rfl, rfl, hd, C, k, e, q⟩
/-- the same, of some classes -/
def rIsST (K : PySem.W.Frag) (a : Addr) (cls : Value) (d : Option Addr) : List V → Hp → VK → Prop := fun xs H Q => ∃ (D tp : Addr) (cs : List V) (ws : List Value) (b : Bool), xs = [.ref a, .ref tp] ∧ cls = .ref D ∧ (∀ dd, d = some dd → ∃ fs, H dd = some (.xd fs)) ∧ L2.ExcC K D ∧ H tp = some (.tup cs) ∧ Paired ClsV cs ws ∧ PySem.W.kitAny K (.ref D) ws = some b ∧ Q (.bl b) H
theorem call_isST {X : Cx} {a : Addr} {cls : Value} {d : Option Addr} {oe : Obj} {pn : List (Addr × Obj)} (hz : Zc cls d oe) (hf : ∃ vs, oe.data = .fields vs) : CallR (X.suite a ((a, oe) :: pn)) (.builtin "isinstance") (rIsST X.K a cls d) := by
  intro pins s σ H xs us Q I r h
  obtain ⟨D, tp, cs, ws, b, rfl, rfl, hd, C, hT, k, e, q⟩ := h
  obtain ⟨u1, u2, rfl, r1, r2⟩ := vals2 r
  cases r1
  cases (show u2 = Value.ref tp from r2)
  obtain ⟨there, _⟩ := I.pin (a, oe) (List.mem_append_left _ List.mem_cons_self)
  obtain ⟨vs, data⟩ := hf
  have J : ∃ od, PySem.W.InstAt s.heap a oe D od := by
    have nc : PySem.W.notCls oe = true := by unfold PySem.W.notCls; rw [data] <;> rfl
    cases d with
    | none => exact ⟨none, there, hz.1, nc, by rw [hz.2]; exact True.intro⟩
    | some dd =>
      obtain ⟨fs, hdd⟩ := hd dd rfl
      obtain ⟨mA, ⟨o, es, ep, ho, _⟩, _⟩ := (show ObjOk X.prog X.w H s.heap dd (.xd fs) from I.hok dd _ hdd)
      exact ⟨some o, there, hz.1, nc, by rw [hz.2]; exact ho⟩
  obtain ⟨od, J⟩ := J
  obtain ⟨_, its, rv, o, h1, h2, n, h3⟩ := (show ObjOk X.prog X.w H s.heap tp (.tup cs) from I.hok tp _ hT)
  have e3 := ClsV.all k rv
  subst e3
  obtain ⟨oc, od2, dt, sl⟩ := o
  simp only at h2 h3
  subst h2 h3
  obtain ⟨cd, hcd, _⟩ := PySem.W.any_some C.hd
  exact PySem.W.kia_tup (PySem.W.kitx_exc (show (PySem.W.clsIn _ D).isSome = true by rw [hcd]; rfl) C.hg C.hk C.hs C.ha C.hn C.ht C.hm) I.kIn J h1 e (fun z => nomatch z) fun tk => ⟨.bl b, H, I.tok tk, rfl, q⟩
theorem L_isST {K : PySem.W.Frag} {H : Hp} {Q : VK} {a D tp : Addr} {d : Option Addr} {cs : List V} {ws : List Value} {b : Bool} (hd : ∀ dd, d = some dd → ∃ fs, H dd = some (.xd fs)) (C : L2.ExcC K D) (hT : H tp = some (.tup cs)) (k : Paired ClsV cs ws) (e : PySem.W.kitAny K (.ref D) ws = some b) (q : Q (.bl b) H) : rIsST K a (.ref D) d [.ref a, .ref tp] H Q := ⟨D, tp, cs, ws, b, rfl, rfl, hd, C, hT, k, e, q⟩
/-- one of two derivations -/
def tOrE (t1 t2 : TE) : TE := fun σ H Q => t1 σ H Q ∨ t2 σ H Q
theorem PE.or {X : Cx} {e : Expr} {t1 t2 : TE} (h1 : PE X e t1) (h2 : PE X e t2) : PE X e (tOrE t1 t2) :=
  ⟨fun pins s σ H Q I h => h.elim (fun h => h1.run pins s σ H Q I h) (fun h => h2.run pins s σ H Q I h)⟩
/-- what isinstance asks of an instance's own class; of the class it is asked of -/
structure InsC (K : PySem.W.Frag) (C : Addr) : Prop where
  ha : PySem.W.findIn K (.ref C) "__class__" = some (some (.builtin "object.__class__"))
  hn : PySem.W.specialIn K (.builtin "object.__class__") "__get__" = some (some (.builtin "getset_descriptor.__get__"))
  ht : PySem.W.takesIn K (.builtin "object.__class__") = some true
  hm : PySem.W.mroIn K C (.type "object") = some true
structure ClsT (K : PySem.W.Frag) (C : Addr) : Prop where
  i : PySem.W.isClsIn K C = true
  t : PySem.W.typeIn K (.ref C) = some (.type "type")
theorem tyx_I {K : PySem.W.Frag} {H : Hp} {a C dx : Addr} {fs : List (Str × V)} (h : H a = some (.ins C dx fs)) (cl : Cls K C) (c : InsC K C) : TyX K H (.ref a) (.ref C) := .base (.ins h cl c.ha c.hn c.ht c.hm)
theorem kit_own {K : PySem.W.Frag} {C D : Addr} {b : Bool} (hD : PySem.W.subIn K (.ref D) (.ref D) = some true) (k : ClsT K C) (h : PySem.W.subIn K (.ref D) (.ref C) = some b) : PySem.W.kitOne K (.ref D) (.ref C) = some b := by
  unfold PySem.W.kitOne
  by_cases e : D = C
  · subst e
    rw [hD] at h
    cases h
    rw [if_pos (by simp)]
  · rw [if_neg (by simpa using e)]
    have h2 : (PySem.W.clsIn K C).isSome = true := k.i
    show (if ((PySem.W.clsIn K C).isSome && PySem.W.typeIn K (.ref C) == some (.type "type")) = true then PySem.W.subIn K (.ref D) (.ref C) else none) = some b
    rw [if_pos (by rw [h2, k.t]; rfl)]
    exact h
theorem kit_not {K : PySem.W.Frag} {T : String} {C : Addr} {b : Bool} (k : ClsT K C) (h : PySem.W.subIn K (.type T) (.ref C) = some b) : PySem.W.kitOne K (.type T) (.ref C) = some b := by
  unfold PySem.W.kitOne
  rw [if_neg (by simp)]
  have h2 : (PySem.W.clsIn K C).isSome = true := k.i
  show (if ((PySem.W.clsIn K C).isSome && PySem.W.typeIn K (.ref C) == some (.type "type")) = true then PySem.W.subIn K (.type T) (.ref C) else none) = some b
  rw [if_pos (by rw [h2, k.t]; rfl)]
  exact h
theorem L_orl {t1 t2 : TE} {σ : L2.St} {H : Hp} {Q : VK} (h : t1 σ H Q) : tOrE t1 t2 σ H Q := .inl h
theorem L_orr {t1 t2 : TE} {σ : L2.St} {H : Hp} {Q : VK} (h : t2 σ H Q) : tOrE t1 t2 σ H Q := .inr h
theorem L_xf {a C : Addr} {cls : Value} {d : Option Addr} {f : Str} {te : TE} {σ : L2.St} {H : Hp} {Q : VK} (h : te σ H fun x H1 => x = .ref a ∧ cls = .ref C ∧ ∃ (dd : Addr) (fs : List (Str × V)) (v : V), d = some dd ∧ H1 dd = some (.xd fs) ∧ fs.lookup f = some v ∧ Q v H1) : tXf a cls d C f te σ H Q := h
theorem ExcC.xf {K : PySem.W.Frag} {C : Addr} (c : L2.ExcC K C) : XfC K C := ⟨c.hg, c.hk, c.hs, c.hd⟩
theorem L_isC {K : PySem.W.Frag} {H : Hp} {Q : VK} {x : V} {T : Value} {C : Addr} {b : Bool} (ty : TyX K H x T) (e : PySem.W.kitOne K T (.ref C) = some b) (q : Q (.bl b) H) : rIsi K [x, .ref C] H Q := ⟨x, .ref C, T, .ref C, b, rfl, .own C, ty, e, q⟩
theorem L_str1 {H : Hp} {Q : VK} {t : Int} (h : 0 ≤ t ∧ t ≤ 1000) (q : Q (.str (toString t)) H) : aStr1 [.int t] H Q := ⟨t, rfl, by have := Nat.log2_le_self t.natAbs; omega, q⟩
theorem str_short : ∀ t : Int, 0 ≤ t → t ≤ 100 → (↑(toString t) : Str).length ≤ 3 := by
  have h : ∀ n ∈ List.range 101, (↑(toString ((n : Nat) : Int)) : Str).length ≤ 3 := by decide +kernel
  intro t h0 h1
  have := h t.toNat (List.mem_range.mpr (by omega))
  rwa [Int.toNat_of_nonneg h0] at this

/-! ### exceptions held as values -/
/-- at a: an exception of the own class D, not raised; fs: its own fields -/
def XVal (H : Hp) (a D : Addr) (fs : List (Str × V)) : Prop := (fs = [] ∧ H a = some (ExI (.ref D) none a)) ∨ ∃ d, H a = some (exo a D (some d)) ∧ H d = some (exd d fs)
theorem XVal.same {H H' : Hp} {a D : Addr} {fs : List (Str × V)} (h : XVal H a D fs) (s : Same H H') : XVal H' a D fs := by
  rcases h with ⟨h1, h2⟩ | ⟨d, h1, h2⟩
  · exact .inl ⟨h1, s _ _ h2⟩
  · exact .inr ⟨d, s _ _ h1, s _ _ h2⟩
theorem xval_inst {X : Cx} {pins : List (Addr × Obj)} {σ : L2.St} {H : Hp} {s : Shared} {a D : Addr} {fs : List (Str × V)} (I : Inv X pins σ H s) (h : XVal H a D fs) : ∃ oe od, PySem.W.InstAt s.heap a oe D od := by
  rcases h with ⟨_, h⟩ | ⟨d, h1, h2⟩
  · obtain ⟨oe, J⟩ := exI_at I h
    exact ⟨oe, none, J⟩
  · obtain ⟨t1, ho⟩ := exo_at I.hok h1
    obtain ⟨mA, ⟨o, _, _, hd, _⟩, _⟩ := exd_at I.hok h2
    exact ⟨_, some o, ho, rfl, rfl, hd⟩
def rIsV (K : PySem.W.Frag) : List V → Hp → VK → Prop := fun xs H Q => ∃ (a D : Addr) (fs : List (Str × V)) (c : V) (u : Value) (b : Bool), xs = [.ref a, c] ∧ XVal H a D fs ∧ L2.ExcC K D ∧ ClsV c u ∧ PySem.W.kitOne K (.ref D) u = some b ∧ Q (.bl b) H
theorem call_isV {X : Cx} : CallR X (.builtin "isinstance") (rIsV X.K) := by
  intro pins s σ H xs us Q I r h
  obtain ⟨a, D, fs, c, u, b, rfl, hx, C, k, e, q⟩ := h
  obtain ⟨u1, u2, rfl, r1, r2⟩ := vals2 r
  cases r1
  cases k.eq r2
  obtain ⟨oe, od, J⟩ := xval_inst I hx
  obtain ⟨cd, hcd, _⟩ := PySem.W.any_some C.hd
  exact PySem.W.kia_one (PySem.W.kitx_exc (show (PySem.W.clsIn _ D).isSome = true by rw [hcd]; rfl) C.hg C.hk C.hs C.ha C.hn C.ht C.hm) I.kIn J e (fun z => nomatch z) fun tk => ⟨.bl b, H, I.tok tk, rfl, q⟩
theorem L_isV {K : PySem.W.Frag} {H : Hp} {Q : VK} {a D : Addr} {fs : List (Str × V)} {c : V} {u : Value} {b : Bool} (h : XVal H a D fs) (C : L2.ExcC K D) (k : ClsV c u) (e : PySem.W.kitOne K (.ref D) u = some b) (q : Q (.bl b) H) : rIsV K [.ref a, c] H Q := ⟨a, D, fs, c, u, b, rfl, h, C, k, e, q⟩
/-- e.f, e such a value -/
def tXv (K : PySem.W.Frag) (f : Str) (te : TE) : TE := fun σ H Q => te σ H fun x H1 => ∃ (a D d : Addr) (fs : List (Str × V)) (v : V), x = .ref a ∧ L2.ExcC K D ∧ PySem.W.findIn K (.ref D) f = some none ∧ H1 a = some (exo a D (some d)) ∧ H1 d = some (exd d fs) ∧ fs.lookup f = some v ∧ Q v H1
theorem L_xv {K : PySem.W.Frag} {f : Str} {te : TE} {σ : L2.St} {H : Hp} {Q : VK} (h : te σ H fun x H1 => ∃ (a D d : Addr) (fs : List (Str × V)) (v : V), x = .ref a ∧ L2.ExcC K D ∧ PySem.W.findIn K (.ref D) f = some none ∧ H1 a = some (exo a D (some d)) ∧ H1 d = some (exd d fs) ∧ fs.lookup f = some v ∧ Q v H1) : tXv K f te σ H Q := h
theorem pe_xv {X : Cx} {e : Expr} {te : TE} {f : Str} {pos : Pos} (he : PE X e te) (hb : attributeBase e f X.env (eval e X.env) = eval e X.env := by rfl) : PE X (.Attribute e f pos) (tXv X.K f te) := by
  constructor
  intro pins s σ H Q I h
  refine attr_of hb (thn (he.run pins s σ H _ I h) fun u s1 ⟨x, H1, I1, rx, a, D, d, fs, v, ex, C, nf, h1, h2, l, q⟩ => ?_)
  subst ex
  cases rx
  obtain ⟨t1, ho⟩ := exo_at I1.hok h1
  obtain ⟨mA, hns, rel⟩ := exd_at I1.hok h2
  obtain ⟨od, hod, hlk⟩ := lookIn_ns hns
  obtain ⟨w, hw, rw'⟩ := RelO.some_of (v := v) (o := mA f) (by rw [← l]; exact rel f)
  have J : PySem.W.InstAt s1.heap a _ D (some od) := ⟨ho, rfl, rfl, hod⟩
  exact HandSPX.exc_get I1.kIn J C.hg C.hk C.hs (PySem.W.findObj_own C.hd nf rfl (by rw [hlk, hw])) (handed_of rw') ⟨v, H1, I1.tok _, rw', q⟩
/-- C(), C without an own __init__ -/
def tMk0V (C : Addr) : TE := fun _ H Q => ∀ a, H a = none → Q (.ref a) (upd H a (ExI (.ref C) none a))
theorem pe_mk0V {X : Cx} {C : Addr} {x : Str} {p pos : Pos} (c : ExcAt X.K C) (gC : X.mg x = some (.ref C)) (hg : Gl X x) (hdb : (x == ("__debug__" : Str)) = false := by decide) : PE X (.Call (.Name x p) [] [] pos) (tMk0V C) := by
  constructor
  intro pins s σ H Q I h
  refine wpAny_Call_Name_kw (ld_glob I hg gC ?_ hdb)
  refine PySem.W.callWith_K0 I.kIn c.k ?_
  obtain ⟨bm, N, nm, qn, bs, hdct, sn, sub, ab, col, dd, k0, k1, k2, k3, k5, mN, hC, hN, hni, T⟩ := exc_obj I.kIn c.x
  refine wpAny_call_exc_subT PySem.F.excBase_ValueError T hC hN hni (fun h' a hm => ?_) (Nat.zero_le _)
  have na : H a = none := I.hok.gone hm.new
  obtain ⟨t, at_, _, _⟩ := hm.there
  refine ⟨.ref a, _, I.laidN (o := ExI (.ref C) none a) hm.keeps hm.new na ⟨⟨_, _, at_, ⟨rfl, rfl⟩, rfl⟩, ⟨_, at_⟩, fun _ _ ⟨o1, v1, z, r⟩ k => ⟨o1, v1, k o1 z, r⟩⟩, rfl, h a na⟩
/-- C(..), C with an own __init__ -/
def tMkV (C : Addr) (sp : Sp) (ta : TA) : TE := fun σ H Q => ta σ H fun vs H1 => vs.length ≤ 1000 ∧ ∀ a, H1 a = none → sp (.ref a :: vs) (upd H1 a (exo a C none)) (fun v H2 => v = .non ∧ Q (.ref a) H2) E0
theorem L_mkV {C : Addr} {sp : Sp} {ta : TA} {σ : L2.St} {H : Hp} {Q : VK} (h : ta σ H fun vs H1 => vs.length ≤ 1000 ∧ ∀ a, H1 a = none → sp (.ref a :: vs) (upd H1 a (exo a C none)) (fun v H2 => v = .non ∧ Q (.ref a) H2) E0) : tMkV C sp ta σ H Q := h
theorem L_mk0V {C : Addr} {σ : L2.St} {H : Hp} {Q : VK} (h : ∀ a, H a = none → Q (.ref a) (upd H a (ExI (.ref C) none a))) : tMk0V C σ H Q := h
theorem pe_mkV {X : Cx} {k j : Nat} {C : Addr} {x : Str} {sp : Sp} {p pos : Pos} {e : Expr} {es : List Expr} {ta : TA} (c : XMak X.prog X.w X.K X.mg X.base k x C sp) (T : OexC X.K C) (hr : Room j X.A) (hk : k + 1 ≤ j) (hg : Gl X x) (ha : PA X (e :: es) ta)
    (hdb : (x == ("__debug__" : Str)) = false := by decide) (he : starEach (e :: es) X.env = (false, eval e X.env) :: starEach es X.env := by rfl) (hpl : (backTo pos (starEach es X.env)).any (·.1) = false := by rfl) :
    PE X (.Call (.Name x p) (e :: es) [] pos) (tMkV C sp ta) := by
  obtain ⟨f, fd, ps, F, iC, tI, hm, hb⟩ := c.ex
  have room := hr.mono hk
  obtain ⟨nm, q, N, bs, bm, sn, sub, ab, col, dd, k0, k1, k2, k3, k5, hC, hbm⟩ := T.cls
  constructor
  intro pins s σ H Q I h
  refine wpAny_Call_Name_kw (ld_glob I hg hm ?_ hdb)
  refine PySem.W.callWith_K (h₀ := X.base) I.ok.mod.kin T.kC (thn (ha.run pos pins s σ H _ I h) fun us s1 ⟨vs, H1, I1, r1, hz, q1⟩ => ⟨I1.kIn, ?_⟩) he hpl
  show wpAny _ _ (call (.ref C) us) _ _ _
  have r1 : Vals vs us := r1
  have few : us.length ≤ sizeLine := by
    have z1 := Paired.length r1
    have z2 := sizeLine_eq
    omega
  obtain ⟨hp, g, dr, tk, os⟩ := s1
  -- the arguments' tuple and the exception's own place
  have old : ∀ b o, hp.get? b = some o → ((hp.push (PySem.W.kdv_tup us)).push (PySem.HandSPX.excO C hp.objs.size)).get? b = some o := fun b o z => Heap.get?_push_of_some _ (Heap.get?_push_of_some _ z)
  have here : ((hp.push (PySem.W.kdv_tup us)).push (PySem.HandSPX.excO C hp.objs.size)).get? (hp.objs.size + 1) = some (PySem.HandSPX.excO C hp.objs.size) := by heap_get
  have free : H1 (hp.objs.size + 1) = none := I1.hok.fresh (Nat.le_succ _)
  have J : Inv X pins σ (upd H1 (hp.objs.size + 1) (exo (hp.objs.size + 1) C none)) ⟨(hp.push (PySem.W.kdv_tup us)).push (PySem.HandSPX.excO C hp.objs.size), g, dr, tk, os⟩ :=
    I1.laid (t' := tk) old (Nat.le_succ _) (exo_ok here)
  have asked := q1 _ free
  have args : Vals (V.ref (hp.objs.size + 1) :: vs) (Value.ref (hp.objs.size + 1) :: us) := .cons rfl r1
  have many : (Value.ref (hp.objs.size + 1) :: us).length = ps.length := args.length.symm.trans (F.len _ _ _ _ asked)
  have bound := hb _ (Value.ref (hp.objs.size + 1) :: us) J.kIn (by rw [List.append_nil]; exact many)
  rw [List.append_nil] at bound
  refine wpAny_call (PySem.HandSPX.call_own PySem.F.excBase_ValueError (fun Y => PySem.HandSPX.refsVE_contains Y bm hbm) (I1.kIn _ _ hC) (PySem.W.looks_findIn I1.kIn iC) (fun self => PySem.W.bind_fn I1.kIn self tI) few ?_)
  refine codeAny_mono (F.run _ X.stack _ _ ⟨_, []⟩ _ _ _ E0 (room.make C us []) (J.env0.make C us []) bound args asked) fun out s' ho => ?_
  match out, ho with
  | .error e, ho => exact pass0 pins σ _ _ e s' J ho
  | .ok (.ret u), ho =>
    obtain ⟨v, H', J', rel, hv, rest⟩ := J.after ho
    cases hv
    exact ⟨rel, .ref (hp.objs.size + 1), H', J', rfl, rest⟩
  | .ok .next, ho => exact ho.elim
  | .ok .brk, ho => exact ho.elim
  | .ok .cont, ho => exact ho.elim
theorem L_dsetd {td ty tx : TE} {σ : L2.St} {H : Hp} {Q : VK} (h : td σ H fun x H1 => ∃ a, x = .ref a ∧ IsD H1 a ∧ ty σ H1 fun y H2 => tx σ H2 fun z H3 => ∃ (kvs : List (Key × V)) (k : Key), H3 a = some (.dK kvs) ∧ y = kV k ∧ kvs.length < sizeLine ∧
  (∀ v, valV kvs k = some v → Q v H3) ∧ (valV kvs k = none → Q z (upd H3 a (.dK (putK kvs k z))))) : tDSetd td ty tx σ H Q := h
/-! ### the tuples of a heap; fields changed by += -/
noncomputable def tp (H : Hp) : Hp := rs (fun b => ∃ xs, H b = some (.tup xs)) H
theorem tp_same {H H' : Hp} (h : ∀ b xs, H b = some (.tup xs) → H' b = some (.tup xs)) : Same (tp H) (tp H') := rs_same fun b o ⟨xs, e⟩ z => ⟨⟨xs, h b xs e⟩, by rw [e] at z; cases z; exact h b xs e⟩
theorem tp_upd {H : Hp} {a : Addr} {o : HO} (h : ∀ xs, H a ≠ some (.tup xs)) : Same (tp H) (tp (upd H a o)) := tp_same fun b xs e => by rw [upd_ne fun z => h xs (by rw [← z]; exact e)]; exact e
theorem tp_at {H : Hp} {b : Addr} {xs : List V} (h : H b = some (.tup xs)) : tp H b = some (.tup xs) := rs_at ⟨xs, h⟩ h
theorem tp_of {H H' : Hp} (e : Same H H') : Same (tp H) (tp H') := tp_same fun b xs z => e _ _ z
theorem L_fldaug {K : PySem.W.Frag} {σ : L2.St} {H : Hp} {N B C' : L2.St → Hp → Prop} {R : VK} {f : Str} {ta tv : TE} {rd : V → V → Hp → VK → Prop} (h : ta σ H fun x H1 => ∃ a C dx fs v, x = .ref a ∧ H1 a = some (.ins C dx fs) ∧ Cls K C ∧ NoAttr K C f ∧ fs.lookup f = some v ∧
  tv σ H1 fun y H2 => rd v y H2 fun z H3 => ∃ dx' fs', H3 a = some (.ins C dx' fs') ∧ fs'.length < 1000 ∧ N σ (upd H3 a (.ins C dx' (putF f z fs')))) : sFldAug K ta tv rd f ⟨N, R, B, C'⟩ σ H := h
theorem L_rAdd {H : Hp} {Q : VK} {i j : Int} (h : Q (.int (i + j)) H) : rAdd (.int i) (.int j) H Q := ⟨i, j, rfl, rfl, h⟩
theorem fm_flt {α β : Type} (c : α → Bool) (g : α → β) : ∀ l : List α, (List.range l.length).filterMap (fun i => (l[i]?).bind fun x => if c x = true then some (g x) else none) = (l.filter c).map g
  | [] => rfl
  | a :: l => by
    have ih := fm_flt c g l
    rw [List.length_cons, List.range_succ_eq_map]
    simp only [List.filterMap_cons, List.getElem?_cons_zero, Option.bind_some, List.filterMap_map, Function.comp_def, List.getElem?_cons_succ]
    rw [ih]
    cases h : c a
    · rw [List.filter_cons_of_neg (by simp [h])]; simp
    · rw [List.filter_cons_of_pos h]; simp
/-- t * n, t a text -/
def rRepS : R2 := fun x y H Q => ∃ (z : Str) (k : Int), x = .str z ∧ y = .int k ∧ MulOk z k ∧ Q (.str (Txt.mul z k)) H
theorem op_repS {X : Cx} : OpR X (binaryOp .Mult) rRepS := by
  intro pins s σ H x y v u Q I rx ry h
  obtain ⟨z, k, rfl, rfl, hz, q⟩ := h
  obtain ⟨t, rfl⟩ := rx
  obtain ⟨t', rfl⟩ := ry
  exact SB.mul hz fun t' tk => ⟨.str (Txt.mul z k), H, I.tok _, ⟨_, rfl⟩, q⟩
theorem L_repS0 {H : Hp} {Q : VK} {z : Str} {k : Int} (h : k = 0) (q : Q (.str Str.empty) H) : rRepS (.str z) (.int k) H Q := by
  subst h
  exact ⟨z, 0, rfl, rfl, ⟨by decide, fun h => absurd (by decide) h, fun h => absurd (by decide) h⟩, q⟩
theorem sqT_upd {K : PySem.W.Frag} {H : Hp} {p a : Addr} {us xs : List V} {o : HO} (hp : H p = some (.lst us)) (h : SqT K H a xs) : SqT K (upd H p o) a xs := by
  rcases h with (h | ⟨o', h⟩) | h
  · exact .inl (.inl (by rw [upd_ne fun z => by rw [z, hp] at h; cases h]; exact h))
  · exact .inl (.inr ⟨o', by rw [upd_ne fun z => by rw [z, hp] at h; cases h]; exact h⟩)
  · exact .inr h
theorem rep_map {α : Type} (f : α → V) (xs : List α) (n : Nat) : (List.replicate n (xs.map f)).flatten = ((List.replicate n xs).flatten).map f := by
  induction n with
  | zero => rfl
  | succ n ih => rw [List.replicate_succ, List.flatten_cons, List.replicate_succ, List.flatten_cons, List.map_append, ih]
theorem cutG_both {α : Type} (xs : List α) {a b : Nat} (h1 : a ≤ b) (h2 : b ≤ xs.length) : cutG xs (some (a : Int)) (some (b : Int)) = (xs.drop a).take (b - a) := by
  unfold cutG
  rw [HT.sIx_nat, HT.sIx_nat, Nat.min_eq_left h2, Nat.min_eq_left (Nat.le_trans h1 h2)]
/-! ### looks at a question's form, ahead of steps that show something -/
section
variable {K : PySem.W.Frag} {σ : L2.St} {H : Hp} {Q : VK} {x y v : V}
theorem G_mul (h : aMul x y H Q) : aMul x y H Q := h
theorem G_mod {g : Int → Int → V} (h : rI (fun _ j => 0 < j) g x y H Q) : rI (fun _ j => 0 < j) g x y H Q := h
theorem G_div {g : Int → Int → V} (h : rI CDivW g x y H Q) : rI CDivW g x y H Q := h
theorem G_pow {g : Int → Int → V} (h : rI CPow g x y H Q) : rI CPow g x y H Q := h
theorem G_ix {p : Addr} {i : Int} (h : rIx K (.ref p) (.int i) H Q) : rIx K (.ref p) (.int i) H Q := h
theorem G_len {p : Addr} (h : aLen K [.ref p] H Q) : aLen K [.ref p] H Q := h
theorem G_meth {a : Addr} {C : Addr} {m : Str} {R : Addr → Addr → List (Str × V) → Prop} (h : ∃ a' dx fs, V.ref a = V.ref a' ∧ H a' = some (.ins C dx fs) ∧ fs.lookup m = none ∧ R a' dx fs) : ∃ a' dx fs, V.ref a = V.ref a' ∧ H a' = some (.ins C dx fs) ∧ fs.lookup m = none ∧ R a' dx fs := h
theorem G_isi {i : Int} {n : String} (h : rIsi K [.int i, .ty n] H Q) : rIsi K [.int i, .ty n] H Q := h
theorem G_d {p : Prop} [Decidable p] {A B : Prop} (h : if decide p = true then A else B) : if decide p = true then A else B := h
theorem G_nd {p : Prop} [Decidable p] {A B : Prop} (h : if (!decide p) = true then A else B) : if (!decide p) = true then A else B := h
theorem G_gn {i : Nat} {N : L2.St → Hp → Prop} (h : gName i v σ H N) : gName i v σ H N := h
end
theorem inV_strs (n : Str) : ∀ ns : List Str, inV (.str n) (ns.map V.str) = decide (n ∈ ns)
  | [] => by simp [inV]
  | k :: ns => by
    have ih := inV_strs n ns
    unfold inV at ih ⊢
    rw [List.map_cons, List.any_cons, ih]
    by_cases e : n = k
    · subst e
      simp [eqV]
    · have e' : ¬ k = n := fun z => e z.symm
      simp [eqV, e, e']
theorem flat_strs : ∀ ns : List Str, (ns.map V.str).all flatV = true
  | [] => rfl
  | _ :: ns => by rw [List.map_cons, List.all_cons, flat_strs ns]; rfl
section
variable {K : PySem.W.Frag} {H : Hp} {Q : VK} {p : Addr} {z : Str} {ns : List Str}
theorem L_notInSs (h : SqL K H p (ns.map V.str)) (q : Q (.bl (!decide (z ∈ ns))) H) : aNotIn K (.str z) (.ref p) H Q := .inr ⟨p, _, rfl, .inl h, rfl, flat_strs _, by rw [if_pos rfl, inV_strs]; exact q⟩
theorem L_inSs (h : SqL K H p (ns.map V.str)) (q : Q (.bl (decide (z ∈ ns))) H) : aIn K (.str z) (.ref p) H Q := .inr ⟨p, _, rfl, .inl h, rfl, flat_strs _, by rw [if_neg (by decide), inV_strs]; exact q⟩
end
/-! ### dicts: in, not in, d[k] = v -/
section
variable {K : PySem.W.Frag} {σ : L2.St} {H : Hp} {Q : VK} {ty td tv : TE} {y v : V} {a : Addr} {k : Key} {kvs : List (Key × V)}
theorem L_din (h : ty σ H fun y H1 => td σ H1 fun x H2 => ∃ a o, x = .ref a ∧ DGet H2 a y o ∧ Q (.bl o.isSome) H2) : tDIn ty td σ H Q := h
theorem L_dnin (h : ty σ H fun y H1 => td σ H1 fun x H2 => ∃ a o, x = .ref a ∧ DGet H2 a y o ∧ Q (.bl (!o.isSome)) H2) : tDNotIn ty td σ H Q := h
theorem L_dget (h : td σ H fun x H1 => ty σ H1 fun y H2 => ∃ a v, x = .ref a ∧ DGet H2 a y (some v) ∧ Q v H2) : tDGet td ty σ H Q := h
theorem L_dinv {R : Option V → Prop} (e : y = kV k) (h : H a = some (.dK kvs)) (q : R (valV kvs k)) : ∃ a' o, V.ref a = .ref a' ∧ DGet H a' y o ∧ R o := ⟨a, _, rfl, by rw [e]; exact DGet.k h, q⟩
theorem L_dgetv {R : V → Prop} (e : y = kV k) (h : H a = some (.dK kvs)) (hv : valV kvs k = some v) (q : R v) : ∃ a' v, V.ref a = .ref a' ∧ DGet H a' y (some v) ∧ R v := ⟨a, v, rfl, by rw [e, ← hv]; exact DGet.k h, q⟩
theorem L_dput {N B C : L2.St → Hp → Prop} {R : VK} (h : tv σ H fun v H1 => td σ H1 fun x H2 => ty σ H2 fun y H3 => ∃ a H4, x = .ref a ∧ DPut H3 a y v H4 ∧ N σ H4) : sDPut td ty tv ⟨N, R, B, C⟩ σ H := h
theorem L_dputv {R : Hp → Prop} (e : y = kV k) (h : H a = some (.dK kvs)) (hl : kvs.length < 1000000) (q : R (upd H a (.dK (putK kvs k v)))) : ∃ a' H4, V.ref a = .ref a' ∧ DPut H a' y v H4 ∧ R H4 := ⟨a, _, rfl, by rw [e]; exact DPut.k h (sz_lt hl), q⟩
end
theorem putK_len {kvs : List (Key × V)} {k : Key} {v : V} : (putK kvs k v).length ≤ kvs.length + 1 := by
  unfold putK
  split
  · rw [List.length_map]; omega
  · rw [List.length_append, List.length_singleton]; omega
/-! ### a comprehension of new pairs of ints -/
def T2 (H : Hp) (v : V) (p : Int × Int) : Prop := ∃ t, v = .ref t ∧ H t = some (.tup [.int p.1, .int p.2])
theorem paired_imp2 {α β : Type} {F G : α → β → Prop} (h : ∀ a b, F a b → G a b) : ∀ {xs : List α} {ys : List β}, Paired F xs ys → Paired G xs ys
  | [], _, p => by cases p; exact .nil
  | x :: xs, _, p => by cases p with | cons h1 h2 => exact .cons (h _ _ h1) (paired_imp2 h h2)
theorem paired_app {α β : Type} {F : α → β → Prop} : ∀ {xs us : List α} {ys ws : List β}, Paired F xs ys → Paired F us ws → Paired F (xs ++ us) (ys ++ ws)
  | [], _, _, _, p, q => by cases p; exact q
  | x :: xs, _, _, _, p, q => by cases p with | cons h1 h2 => exact .cons h1 (paired_app h2 q)
section
variable {σ : L2.St} {H : Hp} {g : TG} {tt : TT} {te : TE}
theorem lc_pr {J : It} {n : Nat} {G : Hp → Prop} {Y : Nat → Hp → V → Hp → Prop} (w : L2.Walk J n G Y) {vs : List Nat} {Qd : Addr → Hp → Prop} (f : Nat → Option (Int × Int)) (hn : n ≤ 1000000) (hG : ∀ H', Same H H' → G H')
    (hs : ∀ i x H2 H' (R : V → Hp → Prop) (R' : Hp → Prop), i < n → Same H H2 → Y i H2 x H' → (∀ t p H4, f i = some p → Same H2 H4 → H4 t = some (.tup [.int p.1, .int p.2]) → R (.ref t) H4) → (∀ H3, f i = none → Same H2 H3 → R' H3) →
      g x (wipe σ vs) H' fun σ2 H2 => wipe σ2 vs = wipe σ vs ∧ tt σ2 H2 fun b H3 => if b = true then te σ2 H3 R else R' H3)
    (q : ∀ p H' vs, H p = none → Same H H' → H' p = some (.lst vs) → Paired (T2 H') vs ((List.range n).filterMap f) → Qd p H') :
    ∀ D, H D = none → ∃ W : Nat → Nat → Hp → Prop, (∃ m, W 0 m (upd H D (.lst []))) ∧ ∀ i m H, W i m H →
      (J.stop i H ∧ Qd D H) ∨ (J.go i H ∧ ∃ Nx : Hp → Prop, (∀ H', Nx H' → ∃ m', m' < m ∧ W (i + 1) m' H') ∧ ∀ x H', J.yld i H x H' → g x (wipe σ vs) H' fun σ2 H2 => wipe σ2 vs = wipe σ vs ∧ tt σ2 H2 fun b H3 =>
        if b = true then te σ2 H3 fun y H4 => ∃ acc, H4 D = some (.lst acc) ∧ acc.length < sizeLine ∧ Nx (upd H4 D (.lst (acc ++ [y]))) else Nx H3) := by
  intro D hD
  refine lc_it w (fun i H2 => Same H H2 ∧ ∃ us, H2 D = some (.lst us) ∧ Paired (T2 H2) us ((List.range i).filterMap f)) ⟨same_new hD, [], upd_same, .nil⟩ (fun i H2 _ p => hG H2 p.1) ?_ (fun H2 ⟨p1, us, p2, p3⟩ => q D H2 us hD p1 p2 p3)
  rintro i x H2 H' hi ⟨p1, us, p2, p3⟩ y
  refine hs i x H2 H' _ _ hi p1 y (fun t d H4 e s et => ?_) (fun H3 e s => ?_)
  · have e4 := s _ _ p2
    have ne : ∀ t o, H4 t = some o → (∀ l, o ≠ .lst l) → t ≠ D := fun t o h h' z => by rw [z, e4] at h; injection h with h; exact h' _ h.symm
    refine ⟨us, e4, sz_lt (by have := Paired.length p3; have := fm_len' f i; omega), same_mut (p1.trans s) hD, _, upd_same, ?_⟩
    rw [fm_succ', e]
    have up : ∀ v p, T2 H4 v p → T2 (upd H4 D (.lst (us ++ [.ref t]))) v p := fun v p h => by
      obtain ⟨t', h1, h2⟩ := h
      exact ⟨t', h1, by rw [upd_ne (ne t' _ h2 (fun _ z => by cases z))]; exact h2⟩
    exact paired_app (paired_imp2 (fun v p h => up v p (by obtain ⟨t', h1, h2⟩ := h; exact ⟨t', h1, s _ _ h2⟩)) p3) (.cons (up _ _ ⟨t, rfl, et⟩) .nil)
  · refine ⟨p1.trans s, us, s _ _ p2, ?_⟩
    rw [fm_succ', e, List.append_nil]
    exact paired_imp2 (fun v p ⟨t, h1, h2⟩ => ⟨t, h1, s _ _ h2⟩) p3
end
/-! ### methods with defaults -/
structure MethD (K : PySem.W.Frag) (C : Addr) (m qual : Str) (st : Stmt) (ps : List Str) (dvs : List V) : Prop where
  ex : ∃ (f : Addr) (fd : FuncData), FunD K m qual (defArgs st) (defBody st) (defScope st) dvs [] f fd ∧ Meth K C m f ∧ Binds K fd ps [] ∧ ∃ ds, Vals dvs ds ∧ Binds K fd ps ds
theorem binds_full {K : PySem.W.Frag} {fd : FuncData} {ps : List Str} {dvs : List V} {j : Nat} (h : ∃ ds, Vals (dvs.drop j) ds ∧ Binds K fd ps ds) (hj : dvs.length ≤ j := by decide) : Binds K fd ps [] := by
  obtain ⟨ds, r, b⟩ := h
  rw [List.drop_eq_nil_of_le hj] at r
  cases r
  exact b
structure MetXD (P : Program) (w : World) (K : PySem.W.Frag) (mg : Str → Option Value) (base : Heap) (k : Nat) (C : Addr) (m : Str) (sp : Sp) (dvs : List V) : Prop where
  ex : ∃ (f : Addr) (fd : FuncData) (ps : List Str) (ds : List Value), Cls K C ∧ Meth K C m f ∧ FnOk P w K mg base (L2.CX P w) k f fd ps sp ∧ Binds K fd ps [] ∧ Vals dvs ds ∧ Binds K fd ps ds
section
variable {P : Program} {w : World} {K : PySem.W.Frag} {mg : Str → Option Value} {base : Heap}
theorem MethD.metXD {C : Addr} {m qual : Str} {st : Stmt} {N ps : List Str} {k : Nat} {sp : Sp} {dvs : List V} (c : Cls K C) (d : MethD K C m qual st ps dvs) (S : FnScope N ps (defScope st)) (len : ∀ vs H Q E, sp vs H Q E → vs.length = ps.length)
    (hbody : ∀ (f : Addr) (cdv : Value) (A : Around) (outer : List Env) (s : Shared) (H : Hp) (vs : List V) (Q : VK) (E : XK), Room k (A.deeper (envOfC qual (defScope st) s.heap.objs.size f cdv)) → sp vs H Q E →
      ∃ t, PSs (cxOf (L2.CX P w) P w K mg base N qual (defScope st) f cdv A outer s H E) (defBody st) t ∧ t { nx := fun _ H' => Q .non H', rt := Q } (start N vs) H) : MetXD P w K mg base (k + 1) C m sp dvs := by
  obtain ⟨f, fd, F, hm, b, ds, r, b2⟩ := d.ex
  exact ⟨f, fd, ps, ds, c, hm, F.ok S len (hbody f), b, r, b2⟩
theorem MetXD.m {k : Nat} {C : Addr} {m : Str} {sp : Sp} {dvs : List V} (c : MetXD P w K mg base k C m sp dvs) : MetX P w K mg base k C m sp := by
  obtain ⟨f, fd, ps, ds, hc, hm, F, b, r, b2⟩ := c.ex
  exact ⟨f, fd, ps, hc, hm, F, b⟩
end
def tMethDE (C : Addr) (m : Str) (sp : Sp) (dvs : List V) (E : L2.St → XK) (ta : TE) (t : TA) : TE := fun σ H Q => ta σ H fun x H1 => ∃ a dx fs, x = .ref a ∧ H1 a = some (.ins C dx fs) ∧ fs.lookup m = none ∧ t σ H1 fun vs H2 => sp (x :: vs ++ dvs) H2 Q (E σ)
section
variable {X : Cx} {CX : CXT} {k j : Nat} {f C : Addr} {fd : FuncData} {ps : List Str} {x m : Str} {sp : Sp} {p pos apos : Pos} {e o : Expr} {es : List Expr} {ta : TE} {t : TA} {E : L2.St → XK} {dvs : List V}
theorem L_methD {σ : L2.St} {H : Hp} {Q : VK} (h : ta σ H fun x H1 => ∃ a dx fs, x = .ref a ∧ H1 a = some (.ins C dx fs) ∧ fs.lookup m = none ∧ t σ H1 fun vs H2 => sp (x :: vs ++ dvs) H2 Q (E σ)) : tMethDE C m sp dvs E ta t σ H Q := h
theorem pe_xMtD {pl : Sem Bool} (c : MetXD X.prog X.w X.K X.mg X.base k C m sp dvs) (hr : Room j X.A) (hk : k ≤ j) (hx : ∀ σ, PassesAt (L2.CX X.prog X.w) X σ (E σ)) (he : PE X o ta) (ha : PA X (e :: es) t)
    (hst : starEach (e :: es) X.env = (false, eval e X.env) :: starEach es X.env := by rfl) (hpl : (backTo pos (starEach es X.env)).any (·.1) = false := by rfl)
    (ht : eval (.Call (.Attribute o m apos) (e :: es) [] pos) X.env = (do
      let ov ← eval o X.env
      standAt apos.atName
      let (f, first) ← holding [ov] (getMethod ov m pl)
      callWith pos f first (backTo pos (starEach (e :: es) X.env)) (backToKw pos (keywordEach [] X.env))) := by rfl) :
    PE X (.Call (.Attribute o m apos) (e :: es) [] pos) (tMethDE C m sp dvs E ta t) := by
  obtain ⟨f, fd, ps, ds, hc, hm, F, _, hd, hb⟩ := c.ex
  refine ⟨fun pins s σ H Q I h => ?_⟩
  refine PySem.W.methodCall_KW (pl := pl) (thn (he.run pins s σ H _ I h) fun u s1 ⟨x, H1, I1, rx, a, dx, fs, ex, ea, l, q⟩ => ?_) ht
  subst ex
  obtain rfl : u = Value.ref a := rx
  refine getmeth_ok I1 ea hc hm l ?_
  refine PySem.W.callWith_K (first := [.ref a]) (h₀ := X.base) I.ok.mod.kin hm.kp (thn (ha.run pos pins s1 σ H1 _ I1 q) fun us s2 ⟨vs, H2, I2, r, q2⟩ => ⟨I2.kIn, ?_⟩) hst hpl
  exact run_fnSD (us := .ref a :: us) (vs := .ref a :: vs) F (hr.mono hk) hb hd (hx σ) I2 (.cons rfl r) q2
end
/-! ### dicts with ints as keys -/
def rSortDI : List V → Hp → VK → Prop := fun xs H Q => ∃ (a : Addr) (kvs : List (Key × V)) (ks : List Int), xs = [.ref a] ∧ Rd H a (.dK kvs) ∧ kvs.map (·.1) = ks.map Sum.inl ∧ ks.length < 64 ∧
    ∀ (ys : List Int) (p : Addr), ys.Perm ks → ys.Pairwise (· ≤ ·) → H p = none → Q (.ref p) (upd H p (.lst (ys.map V.int)))
theorem cr_sortDI {X : Cx} (hc : X.calm = true) : CallR X (.builtin "sorted") rSortDI := call_sortedDI hc
/-- the dict kvs is the function g: a key stands where g is not nought -/
def DGr (kvs : List (Key × V)) (g : Int → Int) : Prop := ∃ ks : List Int, kvs.map (·.1) = ks.map Sum.inl ∧ ks.Nodup ∧ (∀ f, f ∈ ks ↔ g f ≠ 0) ∧ ∀ f, g f ≠ 0 → valV kvs (Sum.inl f : Key) = some (.int (g f))
theorem DGr.none {kvs : List (Key × V)} {g : Int → Int} (h : DGr kvs g) {f : Int} (hf : g f = 0) : valV kvs (Sum.inl f : Key) = none := by
  obtain ⟨ks, h1, h2, h3, h4⟩ := h
  cases e : valV kvs (Sum.inl f : Key) with
  | none => rfl
  | some v =>
    obtain ⟨kv, hk, _⟩ := Option.map_eq_some_iff.mp e
    have hm := List.mem_of_find?_eq_some hk
    have he : kv.1 = (Sum.inl f : Key) := of_decide_eq_true (List.find?_some (p := fun kv : Key × V => decide (kv.1 = (Sum.inl f : Key))) hk)
    have : (Sum.inl f : Key) ∈ ks.map Sum.inl := by rw [← h1, ← he]; exact List.mem_map_of_mem hm
    obtain ⟨f', hf', e'⟩ := List.mem_map.mp this
    cases e'
    exact absurd hf ((h3 f).mp hf')
theorem DGr.getD {kvs : List (Key × V)} {g : Int → Int} (h : DGr kvs g) (f : Int) : (valV kvs (Sum.inl f : Key)).getD (.int 0) = .int (g f) := by
  by_cases hf : g f = 0
  · rw [h.none hf, hf]; rfl
  · obtain ⟨ks, h1, h2, h3, h4⟩ := h
    rw [h4 f hf]; rfl
theorem DGr.nil : DGr [] (fun _ => 0) := ⟨[], rfl, .nil, fun f => by simp, fun f h => absurd rfl h⟩
theorem DGr.one {k v : Int} (hv : v ≠ 0) : DGr [(Sum.inl k, .int v)] (fun f => if f = k then v else 0) := ⟨[k], rfl, by simp, fun f => by
  rw [List.mem_singleton]
  by_cases h : f = k
  · simp [h, hv]
  · simp [h], fun f h => by
  by_cases e : f = k
  · subst e; simp [valV]
  · simp [e] at h⟩
theorem DGr.put {kvs : List (Key × V)} {g : Int → Int} (h : DGr kvs g) (k v : Int) (hv : v ≠ 0) : DGr (putK kvs (Sum.inl k) (.int v)) (fun f => if f = k then v else g f) := by
  have hval : ∀ f, (if f = k then v else g f) ≠ 0 → valV (putK kvs (Sum.inl k : Key) (.int v)) (Sum.inl f) = some (.int (if f = k then v else g f)) := fun f hf => by
    rw [L2.valV_put]
    by_cases e : f = k
    · rw [if_pos e, if_pos (by rw [e])]
    · rw [if_neg e] at hf ⊢
      rw [if_neg (fun z => e (Sum.inl.inj z))]
      obtain ⟨ks, h1, h2, h3, h4⟩ := h
      exact h4 f hf
  by_cases hk : g k = 0
  · have hn := h.none hk
    obtain ⟨ks, h1, h2, h3, h4⟩ := h
    have e : putK kvs (Sum.inl k : Key) (.int v) = kvs ++ [(Sum.inl k, .int v)] := L2.putK_new (.int v) hn
    refine ⟨ks ++ [k], by rw [e, List.map_append, List.map_append, h1]; rfl, ?_, fun f => ?_, hval⟩
    · rw [List.nodup_append]
      refine ⟨h2, by simp, fun a ha b hb => ?_⟩
      rw [List.mem_singleton] at hb
      rintro rfl
      subst hb
      exact (h3 _).mp ha hk
    · rw [List.mem_append, List.mem_singleton, h3]
      by_cases e : f = k
      · simp [e, hv]
      · simp [e]
  · obtain ⟨ks, h1, h2, h3, h4⟩ := h
    have hany : (kvs.any fun kv => decide (kv.1 = (Sum.inl k : Key))) = true := by
      rw [List.any_eq_true]
      have : (Sum.inl k : Key) ∈ kvs.map (·.1) := by rw [h1]; exact List.mem_map_of_mem ((h3 k).mpr hk)
      obtain ⟨kv, hm, e⟩ := List.mem_map.mp this
      exact ⟨kv, hm, decide_eq_true e⟩
    refine ⟨ks, ?_, h2, fun f => ?_, hval⟩
    · unfold putK
      rw [if_pos hany, List.map_map, ← h1]
      refine List.map_congr_left fun kv _ => ?_
      show (if kv.1 = Sum.inl k then (kv.1, V.int v) else kv).1 = kv.1
      split <;> rfl
    · rw [h3]
      by_cases e : f = k
      · simp [e, hv, hk]
      · simp [e]
theorem DGr.congr {kvs : List (Key × V)} {g g' : Int → Int} (h : DGr kvs g) (e : ∀ f, g f = g' f) : DGr kvs g' := by
  rw [show g' = g from funext fun f => (e f).symm]; exact h
/-- a rising list of whole numbers from 0 to n - 1 is known by its members -/
def upN (n : Nat) : List Int := (List.range n).map fun i : Nat => (i : Int)
def keysOf (n : Nat) (h : Int → Int) : List Int := (upN n).filter fun f => decide (h f ≠ 0)
theorem upN_mem {n : Nat} {f : Int} : f ∈ upN n ↔ 0 ≤ f ∧ f < n := by
  unfold upN
  rw [List.mem_map]
  constructor
  · rintro ⟨i, hi, rfl⟩
    have := List.mem_range.mp hi
    omega
  · rintro ⟨h0, h1⟩
    exact ⟨f.toNat, List.mem_range.mpr (by omega), by omega⟩
theorem upN_lt (n : Nat) : (upN n).Pairwise (· < ·) := by
  unfold upN
  rw [List.pairwise_map]
  exact List.pairwise_lt_range.imp fun h => by omega
theorem lt_perm : ∀ {l l' : List Int}, l.Pairwise (· < ·) → l'.Pairwise (· < ·) → (∀ x, x ∈ l ↔ x ∈ l') → l = l'
  | [], [], _, _, _ => rfl
  | [], b :: l', _, _, h => absurd ((h b).mpr (List.mem_cons_self ..)) (by simp)
  | a :: l, [], _, _, h => absurd ((h a).mp (List.mem_cons_self ..)) (by simp)
  | a :: l, b :: l', h1, h2, h => by
    rw [List.pairwise_cons] at h1 h2
    have hab : a = b := by
      have ha := (h a).mp (List.mem_cons_self ..)
      have hb := (h b).mpr (List.mem_cons_self ..)
      rcases List.mem_cons.mp ha with e | e
      · exact e
      · rcases List.mem_cons.mp hb with e' | e'
        · exact e'.symm
        · have := h1.1 b e'
          have := h2.1 a e
          omega
    subst hab
    rw [lt_perm h1.2 h2.2 fun x => ?_]
    constructor
    · intro hx
      have := h1.1 x hx
      rcases List.mem_cons.mp ((h x).mp (List.mem_cons_of_mem _ hx)) with e | e
      · omega
      · exact e
    · intro hx
      have := h2.1 x hx
      rcases List.mem_cons.mp ((h x).mpr (List.mem_cons_of_mem _ hx)) with e | e
      · omega
      · exact e
theorem L_sortDI {H : Hp} {Q : VK} {a : Addr} {kvs : List (Key × V)} {g : Int → Int} {n : Nat} (hn : n < 64) (h : H a = some (.dK kvs)) (hg : DGr kvs g) (hb : ∀ f, g f ≠ 0 → 0 ≤ f ∧ f < n) (q : ∀ p, H p = none → Q (.ref p) (upd H p (.lst ((keysOf n g).map V.int)))) : rSortDI [.ref a] H Q := by
  obtain ⟨ks, h1, h2, h3, h4⟩ := hg
  have key : ∀ ys : List Int, ys.Perm ks → ys.Pairwise (· ≤ ·) → ys = keysOf n g := fun ys hp hs => by
    refine lt_perm ?_ ((upN_lt n).filter _) fun x => ?_
    · have nd := hp.nodup_iff.mpr h2
      exact (hs.and nd).imp fun ⟨h1, h2⟩ => by omega
    · rw [hp.mem_iff, h3]
      unfold keysOf
      rw [List.mem_filter, upN_mem, decide_eq_true_eq]
      exact ⟨fun z => ⟨hb x z, z⟩, fun z => z.2⟩
  refine ⟨a, kvs, ks, rfl, .inl h, h1, ?_, fun ys p hp hs hf => ?_⟩
  · have : ks.Perm (keysOf n g) := (List.perm_ext_iff_of_nodup h2 ((upN_lt n).imp (fun h => by omega) |>.filter _)).mpr fun x => by
      rw [h3]
      rw [List.mem_filter, upN_mem, decide_eq_true_eq]
      exact ⟨fun z => ⟨hb x z, z⟩, fun z => z.2⟩
    rw [this.length_eq]
    refine Nat.lt_of_le_of_lt (List.length_filter_le ..) ?_
    unfold upN
    rw [List.length_map, List.length_range]
    exact hn
  · rw [key ys hp hs]
    exact q p hf
theorem L_dget2 {σ : L2.St} {H : Hp} {Q : VK} {td ty tx : TE} (h : td σ H fun x H1 => ∃ a, x = .ref a ∧ IsD H1 a ∧ ty σ H1 fun y H2 => tx σ H2 fun z H3 => ∃ o, DGet H3 a y o ∧ Q (o.getD z) H3) : tDGet2 td ty tx σ H Q := h
theorem isD_at' {H : Hp} {a : Addr} {kvs : List (Key × V)} (h : H a = some (.dK kvs)) : IsD H a := .inl ⟨kvs, .inl h⟩
/-! ### a chain of three comparisons -/
def tChain3 (r r' r'' : R2) (ta tb tc td : TE) : TE := fun σ H Q => ta σ H fun x H1 => tb σ H1 fun y H2 => r x y H2 fun z H3 => ∃ k, z = .bl k ∧
  (if k = true then tc σ H3 fun w' H4 => r' y w' H4 fun z2 H5 => ∃ k2, z2 = .bl k2 ∧ (if k2 = true then td σ H5 fun u' H6 => r'' w' u' H6 Q else Q (.bl false) H5) else Q (.bl false) H3)
section
variable {X : Cx} {a b c d : Expr} {ta tb tc td : TE} {pos : Pos}
theorem pe_chain3 {op op' op'' : CmpOp} {r r' r'' : R2} (ho : OpR X (compareOp op) r) (ho' : OpR X (compareOp op') r') (ho'' : OpR X (compareOp op'') r'') (ha : PE X a ta) (hb : PE X b tb) (hc : PE X c tc) (hd : PE X d td)
    (hm : lastMarks [op, op', op''] [b, c, d] = false := by with_unfolding_all rfl) : PE X (.Compare a [op, op', op''] [b, c, d] pos) (tChain3 r r' r'' ta tb tc td) := by
  refine ⟨fun pins s σ H Q I h => ?_⟩
  refine Compare_chain (thn (ha.run pins s σ H _ I h) fun v s1 ⟨x, H1, I1, r1, q1⟩ => chain_link (thn (hb.run pins s1 σ H1 _ I1 q1) fun u s2 ⟨y, H2, I2, r2, q2⟩ =>
    thn (ho pins s2 σ H2 x y v u _ I2 r1 r2 q2) fun d s3 ⟨z, H3, I3, r3, k, e, q3⟩ => ?_)) hm
  subst e
  cases r3
  refine wpAny_truthy_bool ?_
  cases k with
  | false => exact ite_ff ⟨.bl false, H3, I3, rfl, q3⟩
  | true =>
    refine ite_tt (chain_link (thn (hc.run pins s3 σ H3 _ I3 q3) fun w' s4 ⟨z', H4, I4, r4, q4⟩ => thn (ho' pins s4 σ H4 y z' u w' _ I4 r2 r4 q4) fun d2 s5 ⟨z2, H5, I5, r5, k2, e2, q5⟩ => ?_))
    subst e2
    cases r5
    refine wpAny_truthy_bool ?_
    cases k2 with
    | false => exact ite_ff ⟨.bl false, H5, I5, rfl, q5⟩
    | true => exact ite_tt (chain_last (thn (hd.run pins s5 σ H5 _ I5 q5) fun u' s6 ⟨z3, H6, I6, r6, q6⟩ => ho'' pins s6 σ H6 z' z3 w' u' Q I6 r4 r6 q6))
theorem L_chain3 {r r' r'' : R2} {σ : L2.St} {H : Hp} {Q : VK} (h : ta σ H fun x H1 => tb σ H1 fun y H2 => r x y H2 fun z H3 => ∃ k, z = .bl k ∧
  (if k = true then tc σ H3 fun w' H4 => r' y w' H4 fun z2 H5 => ∃ k2, z2 = .bl k2 ∧ (if k2 = true then td σ H5 fun u' H6 => r'' w' u' H6 Q else Q (.bl false) H5) else Q (.bl false) H3)) : tChain3 r r' r'' ta tb tc td σ H Q := h
end
/-- the chain's test, as a value's -/
theorem L_catA {K : PySem.W.Frag} {H : Hp} {a b : Addr} {xs ys : List V} {Q : VK} (h1 : SqT K H a xs) (h2 : SqT K H b ys) (n1 : xs ≠ []) (n2 : ys ≠ []) (hl : xs.length + ys.length ≤ sizeLine) (q : ∀ p, H p = none → Q (.ref p) (upd H p (.tup (xs ++ ys)))) : aAdd K (.ref a) (.ref b) H Q :=
  .inr (.inr (.inr ⟨a, b, xs, ys, rfl, rfl, h1, h2, hl, fun e => absurd e n1, fun _ e => absurd e n2, fun _ _ => q⟩))
/-! ### several except clauses, some of them with a name -/
abbrev HdA := Value × Option Nat × (Addr → Value → Option Addr → TS)
def wManyA (K : PySem.W.Frag) (Wout : WX) (D : Ends) : List HdA → WX
  | [] => Wout
  | (c, none, ts) :: r => fun cls d σ H => ∃ b, PySem.W.exmOne K cls c = some b ∧ (b = true → ∀ a, H a = none → ts a cls d D σ H) ∧ (b = false → wManyA K Wout D r cls d σ H)
  | (c, some i, ts) :: r => fun cls d σ H => ∃ b, PySem.W.exmOne K cls c = some b ∧
    (b = true → ∀ a, H a = none → ts a cls d ⟨fun σ' H' => H' a = none → D.nx (σ'.set i none) (upd H' a (ExI cls d a)), D.rt, fun σ' H' => D.bk (σ'.set i none) H', fun σ' H' => D.ct (σ'.set i none) H'⟩ (σ.set i (some (.ref a))) H) ∧
    (b = false → wManyA K Wout D r cls d σ H)
inductive HdsA (X : Cx) : List ExceptHandler → List HdA → Prop
  | nil : HdsA X [] []
  | cons {x : Str} {c : Value} {ts : Addr → Value → Option Addr → TS} {b₀ : Stmt} {suite : List Stmt} {np pos' : Pos} {hds : List ExceptHandler} {l : List HdA} (hc : Names X x c)
      (hsu : ∀ (a : Addr) (oe : Obj) (cls : Value) (d : Option Addr) (pn : List (Addr × Obj)), Zc cls d oe → (∃ vs, oe.data = .fields vs) → PSs (X.suite a ((a, oe) :: pn)) (b₀ :: suite) (ts a cls d)) (r : HdsA X hds l) :
      HdsA X (.ExceptHandler (some (.Name x np)) none (b₀ :: suite) pos' :: hds) ((c, none, ts) :: l)
  | consA {x n : Str} {c : Value} {i : Nat} {ts : Addr → Value → Option Addr → TS} {b₀ : Stmt} {suite : List Stmt} {np pos' : Pos} {hds : List ExceptHandler} {l : List HdA} (hi : X.N[i]? = some n) (hln : X.env.kindOf n = some .local) (hc : Names X x c)
      (hsu : ∀ (a : Addr) (oe : Obj) (cls : Value) (d : Option Addr) (pn : List (Addr × Obj)), Zc cls d oe → (∃ vs, oe.data = .fields vs) → PSs (X.suite a ((a, oe) :: pn)) (b₀ :: suite) (ts a cls d)) (r : HdsA X hds l) :
      HdsA X (.ExceptHandler (some (.Name x np)) (some n) (b₀ :: suite) pos' :: hds) ((c, some i, ts) :: l)
section
variable {X : Cx} {body : List Stmt} {h₀ : ExceptHandler} {hds : List ExceptHandler} {l : List HdA} {pos : Pos} {tb : WX → TS} {Wout : WX}
theorem ps_try_manyA (hs : X.stack = X.env :: X.outer) (hf : X.env.frame = some X.env.locals) (hN : X.N.Nodup) (hex : X.ex = []) (tk : Takes X Wout)
    (hb : ∀ (W : WX) (pn : List (Addr × Obj)) (xe : Value → Shared → Prop), Takes (X.tr pn xe) W → PassesOwn (model X.prog X.w) X.A X.env xe → PSs (X.tr pn xe) body (tb W))
    (hh : HdsA X (h₀ :: hds) l) : PS X (.Try body (h₀ :: hds) [] [] pos) (fun D σ H => tb (wManyA X.K Wout D l) D σ H) := by
  constructor
  intro pins s0 σ0 H0 D I0 start
  have okX := I0.ok
  have frames : X.A.frames = some (X.env :: X.outer) := by
    rw [okX.frames, hs]
  apply wpAny_Try_except
  let look : Value → Shared → Prop := fun e t1 => wpAny (model X.prog X.w) X.A (noteFrame e X.env) (fun _ t2 => wpAny (model X.prog X.w) X.A (setFlight e none)
    (fun _ t3 => wpAny (model X.prog X.w) X.A (handleBy e X.env (h₀ :: hds)) (SP X pins D) X.xe t3) X.xe t2) X.xe t1
  have caught : Takes (X.tr (X.pn ++ pins) look) (wManyA X.K Wout D l) := by
    intro u s' air
    obtain ⟨a, B, sI, pins', σ', H', cls, d, rfl, K', nb, up, sky, na, os, ag, w⟩ := air
    have K0 : Inv X pins σ' H' sI := K'.ofTry okX
    have sky1 : Sky B (X.env :: X.outer) a (Zc cls d) X.env.locals s'.heap := hs ▸ sky
    show wpAny (model X.prog X.w) X.A (noteFrame (.ref a) X.env) _ _ _
    apply Sky.land Zc.steady frames hf sky1
    intro h3 fl3 up3
    have J3 : Inv X pins σ' H' { s' with heap := h3 } := K0.landed nb fl3.1 (up.trans up3) os ag
    obtain ⟨oe3, vs3, at3, z3, data3⟩ := fl3.there
    have offFrames : a ∉ frs (X.env :: X.outer) := fun hm => by
      obtain ⟨_, o', there', hnf⟩ := fl3.2.2.1.mem hm
      rw [at3] at there'
      cases there'
      exact hnf _ data3
    have nL : a ≠ X.env.locals := fun e => offFrames (List.mem_filterMap.mpr ⟨X.env, List.mem_cons_self, by rw [hf, e]⟩)
    have nF : a ∉ X.fs := fun hm => by
      obtain ⟨e, he, q⟩ := List.mem_filterMap.mp hm
      exact offFrames (List.mem_filterMap.mpr ⟨e, List.mem_cons_of_mem _ he, q⟩)
    -- a is new: it stood neither at the try's entry nor at the def's
    have newB : B.get? a = none := fl3.2.1
    have newI : sI.heap.get? a = none := by
      cases q : sI.heap.get? a with
      | none => rfl
      | some o =>
        have := nb a o q (by rw [hs]; exact offFrames)
        rw [newB] at this
        cases this
    have new0 : X.s_0.heap.get? a = none := by
      cases q : X.s_0.heap.get? a with
      | none => rfl
      | some o =>
        obtain ⟨o', q'⟩ := K0.base.there a o q (by rw [hex]; exact List.not_mem_nil)
        rw [newI] at q'
        cases q'
    have apart : ∀ p ∈ X.pn ++ pins, p.1 ≠ a := fun p hp e => by
      have := (K0.pin p hp).1
      rw [e, newI] at this
      cases this
    have S3 := J3.suite at3 data3 na nL nF
    have go : ∀ {hds' : List ExceptHandler} {l' : List HdA}, HdsA X hds' l' → wManyA X.K Wout D l' cls d σ' H' →
        wpAny (model X.prog X.w) X.A (handleBy (.ref a) X.env hds') (SP X pins D) X.xe { s' with heap := h3 } := by
      intro hds' l' hk
      induction hk with
      | nil =>
        intro no
        apply wpAny_handleBy_nil
        obtain ⟨_, _, _, oe, vs, T, oT, ts', he, hz, hd, h1, hr⟩ := id fl3
        unfold PySem.passOn
        refine wpAny_bind (wpAny_field he hd h1 ?_)
        rw [if_neg (show ¬ ((Value.ref T == Value.none) = true) from by simp)]
        have on : wpAny (model X.prog X.w) X.A (setFlight (.ref a) X.env.frame) (fun _ s4 => wpAny (model X.prog X.w) X.A (throw (.ref a) : Sem Flow) (SP X pins D) X.xe s4) X.xe { s' with heap := h3 } := by
          rw [hf]
          apply HandSPX.setFlight_upZ fl3
          intro h4 held4 up4
          apply wpAny_throw
          apply tk
          exact ⟨a, B, sI, pins, σ', H', cls, d, rfl, K0, nb, (up.trans up3).trans up4, .inr (.inr (by rw [hs]; exact held4)), na, os, ag, no⟩
        first
          | exact wpAny_bind (wpAny_pure (wpAny_bind on))
          | exact wpAny_bind on

      | @cons x c ts b₀ suite np pos' hds2 l2 hc hsu r ih =>
        intro w
        obtain ⟨b, exm, yes, no⟩ := w
        refine wpAny_handleBy_cons (codeAny_handlers_test ?_) (by intro q; cases q)
        have tyA : PySem.W.Looks (model X.prog X.w) h3 (typeOf (.ref a)) cls := fun A Q E t k q => wpAny_typeOf_ref (k _ _ at3) (by rw [z3.1]; exact q)
        have matched := PySem.W.exm_one (M := model X.prog X.w) (J3.kIn) tyA exm
        have named : ∀ {Q : Value → Shared → Prop} {E : Value → Shared → Prop}, Q c { s' with heap := h3 } → wpAny (model X.prog X.w) (X.A.mark (some (.ref a))) (eval (.Name x np) X.env) Q E { s' with heap := h3 } := by
          intro Q E q
          obtain ⟨hg, hdbg, hm⟩ := hc
          rcases hm with hm | ⟨hm, hv, hnn⟩
          · exact ld_glob (X := X.suite a ((a, oe3) :: (X.pn ++ pins))) S3 hg hm q hdbg
          · exact ld_blt (X := X.suite a ((a, oe3) :: (X.pn ++ pins))) S3 hg hm hv q hnn hdbg
        apply named
        apply matched.here
        cases b with
        | true =>
          refine codeAny_handlers_suite ?_
          refine HandSPX.lands_againZ fl3 fun h4 fl4 up4 => ?_
          have J4 : Inv X pins σ' H' { s' with heap := h4 } := K0.landed nb fl4.1 ((up.trans up3).trans up4) os ag
          obtain ⟨oe4, vs4, he4, hz4, hd4⟩ := fl4.there
          have S4 := J4.suite he4 hd4 na nL nF
          refine wpAny_mono ((hsu a oe4 cls d (X.pn ++ pins) hz4 ⟨_, hd4⟩).run [] _ _ H' _ S4 (yes rfl a na)) (fun f s6 hsp => ?_) (fun _ _ z => False.elim z)
          cases f with
          | next =>
            obtain ⟨σ6, H6, S6, q6⟩ := hsp
            exact ⟨_, _, S6.unsuite okX, q6⟩
          | brk =>
            obtain ⟨σ6, H6, S6, q6⟩ := hsp
            exact ⟨_, _, S6.unsuite okX, q6⟩
          | cont =>
            obtain ⟨σ6, H6, S6, q6⟩ := hsp
            exact ⟨_, _, S6.unsuite okX, q6⟩
          | ret u =>
            obtain ⟨v6, σ6, H6, S6, r6, q6⟩ := hsp
            exact ⟨_, _, _, S6.unsuite okX, r6, q6⟩
        | false =>
          show wpAny _ X.A (handleBy (.ref a) X.env hds2) _ _ _
          exact ih (no rfl)
      | @consA x n c i ts b₀ suite np pos' hds2 l2 hi hln hc hsu r ih =>
        intro w
        obtain ⟨b, exm, yes, no⟩ := w
        refine wpAny_handleBy_cons (codeAny_handlers_test ?_) (by intro q; cases q)
        have tyA : PySem.W.Looks (model X.prog X.w) h3 (typeOf (.ref a)) cls := fun A Q E t k q => wpAny_typeOf_ref (k _ _ at3) (by rw [z3.1]; exact q)
        have matched := PySem.W.exm_one (M := model X.prog X.w) (J3.kIn) tyA exm
        have named : ∀ {Q : Value → Shared → Prop} {E : Value → Shared → Prop}, Q c { s' with heap := h3 } → wpAny (model X.prog X.w) (X.A.mark (some (.ref a))) (eval (.Name x np) X.env) Q E { s' with heap := h3 } := by
          intro Q E q
          obtain ⟨hg, hdbg, hm⟩ := hc
          rcases hm with hm | ⟨hm, hv, hnn⟩
          · exact ld_glob (X := X.suite a ((a, oe3) :: (X.pn ++ pins))) S3 hg hm q hdbg
          · exact ld_blt (X := X.suite a ((a, oe3) :: (X.pn ++ pins))) S3 hg hm hv q hnn hdbg
        apply named
        apply matched.here
        cases b with
        | true =>
          apply codeAny_handlers_suite_as
          apply HandSPX.lands_againZ fl3
          intro h4 fl4 up4
          have J4 : Inv X pins σ' H' { s' with heap := h4 } := K0.landed nb fl4.1 ((up.trans up3).trans up4) os ag
          obtain ⟨oe4, vs4, at4, z4, data4⟩ := fl4.there
          have S4 := J4.suite at4 data4 na nL nF
          refine store_ok (X := X.suite a ((a, oe4) :: (X.pn ++ pins))) (v := .ref a) S4 hN hi (.inl hln) rfl (fun s5 S5 => ?_) (.inr hln)
          refine wpAny_mono ((hsu a oe4 cls d (X.pn ++ pins) z4 ⟨_, data4⟩).run [] s5 _ H' _ S5 (yes rfl a na)) (fun f s6 hsp => ?_) (fun _ _ z => z.elim)
          -- out of the suite, the exception still pinned
          have out : ∀ {σ6 : L2.St} {H6 : Hp} {Q : Shared → Prop}, Inv (X.suite a ((a, oe4) :: (X.pn ++ pins))) [] σ6 H6 s6 → (∀ s7, Inv X pins (σ6.set i none) H6 s7 → H6 a = none → s7.heap.get? a = some oe4 → Q s7) →
              wpAny (model X.prog X.w) X.A (do bindName X.env n .none; unbindBehindTheSuite X.env n pos') (fun _ s7 => Q s7) X.xe s6 := fun {σ6 H6 Q} S6 hq => by
            have P6 : Inv X ((a, oe4) :: pins) σ6 H6 s6 := { S6.unsuite okX with
              pin := fun p hp => S6.pin p (by
                rcases List.mem_append.mp hp with hp | hp
                · exact List.mem_append_left _ (List.mem_cons_of_mem _ (List.mem_append_left _ hp))
                · rcases List.mem_cons.mp hp with e | hp
                  · rw [e]; exact List.mem_append_left _ List.mem_cons_self
                  · exact List.mem_append_left _ (List.mem_cons_of_mem _ (List.mem_append_right _ hp))) }
            refine gone_ok P6 hN hi hln fun s7 P7 => ?_
            have pinned := P7.pin (a, oe4) (List.mem_append_right _ List.mem_cons_self)
            refine hq s7 { P7 with pin := fun p hp => P7.pin p ?_ } pinned.2.1 pinned.1
            rcases List.mem_append.mp hp with hp | hp
            · exact List.mem_append_left _ hp
            · exact List.mem_append_right _ (List.mem_cons_of_mem _ hp)
          match f, hsp with
          | .next, ⟨σ6, H6, S6, q6⟩ => exact out S6 fun s7 J7 n6 a6 => ⟨_, _, track J7 n6 a6 z4 data4 new0 nL apart, q6 n6⟩
          | .brk, ⟨σ6, H6, S6, q6⟩ => exact out S6 fun s7 J7 _ _ => ⟨_, _, J7, q6⟩
          | .cont, ⟨σ6, H6, S6, q6⟩ => exact out S6 fun s7 J7 _ _ => ⟨_, _, J7, q6⟩
          | .ret u, ⟨v6, σ6, H6, S6, r6, q6⟩ => exact out S6 fun s7 J7 _ _ => ⟨_, _, _, J7, r6, q6⟩
        | false =>
          show wpAny _ X.A (handleBy (.ref a) X.env hds2) _ _ _
          exact ih (no rfl)
    exact go hh w
  refine wpAny_mono ((hb (wManyA X.K Wout D l) (X.pn ++ pins) look caught PassesOwn.looking).run [] s0 σ0 H0 D (I0.toTry _) start) (fun f s1 hsp => ?_) (fun e s1 he => he)
  match f, hsp with
  | .next, ⟨σ1, H1, J1, q⟩ => exact wpAny_execs_nil ⟨σ1, H1, J1.ofTry okX, q⟩
  | .brk, ⟨σ1, H1, J1, q⟩ => exact ⟨σ1, H1, J1.ofTry okX, q⟩
  | .cont, ⟨σ1, H1, J1, q⟩ => exact ⟨σ1, H1, J1.ofTry okX, q⟩
  | .ret u, ⟨v, σ1, H1, J1, r, q⟩ => exact ⟨v, σ1, H1, J1.ofTry okX, r, q⟩
end
theorem L_many {K : PySem.W.Frag} {H : Hp} {c : Value} {ts : Addr → Value → Option Addr → TS} {r : List HdA} {Wout : WX} {D : Ends} {σ : L2.St} {cls : Value} {d : Option Addr} (h : PySem.W.exmOne K cls c = some true)
    (q : ∀ a, H a = none → ts a cls d D σ H) : wManyA K Wout D ((c, none, ts) :: r) cls d σ H := ⟨true, h, fun _ => q, fun z => nomatch z⟩
theorem L_manyA {K : PySem.W.Frag} {H : Hp} {c : Value} {i : Nat} {ts : Addr → Value → Option Addr → TS} {r : List HdA} {Wout : WX} {D : Ends} {σ : L2.St} {cls : Value} {d : Option Addr} (h : PySem.W.exmOne K cls c = some true)
    (q : ∀ a, H a = none → ts a cls d ⟨fun σ' H' => H' a = none → D.nx (σ'.set i none) (upd H' a (ExI cls d a)), D.rt, fun σ' H' => D.bk (σ'.set i none) H', fun σ' H' => D.ct (σ'.set i none) H'⟩ (σ.set i (some (.ref a))) H) : wManyA K Wout D ((c, some i, ts) :: r) cls d σ H := ⟨true, h, fun _ => q, fun z => nomatch z⟩
theorem L_manyN {K : PySem.W.Frag} {H : Hp} {c : Value} {ts : Addr → Value → Option Addr → TS} {r : List HdA} {Wout : WX} {D : Ends} {σ : L2.St} {cls : Value} {d : Option Addr} (h : PySem.W.exmOne K cls c = some false)
    (q : wManyA K Wout D r cls d σ H) : wManyA K Wout D ((c, none, ts) :: r) cls d σ H := ⟨false, h, (fun z => nomatch z), fun _ => q⟩
/-! ### a != b of two lists of the same objects; xs[i] op= e; any of ints -/
def rNeRefs (K : PySem.W.Frag) : R2 := fun x y H Q => ∃ (a b : Addr) (os : List Addr), x = .ref a ∧ y = .ref b ∧ SqL K H a (os.map V.ref) ∧ SqL K H b (os.map V.ref) ∧ Q (.bl false) H
theorem vals_refs : ∀ {os : List Addr} {us : List Value}, Vals (os.map V.ref) us → us = os.map Value.ref
  | [], _, r => by cases r; rfl
  | o :: os, _, r => by
    cases r with
    | cons h t =>
      rw [show _ = Value.ref o from h, vals_refs t]
      rfl
theorem op_neRefs {X : Cx} (hu : X.A.units < cLine) : OpR X (compareOp .NotEq) (rNeRefs X.K) := by
  intro pins s σ H x y v u Q I rx ry h
  obtain ⟨a, b, os, rfl, rfl, ha, hb, q⟩ := h
  cases (show v = Value.ref a from rx)
  cases (show u = Value.ref b from ry)
  obtain ⟨us, r1, p1, _⟩ := I.list ha
  obtain ⟨ws, r2, p2, _⟩ := I.list hb
  obtain rfl := vals_refs r1
  obtain rfl := vals_refs r2
  refine SeqAt.RcNeAt.lists (e := fun _ => true) p1.isList p2.isList rfl hu (fun j h1 h2 => SeqAt.EqAt.same _) X.prog X.w _ _ ?_
  exact ⟨.bl false, H, I, by
    show Value.bool _ = Value.bool _
    rw [show ((List.range _).all fun _ => true) = true from List.all_eq_true.mpr fun _ _ => rfl]
    rfl, q⟩
def rGetL (K : PySem.W.Frag) : V → V → Hp → VK → Prop := fun o i H Q => ∃ (p : Addr) (xs : List V) (k : Int) (v : V), o = .ref p ∧ i = .int k ∧ SqL K H p xs ∧ 0 ≤ k ∧ xs[k.toNat]? = some v ∧ Q v H
theorem pget_list {X : Cx} : PGet X (rGetL X.K) := by
  intro pins s σ H o i ov iv Q I ro ri h
  obtain ⟨p, xs, k, v, rfl, rfl, hL, h0, hv, q⟩ := h
  cases (show ov = Value.ref p from ro)
  obtain ⟨t, rfl⟩ := ri
  obtain ⟨its, r, pl, hz⟩ := I.list hL
  obtain ⟨u, eu, ru⟩ := r.get hv
  have hl := r.length
  have hn := line63
  have lt := (List.getElem?_eq_some_iff.mp hv).1
  exact wpAny_getItem_list pl.isList h0 (by omega) (by simpa using eu) ⟨v, H, I, ru, q⟩
theorem L_augS {σ : L2.St} {H : Hp} {to ti te : TE} {tget : V → V → Hp → VK → Prop} {tip : TIp} {tset : TSet} {N B C : L2.St → Hp → Prop} {R : VK} (h : to σ H fun o H1 => ti σ H1 fun i H2 => tget o i H2 fun x H3 => te σ H3 fun y H4 => tip x y H4 fun z H5 => tset o i z H5 fun H6 => N σ H6) : tAugS to ti te tget tip tset ⟨N, R, B, C⟩ σ H := h
theorem L_getL {K : PySem.W.Frag} {H : Hp} {Q : VK} {p : Addr} {xs : List V} {k : Int} {v : V} (h : SqL K H p xs) (h0 : 0 ≤ k) (hv : xs[k.toNat]? = some v) (q : Q v H) : rGetL K (.ref p) (.int k) H Q := ⟨p, xs, k, v, rfl, rfl, h, h0, hv, q⟩
theorem truth_of_ints {prog : Program} {w : World} {A : Around} {ns : List Int} {its : List Value} (e : IntsAre its ns) :
    TruthOf prog w A (fun i v => its.toArray[i]? = some v) (fun i => ns.getD i 0 != 0) := fun i v s Q E hv hq => by
  have hv' : its[i]? = some v := by simpa using hv
  obtain ⟨tk, e2⟩ := PyProof.Rows.IntsAre.int_at e i v hv'
  rw [e2]
  exact truthy_int hq
theorem any_ints : ∀ ns : List Int, (List.range ns.length).any (fun i => ns.getD i 0 != 0) = ns.any (· != 0)
  | [] => rfl
  | n :: ns => by
    have ih := any_ints ns
    rw [List.length_cons, List.range_succ_eq_map, List.any_cons, List.any_map, List.any_cons, ← ih]
    rfl
def rAnyI (K : PySem.W.Frag) : List V → Hp → VK → Prop := fun vs H Q => ∃ (a : Addr) (ns : List Int), vs = [.ref a] ∧ SqL K H a (ns.map V.int) ∧ Q (.bl (ns.any (· != 0))) H
theorem cr_anyI {X : Cx} (calm : X.calm = true) : CallR X (.builtin "any") (rAnyI X.K) := by
  intro pins s σ H vs us Q I r h
  obtain ⟨a, ns, rfl, hL, q⟩ := h
  obtain ⟨its, rv, pl, _⟩ := I.list hL
  have few := rv.length
  rw [Vals.ref1 r]
  apply call_any_walk
  apply iter_any pl.isList
  intro s2 e2 st apart
  subst e2
  refine ⟨_, _, _, _, _, _, _, rfl, Walks.list (A := X.A.in1) (I.ok.hd calm) _ a apart its.toArray, st, truth_of_ints (intsAre_of rv), fun g tk k => ?_⟩
  refine ⟨.bl _, H, I.kept fun b o eo => k b o ?_ (Heap.get?_push_of_some _ eo), ?_, q⟩
  · intro hm
    rw [List.mem_singleton] at hm
    exact absurd (hm ▸ Heap.lt_size eo) (Nat.lt_irrefl _)
  · change Value.bool _ = Value.bool _
    rw [← any_ints, List.size_toArray, ← few, List.length_map]
/-! ### for k in d -/
theorem L_lock {t : TS} {N B C : L2.St → Hp → Prop} {R : VK} {σ : L2.St} {H : Hp} (h : ∃ d u, H d = some u ∧ Mut (some u) ∧ ∀ od, t ⟨fun σ' H' => H' d = some (.frz od u) ∧ N σ' (upd H' d u), fun v H' => H' d = some (.frz od u) ∧ R v (upd H' d u), fun σ' H' => H' d = some (.frz od u) ∧ B σ' (upd H' d u), fun σ' H' => H' d = some (.frz od u) ∧ C σ' (upd H' d u)⟩ σ (upd H d (.frz od u))) : tLock t ⟨N, R, B, C⟩ σ H := h
theorem L_iKeys {td : TE} {σ : L2.St} {H : Hp} {R : It → Hp → Prop} (h : td σ H fun x H1 => ∃ d o, x = .ref d ∧ ((∃ kvs, H1 d = some (.frz o (.dK kvs)) ∧ R (Itk d o kvs) H1) ∨ ∃ kvs, H1 d = some (.frz o (.dT kvs)) ∧ R (Itkt d o kvs) H1)) : iKeys td σ H R := h
theorem L_rk {H : Hp} {d : Addr} {o : Obj} {kvs : List (Key × V)} {R : Addr → Obj → List (Key × V) → Prop} {R2 : Addr → Obj → Prop} (h : H d = some (.frz o (.dK kvs))) (q : R d o kvs) : ∃ d' o', V.ref d = .ref d' ∧ ((∃ kvs, H d' = some (.frz o' (.dK kvs)) ∧ R d' o' kvs) ∨ R2 d' o') := ⟨d, o, rfl, .inl ⟨kvs, h, q⟩⟩
theorem same_lock {H H' : Hp} {d : Addr} {u : HO} {od : Obj} (h : H d = some u) (s : Same (upd H d (.frz od u)) H') : Same H (upd H' d u) := fun b o e => by
  by_cases n : b = d
  · rw [n, h] at e
    cases e
    rw [n]
    exact upd_same
  · rw [upd_ne n]
    exact s _ _ (by rw [upd_ne n]; exact e)
end Kt
set_option Elab.async false
set_option linter.all false
set_option maxRecDepth 100000
set_option maxHeartbeats 4000000
namespace My
open PySem PySem.Spec PyProof.Rows L2 Kt
/-! one step of a reading; a look at the heap -/
local macro_rules | `(tactic| walk_at "hp") => `(tactic| first
  | assumption
  | exact upd_same
  | (with_reducible apply hp_from; assumption; walk_at "sm"))
local macro_rules | `(tactic| walk_at "hpL") => `(tactic| first | assumption | (with_reducible apply hpL; walk_at "hp"))
local macro_rules | `(tactic| walk_at "hpT") => `(tactic| first | assumption | (with_reducible apply hpT; walk_at "hp"))
local macro_rules | `(tactic| walk_at "st1") => `(tactic| with_reducible first
  | refine L_var rfl ?_
  | refine L_cons ?_
  | refine L_nil ?_
  | refine L_c ?_
  | refine L_op ?_
  | refine L_seq ?_
  | refine L_asg ?_
  | (refine G_gn ?_; refine L_gnameE (by dsimp only [L2.wipe, List.foldl, List.set] <;> rfl) ?_)
  | refine L_k ?_
  | refine L_I0 ?_
  | refine L_addI ?_
  | refine L_tTest ?_
  | refine L_ifS ?_
  | refine L_next ?_
  | refine L_call ?_
  | refine L_callS ?_
  | refine L_T ?_
  | refine L_F ?_
  | refine L_nT ?_
  | refine L_nF ?_
  | refine L_cb ?_
  | refine L_ret ?_
  | refine L_eqI ?_
  | refine L_neI ?_
  | refine L_leI ?_
  | refine L_ltI ?_
  | refine L_or ?_
  | refine L_and ?_
  | refine L_not ?_
  | refine L_tB ?_
  | refine L_drop ?_
  | refine L_bm ?_
  | refine L_tup ?_
  | refine L_lst ?_
  | refine L_fld ?_
  | refine L_chain ?_
  | refine L_chain3 ?_
  | refine L_gname ?_
  | refine L_eqS ?_
  | refine L_neS ?_
  | refine L_eqB ?_
  | refine L_leS ?_
  | refine L_isN ?_
  | refine L_notN ?_
  | refine L_inC ?_
  | refine L_notInC ?_
  | refine L_un ?_
  | refine L_rU ?_
  | refine L_andV ?_
  | refine L_orV ?_
  | refine L_notV ?_
  | refine L_par ?_
  | refine L_par3 ?_
  | refine L_vs2 ?_
  | refine L_vs3 ?_
  | refine L_aug rfl ?_
  | refine L_augS ?_
  | refine L_ipI ?_
  | refine L_retN ?_
  | refine L_brk ?_
  | refine L_cont ?_
  | refine L_tru ?_
  | refine L_truB ?_
  | refine L_truI ?_
  | refine L_abs ?_
  | refine L_max2 ?_
  | refine L_min2 ?_
  | refine L_int1 ?_
  | refine L_int1B ?_
  | refine L_for ?_
  | refine L_iRng1 ?_
  | refine L_iRng2 ?_
  | refine L_iList ?_
  | refine L_iTup ?_
  | refine L_yes ?_
  | refine L_iZip ?_
  | refine L_iEnum ?_
  | refine L_iStr ?_
  | refine L_iRng3 ?_
  | refine L_lc ?_
  | refine L_make ?_
  | refine L_nnT ?_
  | refine L_nnF ?_
  | refine L_disp1 ?_
  | refine L_rng2 ?_
  | refine L_bm0 ?_
  | refine L_neB ?_
  | refine L_dnew ?_
  | refine L_sl ?_
  | refine L_noPart ?_
  | refine L_part ?_
  | refine L_ki ?_
  | refine L_methE ?_
  | refine L_meth ?_
  | refine L_makeE ?_
  | refine L_gCons ?_
  | refine L_gNil ?_
  | refine L_sub ?_
  | refine L_sFld ?_
  | refine L_din ?_
  | refine L_dnin ?_
  | refine L_dget ?_
  | refine L_dput ?_
  | refine L_dget2 ?_
  | refine L_methD ?_
  | refine L_lock ?_
  | refine L_iKeys ?_)
local macro_rules | `(tactic| walk_at "st") => `(tactic| first | walk_at "st1" | walk_at "op" | with_reducible refine L_ifE ?_)
local macro_rules | `(tactic| walk_at "stn") => `(tactic| repeat first | walk_at "st1" | walk_at "op")
local macro_rules | `(tactic| walk_at "sts") => `(tactic| repeat walk_at "st")
/-! the same, and what is shown by itself: sizes, bounds, what stands in the heap -/
local macro_rules | `(tactic| walk_at "bd") => `(tactic| first | exact bd_mod (by decide) | exact bd_64 (by decide) | exact bd_64 (by omega))
local macro_rules | `(tactic| walk_at "sa1") => `(tactic| first
  | walk_at "st"
  | (with_reducible refine G_mod ?_; with_reducible refine L_I (show _ < _ by first | decide | omega) ?_)
  | (with_reducible refine G_mul ?_; with_reducible refine L_mulI (Bd.cmul (n := 64) (m := 64) (by walk_at "bd") (by walk_at "bd")) ?_)
  | (with_reducible refine G_div ?_; with_reducible refine L_I (cdiv_lit (by first | decide | omega)) ?_)
  | (with_reducible refine G_pow ?_; with_reducible first
    | refine L_powE (i := 10) (j := 9) (n := 1000000000) (cpow_lit (by decide)) (by decide) ?_
    | refine L_powE (i := 10) (j := 6) (n := 1000000) (cpow_lit (by decide)) (by decide) ?_
    | refine L_powE (i := 10) (j := 10) (n := 10000000000) (cpow_lit (by decide)) (by decide) ?_
    | refine L_powE (i := 10) (j := 12) (n := 1000000000000) (cpow_lit (by decide)) (by decide) ?_
    | refine L_powE (i := 10) (j := 13) (n := 10000000000000) (cpow_lit (by decide)) (by decide) ?_
    | refine L_powE (i := 10) (j := 20) (n := 100000000000000000000) (cpow_lit (by decide)) (by decide) ?_
    | refine L_powE (i := 10) (j := 29) (n := 100000000000000000000000000000) (cpow_lit (by decide)) (by decide) ?_
    | refine L_powE (i := 10) (j := 30) (n := 1000000000000000000000000000000) (cpow_lit (by decide)) (by decide) ?_
    | refine L_powE (i := 10) (j := 39) (n := 1000000000000000000000000000000000000000) (cpow_lit (by decide)) (by decide) ?_
    | refine L_powE (i := 10) (j := 40) (n := 10000000000000000000000000000000000000000) (cpow_lit (by decide)) (by decide) ?_
    | refine L_powE (i := 10) (j := 60) (n := 1000000000000000000000000000000000000000000000000000000000000) (cpow_lit (by decide)) (by decide) ?_
    | refine L_powE (i := 2) (j := 3) (n := 8) (cpow_lit (by decide)) (by decide) ?_
    | refine L_powE (i := 2) (j := 40) (n := 1099511627776) (cpow_lit (by decide)) (by decide) ?_)
  | (with_reducible refine G_ix ?_; with_reducible first | refine L_ixT (by walk_at "hpT") (by with_unfolding_all rfl) ?_ | refine L_ixL (by walk_at "hpL") (by with_unfolding_all rfl) ?_)
  | (with_reducible refine G_len ?_; with_reducible first | refine L_lenL (by walk_at "hpL") ?_ | refine L_lenT (by walk_at "hpT") ?_)
  | walk_at "fd"
  | (with_reducible refine G_meth ?_; with_reducible refine L_methv (by walk_at "hp") (by with_unfolding_all rfl) ?_)
  | (with_reducible refine G_isi ?_; with_reducible first | refine L_isi (.base (.int _)) (b := true) (by decide +kernel) ?_ | refine L_isi (.base (.int _)) (b := false) (by decide +kernel) ?_)
  | (with_reducible refine G_d ?_; with_reducible first | refine L_dT (by first | assumption | omega) ?_ | refine L_dF (by first | assumption | omega) ?_)
  | (with_reducible refine G_nd ?_; with_reducible first | refine L_ndT (by first | assumption | omega) ?_ | refine L_ndF (by first | assumption | omega) ?_))
local macro_rules | `(tactic| walk_at "sa") => `(tactic| repeat walk_at "sa1")
/-! what stood stands -/
local macro_rules | `(tactic| walk_at "sm") => `(tactic| first
  | assumption
  | exact Same.refl _
  | (with_reducible apply same_upd'; assumption; walk_at "sm")
  | (with_reducible apply same_mut'; assumption; walk_at "sm")
  | (with_reducible apply same_via; assumption; walk_at "sm"))
/-! a new list or tuple: its place p, hp : H p = none, the heap behind it Hn, that all stands, what stands at p -/
local macro_rules | `(tactic| walk_at "nw") => `(tactic| (
  (refine L_new (by first | decide | exact sz_dec (by simp)) ?_)
  (intro p hp)
  (generalize hg : upd _ p _ = Hn)
  (have sn := same_newE hg hp)
  (have en := upd_at hg)
  (clear hg)))
/-! plain things as data -/
local macro_rules | `(tactic| walk_at "dpa") => `(tactic| first
  | exact .nil
  | (refine .cons (by first | exact .int _ | exact .str _ | exact .bl _ | exact .non | assumption) ?_; walk_at "dpa"))
local macro_rules | `(tactic| walk_at "nwp") => `(tactic| (
  (intro p hp)
  (generalize hg : upd _ p _ = Hn)
  (have sn := same_newE hg hp)
  (have en := upd_at hg)
  (clear hg)))

def top (i : Nat) : Stmt := PySem.Challenge.pw_fewspeak_k77_no_bounds_and_no_answers.main.body.getD i (.Pass ⟨0, 0, 0, 0⟩)
abbrev s_is_whole : Stmt := top 5
abbrev s_are_sums : Stmt := top 11
abbrev s_Leading_row_lack : Stmt := inClass (top 15) 1
abbrev s_Leading_column_lack : Stmt := inClass (top 15) 2
abbrev s_Leading___init__ : Stmt := inClass (top 15) 0
abbrev s_Leading_next_columns : Stmt := inClass (top 15) 4
abbrev s_Leading_next_rows : Stmt := inClass (top 15) 5
abbrev s_Leading_spread_out : Stmt := inClass (top 15) 3
abbrev s_Leading_way_back : Stmt := inClass (top 15) 6
abbrev s_Leading_carry : Stmt := inClass (top 15) 7
abbrev s_Leading_lead : Stmt := inClass (top 15) 8
abbrev s_is_unit : Stmt := top 12
abbrev s_look_led : Stmt := top 13
abbrev s_led : Stmt := top 16
abbrev s_are_numbers : Stmt := top 18
abbrev s_is_cut : Stmt := top 19
abbrev s_are_weights : Stmt := top 17
abbrev s_is_led : Stmt := top 20
abbrev s_divisor : Stmt := top 22
abbrev s_share : Stmt := top 23
abbrev s_below : Stmt := top 24
abbrev s_greatest_mean : Stmt := top 33
abbrev s_filled : Stmt := top 34
abbrev s_is_answer : Stmt := top 29
abbrev s_look_lacking : Stmt := top 30
abbrev s_total_stretch : Stmt := top 32
abbrev s_mean_stretch : Stmt := top 35
abbrev s__law_cell : Stmt := top 37
abbrev s__law_mix : Stmt := top 38
abbrev s__law_bad_list : Stmt := top 40
abbrev s__law_bad_unit : Stmt := top 41
abbrev s__law_bad_answer : Stmt := top 42
abbrev s__law_spoilt : Stmt := top 43
abbrev s__law_good : Stmt := top 44
abbrev s__law_kind : Stmt := top 39
abbrev s_law : Stmt := top 45
theorem sc_is_whole : FnScope ["thing", "low", "high"] ["thing", "low", "high"] (defScope s_is_whole) := ⟨rfl, rfl, rfl, by decide +kernel, rfl, by decide +kernel, by decide +kernel⟩
theorem sc_are_sums : FnScope ["things", "thing"] ["things"] (defScope s_are_sums) := ⟨rfl, rfl, rfl, by decide +kernel, rfl, by decide +kernel, by decide +kernel⟩
theorem sc_Leading_row_lack : FnScope ["self", "row", "unit", "much"] ["self", "row"] (defScope s_Leading_row_lack) := ⟨rfl, rfl, rfl, by decide +kernel, rfl, by decide +kernel, by decide +kernel⟩
theorem sc_Leading_column_lack : FnScope ["self", "column", "unit", "much"] ["self", "column"] (defScope s_Leading_column_lack) := ⟨rfl, rfl, rfl, by decide +kernel, rfl, by decide +kernel, by decide +kernel⟩
theorem sc_Leading___init__ : FnScope ["self", "rows", "columns", "units", "unit"] ["self", "rows", "columns", "units"] (defScope s_Leading___init__) := ⟨rfl, rfl, rfl, by decide +kernel, rfl, by decide +kernel, by decide +kernel⟩
theorem sc_Leading_next_columns : FnScope ["self", "last", "others", "found", "at", "row", "column", "low", "high"] ["self", "last", "others"] (defScope s_Leading_next_columns) := ⟨rfl, rfl, rfl, by decide +kernel, rfl, by decide +kernel, by decide +kernel⟩
theorem sc_Leading_next_rows : FnScope ["self", "last", "some", "found", "at", "row", "column", "low", "high"] ["self", "last", "some"] (defScope s_Leading_next_rows) := ⟨rfl, rfl, rfl, by decide +kernel, rfl, by decide +kernel, by decide +kernel⟩
theorem sc_Leading_spread_out : FnScope ["self", "some", "others", "row", "last", "found"] ["self"] (defScope s_Leading_spread_out) := ⟨rfl, rfl, rfl, by decide +kernel, rfl, by decide +kernel, by decide +kernel⟩
theorem sc_Leading_way_back : FnScope ["self", "some", "others", "column", "way", "row"] ["self", "some", "others", "column"] (defScope s_Leading_way_back) := ⟨rfl, rfl, rfl, by decide +kernel, rfl, by decide +kernel, by decide +kernel⟩
theorem sc_Leading_carry : FnScope ["self", "some", "others", "column", "way", "row", "much", "step", "at"] ["self", "some", "others", "column"] (defScope s_Leading_carry) := ⟨rfl, rfl, rfl, by decide +kernel, rfl, by decide +kernel, by decide +kernel⟩
theorem sc_Leading_lead : FnScope ["self", "some", "others", "open_columns", "column"] ["self"] (defScope s_Leading_lead) := ⟨rfl, rfl, rfl, by decide +kernel, rfl, by decide +kernel, by decide +kernel⟩
theorem sc_is_unit : FnScope ["thing", "rows", "columns"] ["thing", "rows", "columns"] (defScope s_is_unit) := ⟨rfl, rfl, rfl, by decide +kernel, rfl, by decide +kernel, by decide +kernel⟩
theorem sc_look_led : FnScope ["rows", "columns", "units", "unit"] ["rows", "columns", "units"] (defScope s_look_led) := ⟨rfl, rfl, rfl, by decide +kernel, rfl, by decide +kernel, by decide +kernel⟩
theorem sc_led : FnScope ["rows", "columns", "units", "leading", "row", "column", "some", "others"] ["rows", "columns", "units"] (defScope s_led) := ⟨rfl, rfl, rfl, by decide +kernel, rfl, by decide +kernel, by decide +kernel⟩
theorem sc_are_numbers : FnScope ["some", "many", "number"] ["some", "many"] (defScope s_are_numbers) := ⟨rfl, rfl, rfl, by decide +kernel, rfl, by decide +kernel, by decide +kernel⟩
theorem sc_is_cut : FnScope ["rows", "columns", "units", "told", "word", "some", "others", "outer", "inner", "more", "unit", "row", "column"] ["rows", "columns", "units", "told"] (defScope s_is_cut) := ⟨rfl, rfl, rfl, by decide +kernel, rfl, by decide +kernel, by decide +kernel⟩
theorem sc_are_weights : FnScope ["rows", "columns", "units", "weights", "leading", "unit", "much", "lacks", "row", "column"] ["rows", "columns", "units", "weights"] (defScope s_are_weights) := ⟨rfl, rfl, rfl, by decide +kernel, rfl, by decide +kernel, by decide +kernel⟩
theorem sc_is_led : FnScope ["rows", "columns", "units", "told"] ["rows", "columns", "units", "told"] (defScope s_is_led) := ⟨rfl, rfl, rfl, by decide +kernel, rfl, by decide +kernel, by decide +kernel⟩
theorem sc_divisor : FnScope ["one", "other"] ["one", "other"] (defScope s_divisor) := ⟨rfl, rfl, rfl, by decide +kernel, rfl, by decide +kernel, by decide +kernel⟩
theorem sc_share : FnScope ["top", "bottom", "many"] ["top", "bottom"] (defScope s_share) := ⟨rfl, rfl, rfl, by decide +kernel, rfl, by decide +kernel, by decide +kernel⟩
theorem sc_below : FnScope ["one", "other"] ["one", "other"] (defScope s_below) := ⟨rfl, rfl, rfl, by decide +kernel, rfl, by decide +kernel, by decide +kernel⟩
theorem sc_greatest_mean : FnScope ["rows", "weight", "value", "word", "counted", "top", "bottom", "at", "falling", "less", "row"] ["rows"] (defScope s_greatest_mean) := ⟨rfl, rfl, rfl, by decide +kernel, rfl, by decide +kernel, by decide +kernel⟩
theorem sc_filled : FnScope ["answers", "counted", "place", "answer", "counts"] ["answers", "counted", "place"] (defScope s_filled) := ⟨rfl, rfl, rfl, by decide +kernel, rfl, by decide +kernel, by decide +kernel⟩
theorem sc_is_answer : FnScope ["thing", "many"] ["thing", "many"] (defScope s_is_answer) := ⟨rfl, rfl, rfl, by decide +kernel, rfl, by decide +kernel, by decide +kernel⟩
theorem sc_look_lacking : FnScope ["answers", "many", "answer"] ["answers", "many"] (defScope s_look_lacking) := ⟨rfl, rfl, rfl, by decide +kernel, rfl, by decide +kernel, by decide +kernel⟩
theorem sc_total_stretch : FnScope ["answers", "least", "most", "weight", "low", "high"] ["answers"] (defScope s_total_stretch) := ⟨rfl, rfl, rfl, by decide +kernel, rfl, by decide +kernel, by decide +kernel⟩
theorem sc_mean_stretch : FnScope ["answers", "answer", "most", "least", "top", "bottom", "weight", "low", "high", "word"] ["answers"] (defScope s_mean_stretch) := ⟨rfl, rfl, rfl, by decide +kernel, rfl, by decide +kernel, by decide +kernel⟩
theorem sc__law_cell : FnScope ["_law_script", "_law_k"] ["_law_script", "_law_k"] (defScope s__law_cell) := ⟨rfl, rfl, rfl, by decide +kernel, rfl, by decide +kernel, by decide +kernel⟩
theorem sc__law_mix : FnScope ["_law_cell_here", "_law_k", "_law_number"] ["_law_cell_here", "_law_k"] (defScope s__law_mix) := ⟨rfl, rfl, rfl, by decide +kernel, rfl, by decide +kernel, by decide +kernel⟩
theorem sc__law_bad_list : FnScope ["_law_cell_here", "_law_place", "_law_some"] ["_law_cell_here", "_law_place"] (defScope s__law_bad_list) := ⟨rfl, rfl, rfl, by decide +kernel, rfl, by decide +kernel, by decide +kernel⟩
theorem sc__law_bad_unit : FnScope ["_law_cell_here", "_law_some"] ["_law_cell_here"] (defScope s__law_bad_unit) := ⟨rfl, rfl, rfl, by decide +kernel, rfl, by decide +kernel, by decide +kernel⟩
theorem sc__law_bad_answer : FnScope ["_law_cell_here", "_law_way", "_law_some", "_law_one"] ["_law_cell_here", "_law_way"] (defScope s__law_bad_answer) := ⟨rfl, rfl, rfl, by decide +kernel, rfl, by decide +kernel, by decide +kernel⟩
theorem sc__law_spoilt : FnScope ["_law_way", "_law_cell_here", "_law_things", "_law_place", "_law_good_here"] ["_law_way", "_law_cell_here"] (defScope s__law_spoilt) := ⟨rfl, rfl, rfl, by decide +kernel, rfl, by decide +kernel, by decide +kernel⟩
theorem sc__law_good : FnScope ["_law_way", "_law_edge", "_law_units", "_law_far", "_law_some", "_law_one"] ["_law_way", "_law_edge"] (defScope s__law_good) := ⟨rfl, rfl, rfl, by decide +kernel, rfl, by decide +kernel, by decide +kernel⟩
theorem sc__law_kind : FnScope ["_law_way", "_law_things", "_law_kinds", "e"] ["_law_way", "_law_things"] (defScope s__law_kind) := ⟨rfl, rfl, rfl, by decide +kernel, rfl, by decide +kernel, by decide +kernel⟩
theorem sc_law : FnScope ["_law_script", "_law_k", "_law_cell_here", "_law_way", "_law_due", "_law_good_here"] ["_law_script"] (defScope s_law) := ⟨rfl, rfl, rfl, by decide +kernel, rfl, by decide +kernel, by decide +kernel⟩
/-- what the top has written -/
structure Txt (K : PySem.W.Frag) (mg : Str → Option Value) : Prop where
  n_bool : mg "bool" = none
  n_int : mg "int" = none
  n_isinstance : mg "isinstance" = none
  n_all : mg "all" = none
  n_len : mg "len" = none
  n_list : mg "list" = none
  g_MOST_SUM : ∃ u, mg "MOST_SUM" = some u ∧ RelV (.int 24000000) u
  g_MOST_SUMS : ∃ u, mg "MOST_SUMS" = some u ∧ RelV (.int 6) u
  n_sum : mg "sum" = none
  n_zip : mg "zip" = none
  m_Leading : mg "Leading" = some (.ref (cA mg "Leading"))
  k_Leading : Cls K (cA mg "Leading")
  na_Leading_rows : NoAttr K (cA mg "Leading") "rows"
  na_Leading_columns : NoAttr K (cA mg "Leading") "columns"
  na_Leading_units : NoAttr K (cA mg "Leading") "units"
  na_Leading_weights : NoAttr K (cA mg "Leading") "weights"
  n_enumerate : mg "enumerate" = none
  n_range : mg "range" = none
  n_min : mg "min" = none
  n_sorted : mg "sorted" = none
  n_tuple : mg "tuple" = none
  g_MOST_WEIGHT_led : ∃ u, mg "MOST_WEIGHT_led" = some u ∧ RelV (.int 1000000) u
  g_MOST_UNITS : ∃ u, mg "MOST_UNITS" = some u ∧ RelV (.int 24) u
  m_NoBounds : mg "NoBounds" = some (.ref (cA mg "NoBounds"))
  x_NoBounds : ExcAt K (cA mg "NoBounds")
  n_any : mg "any" = none
  n_abs : mg "abs" = none
  g_FAR : ∃ u, mg "FAR" = some u ∧ RelV (.int 1000000000) u
  g_MOST_WEIGHT_lacking : ∃ u, mg "MOST_WEIGHT_lacking" = some u ∧ RelV (.int 1000000) u
  g_MOST_ANSWERS : ∃ u, mg "MOST_ANSWERS" = some u ∧ RelV (.int 24) u
  m_NoAnswers : mg "NoAnswers" = some (.ref (cA mg "NoAnswers"))
  x_NoAnswers : ExcAt K (cA mg "NoAnswers")
  m_SpeakError : mg "SpeakError" = some (.ref (cA mg "SpeakError"))
  y_SpeakError : ExcK K (cA mg "SpeakError")
  n_max : mg "max" = none
  z_NoBounds : L2.ExcC K (cA mg "NoBounds")
  z_NoAnswers : L2.ExcC K (cA mg "NoAnswers")
  y_NoBounds : ExcK K (cA mg "NoBounds")
  y_NoAnswers : ExcK K (cA mg "NoAnswers")
  e_NoBounds_NoBounds : PySem.W.subIn K (.ref (cA mg "NoBounds")) (.ref (cA mg "NoBounds")) = some true
  e_NoBounds_NoAnswers : PySem.W.subIn K (.ref (cA mg "NoBounds")) (.ref (cA mg "NoAnswers")) = some false
  e_NoBounds_SpeakError : PySem.W.subIn K (.ref (cA mg "NoBounds")) (.ref (cA mg "SpeakError")) = some true
  e_NoAnswers_NoAnswers : PySem.W.subIn K (.ref (cA mg "NoAnswers")) (.ref (cA mg "NoAnswers")) = some true
  e_NoAnswers_NoBounds : PySem.W.subIn K (.ref (cA mg "NoAnswers")) (.ref (cA mg "NoBounds")) = some false
  e_NoAnswers_SpeakError : PySem.W.subIn K (.ref (cA mg "NoAnswers")) (.ref (cA mg "SpeakError")) = some true
  d_is_whole : DefAt K mg "is_whole" s_is_whole ["thing", "low", "high"]
  d_are_sums : DefAt K mg "are_sums" s_are_sums ["things"]
  d_Leading_row_lack : MethAt K (cA mg "Leading") "row_lack" "Leading.row_lack" s_Leading_row_lack ["self", "row"]
  d_Leading_column_lack : MethAt K (cA mg "Leading") "column_lack" "Leading.column_lack" s_Leading_column_lack ["self", "column"]
  i_Leading : InitAt K (cA mg "Leading") "Leading.__init__" s_Leading___init__ ["self", "rows", "columns", "units"]
  d_Leading_next_columns : MethAt K (cA mg "Leading") "next_columns" "Leading.next_columns" s_Leading_next_columns ["self", "last", "others"]
  d_Leading_next_rows : MethAt K (cA mg "Leading") "next_rows" "Leading.next_rows" s_Leading_next_rows ["self", "last", "some"]
  d_Leading_spread_out : MethAt K (cA mg "Leading") "spread_out" "Leading.spread_out" s_Leading_spread_out ["self"]
  d_Leading_way_back : MethAt K (cA mg "Leading") "way_back" "Leading.way_back" s_Leading_way_back ["self", "some", "others", "column"]
  d_Leading_carry : MethAt K (cA mg "Leading") "carry" "Leading.carry" s_Leading_carry ["self", "some", "others", "column"]
  d_Leading_lead : MethAt K (cA mg "Leading") "lead" "Leading.lead" s_Leading_lead ["self"]
  d_is_unit : DefAt K mg "is_unit" s_is_unit ["thing", "rows", "columns"]
  d_look_led : DefAtA K mg "look_led" "look" s_look_led ["rows", "columns", "units"]
  d_led : DefAt K mg "led" s_led ["rows", "columns", "units"]
  d_are_numbers : DefAt K mg "are_numbers" s_are_numbers ["some", "many"]
  d_is_cut : DefAt K mg "is_cut" s_is_cut ["rows", "columns", "units", "told"]
  d_are_weights : DefAt K mg "are_weights" s_are_weights ["rows", "columns", "units", "weights"]
  d_is_led : DefAt K mg "is_led" s_is_led ["rows", "columns", "units", "told"]
  d_divisor : DefAt K mg "divisor" s_divisor ["one", "other"]
  d_share : DefAt K mg "share" s_share ["top", "bottom"]
  d_below : DefAt K mg "below" s_below ["one", "other"]
  d_greatest_mean : DefAt K mg "greatest_mean" s_greatest_mean ["rows"]
  d_filled : DefAt K mg "filled" s_filled ["answers", "counted", "place"]
  d_is_answer : DefAt K mg "is_answer" s_is_answer ["thing", "many"]
  d_look_lacking : DefAtA K mg "look_lacking" "look" s_look_lacking ["answers", "many"]
  d_total_stretch : DefAt K mg "total_stretch" s_total_stretch ["answers"]
  d_mean_stretch : DefAt K mg "mean_stretch" s_mean_stretch ["answers"]
  d__law_cell : DefAt K mg "_law_cell" s__law_cell ["_law_script", "_law_k"]
  d__law_mix : DefAt K mg "_law_mix" s__law_mix ["_law_cell_here", "_law_k"]
  d__law_bad_list : DefAt K mg "_law_bad_list" s__law_bad_list ["_law_cell_here", "_law_place"]
  d__law_bad_unit : DefAt K mg "_law_bad_unit" s__law_bad_unit ["_law_cell_here"]
  d__law_bad_answer : DefAt K mg "_law_bad_answer" s__law_bad_answer ["_law_cell_here", "_law_way"]
  d__law_spoilt : DefAt K mg "_law_spoilt" s__law_spoilt ["_law_way", "_law_cell_here"]
  d__law_good : DefAt K mg "_law_good" s__law_good ["_law_way", "_law_edge"]
  d__law_kind : DefAt K mg "_law_kind" s__law_kind ["_law_way", "_law_things"]
  d_law : DefAt K mg "law" s_law ["_law_script"]
section
variable {P : Program} {w : World} {K : PySem.W.Frag} {mg : Str → Option Value} {base : Heap}
theorem fd_Leading_rows (T : Txt K mg) {H : Hp} {a dx : Addr} {fs : List (Str × V)} {v : V} {Q : V → Prop} (h : H a = some (.ins (cA mg "Leading") dx fs)) (l : fs.lookup ("rows" : Str) = some v) (q : Q v) : ∃ a1 C dx fs v, V.ref a = V.ref a1 ∧ H a1 = some (.ins C dx fs) ∧ Cls K C ∧ NoAttr K C "rows" ∧ fs.lookup ("rows" : Str) = some v ∧ Q v := L_fldv h T.k_Leading T.na_Leading_rows l q
theorem fg_Leading_rows {H : Hp} {a : Addr} {Q : V → Prop} (h : ∃ a1 C dx fs v, V.ref a = V.ref a1 ∧ H a1 = some (.ins C dx fs) ∧ Cls K C ∧ NoAttr K C "rows" ∧ fs.lookup ("rows" : Str) = some v ∧ Q v) : ∃ a1 C dx fs v, V.ref a = V.ref a1 ∧ H a1 = some (.ins C dx fs) ∧ Cls K C ∧ NoAttr K C "rows" ∧ fs.lookup ("rows" : Str) = some v ∧ Q v := h
local macro_rules | `(tactic| walk_at "fd") => `(tactic| (with_reducible refine fg_Leading_rows ?_; with_reducible refine fd_Leading_rows (by assumption) (by walk_at "hp") (by with_unfolding_all rfl) ?_))
theorem fd_Leading_columns (T : Txt K mg) {H : Hp} {a dx : Addr} {fs : List (Str × V)} {v : V} {Q : V → Prop} (h : H a = some (.ins (cA mg "Leading") dx fs)) (l : fs.lookup ("columns" : Str) = some v) (q : Q v) : ∃ a1 C dx fs v, V.ref a = V.ref a1 ∧ H a1 = some (.ins C dx fs) ∧ Cls K C ∧ NoAttr K C "columns" ∧ fs.lookup ("columns" : Str) = some v ∧ Q v := L_fldv h T.k_Leading T.na_Leading_columns l q
theorem fg_Leading_columns {H : Hp} {a : Addr} {Q : V → Prop} (h : ∃ a1 C dx fs v, V.ref a = V.ref a1 ∧ H a1 = some (.ins C dx fs) ∧ Cls K C ∧ NoAttr K C "columns" ∧ fs.lookup ("columns" : Str) = some v ∧ Q v) : ∃ a1 C dx fs v, V.ref a = V.ref a1 ∧ H a1 = some (.ins C dx fs) ∧ Cls K C ∧ NoAttr K C "columns" ∧ fs.lookup ("columns" : Str) = some v ∧ Q v := h
local macro_rules | `(tactic| walk_at "fd") => `(tactic| (with_reducible refine fg_Leading_columns ?_; with_reducible refine fd_Leading_columns (by assumption) (by walk_at "hp") (by with_unfolding_all rfl) ?_))
theorem fd_Leading_units (T : Txt K mg) {H : Hp} {a dx : Addr} {fs : List (Str × V)} {v : V} {Q : V → Prop} (h : H a = some (.ins (cA mg "Leading") dx fs)) (l : fs.lookup ("units" : Str) = some v) (q : Q v) : ∃ a1 C dx fs v, V.ref a = V.ref a1 ∧ H a1 = some (.ins C dx fs) ∧ Cls K C ∧ NoAttr K C "units" ∧ fs.lookup ("units" : Str) = some v ∧ Q v := L_fldv h T.k_Leading T.na_Leading_units l q
theorem fg_Leading_units {H : Hp} {a : Addr} {Q : V → Prop} (h : ∃ a1 C dx fs v, V.ref a = V.ref a1 ∧ H a1 = some (.ins C dx fs) ∧ Cls K C ∧ NoAttr K C "units" ∧ fs.lookup ("units" : Str) = some v ∧ Q v) : ∃ a1 C dx fs v, V.ref a = V.ref a1 ∧ H a1 = some (.ins C dx fs) ∧ Cls K C ∧ NoAttr K C "units" ∧ fs.lookup ("units" : Str) = some v ∧ Q v := h
local macro_rules | `(tactic| walk_at "fd") => `(tactic| (with_reducible refine fg_Leading_units ?_; with_reducible refine fd_Leading_units (by assumption) (by walk_at "hp") (by with_unfolding_all rfl) ?_))
theorem fd_Leading_weights (T : Txt K mg) {H : Hp} {a dx : Addr} {fs : List (Str × V)} {v : V} {Q : V → Prop} (h : H a = some (.ins (cA mg "Leading") dx fs)) (l : fs.lookup ("weights" : Str) = some v) (q : Q v) : ∃ a1 C dx fs v, V.ref a = V.ref a1 ∧ H a1 = some (.ins C dx fs) ∧ Cls K C ∧ NoAttr K C "weights" ∧ fs.lookup ("weights" : Str) = some v ∧ Q v := L_fldv h T.k_Leading T.na_Leading_weights l q
theorem fg_Leading_weights {H : Hp} {a : Addr} {Q : V → Prop} (h : ∃ a1 C dx fs v, V.ref a = V.ref a1 ∧ H a1 = some (.ins C dx fs) ∧ Cls K C ∧ NoAttr K C "weights" ∧ fs.lookup ("weights" : Str) = some v ∧ Q v) : ∃ a1 C dx fs v, V.ref a = V.ref a1 ∧ H a1 = some (.ins C dx fs) ∧ Cls K C ∧ NoAttr K C "weights" ∧ fs.lookup ("weights" : Str) = some v ∧ Q v := h
local macro_rules | `(tactic| walk_at "fd") => `(tactic| (with_reducible refine fg_Leading_weights ?_; with_reducible refine fd_Leading_weights (by assumption) (by walk_at "hp") (by with_unfolding_all rfl) ?_))
/-! ### weights led: the plain law -/
/-- a unit: its row, its column, its least and its greatest weight -/
abbrev UN := Int × Int × Int × Int
abbrev Dt := List (Int × Int)
def nou : UN := (0, 0, 0, 0)
/-- iterates of a step -/
def itr {α : Type} (f : α → α) : Nat → α → α
  | 0, a => a
  | n + 1, a => f (itr f n a)
theorem itr_fix {α : Type} {f : α → α} {a : α} {i : Nat} (h : f (itr f i a) = itr f i a) : ∀ d, itr f (i + d) a = itr f i a
  | 0 => rfl
  | d + 1 => by
    show f (itr f (i + d) a) = _
    rw [itr_fix h d, h]
theorem itr_at {α : Type} {f : α → α} {a : α} {i n : Nat} (h : f (itr f i a) = itr f i a) (hn : i ≤ n) : itr f n a = itr f i a := by
  rw [show n = i + (n - i) by omega, itr_fix h]
/-- the weights of the units of a kind, summed -/
def sumP (P : UN → Bool) : List UN → List Int → Int
  | u :: us, w :: ws => (if P u = true then w else 0) + sumP P us ws
  | _, _ => 0
theorem sumP_set (P : UN → Bool) : ∀ (us : List UN) (ws : List Int) (i : Nat) (v : Int), us.length = ws.length → i < ws.length → sumP P us (ws.set i v) = sumP P us ws + if P (us.getD i nou) = true then v - ws.getD i 0 else 0
  | [], ws, i, v, h, hi => by simp at h; omega
  | u :: us, [], i, v, h, hi => by simp at hi
  | u :: us, w :: ws, 0, v, h, hi => by
    show (if P u = true then v else 0) + _ = (if P u = true then w else 0) + sumP P us ws + if P u = true then v - w else 0
    split <;> omega
  | u :: us, w :: ws, i + 1, v, h, hi => by
    have ih := sumP_set P us ws i v (by simpa using h) (by simpa using hi)
    show (if P u = true then w else 0) + sumP P us (ws.set i v) = (if P u = true then w else 0) + sumP P us ws + if P (us.getD i nou) = true then v - ws.getD i 0 else 0
    rw [ih]
    omega
theorem sumP_fm (P : UN → Bool) : ∀ (us : List UN) (ws : List Int), ((us.zip ws).filterMap fun p => if P p.1 = true then some p.2 else none).sum = sumP P us ws
  | [], ws => by simp [sumP]
  | u :: us, [] => by simp [sumP]
  | u :: us, w :: ws => by
    rw [List.zip_cons_cons, List.filterMap_cons]
    show _ = (if P u = true then w else 0) + sumP P us ws
    rw [← sumP_fm P us ws]
    dsimp only
    by_cases h : P u = true
    · rw [if_pos h, if_pos h]; simp
    · rw [if_neg h, if_neg h]; simp
def rlk (rows : List Int) (us : List UN) (ws : List Int) (r : Int) : Int := rows.getD r.toNat 0 - sumP (fun u => decide (u.1 = r)) us ws
def clk (cols : List Int) (us : List UN) (ws : List Int) (c : Int) : Int := cols.getD c.toNat 0 - sumP (fun u => decide (u.2.1 = c)) us ws
def ky (d : Dt) : List Int := d.map (·.1)
/-- what stands at a key -/
def gt : Dt → Int → Int
  | [], _ => 0
  | (a, b) :: r, k => if a = k then b else gt r k
theorem ky_app (d e : Dt) : ky (d ++ e) = ky d ++ ky e := List.map_append ..
theorem gt_app : ∀ {d e : Dt} {k : Int}, k ∈ ky d → gt (d ++ e) k = gt d k
  | [], _, _, h => nomatch h
  | (a, b) :: d, e, k, h => by
    show (if a = k then b else gt (d ++ e) k) = if a = k then b else gt d k
    by_cases c : a = k
    · rw [if_pos c, if_pos c]
    · rw [if_neg c, if_neg c]
      refine gt_app ?_
      rcases List.mem_cons.mp h with h | h
      · exact absurd h.symm c
      · exact h
theorem gt_new : ∀ {d : Dt} {k v : Int}, k ∉ ky d → gt (d ++ [(k, v)]) k = v
  | [], k, v, _ => by show (if k = k then v else _) = v; rw [if_pos rfl]
  | (a, b) :: d, k, v, h => by
    show (if a = k then b else gt (d ++ [(k, v)]) k) = v
    rw [if_neg fun c : a = k => h (by rw [← c]; exact List.mem_cons_self ..), gt_new fun c => h (List.mem_cons_of_mem _ c)]
/-- one look at a unit -/
def nx1 (us : List UN) (ws : List Int) (src key : UN → Int) (ok : UN → Int → Bool) (last : List Int) (i : Nat) (s : List Int × Dt) : List Int × Dt :=
  if src (us.getD i nou) ∈ last ∧ key (us.getD i nou) ∉ ky s.2 ∧ ok (us.getD i nou) (ws.getD i 0) = true then (s.1 ++ [key (us.getD i nou)], s.2 ++ [(key (us.getD i nou), (i : Int))]) else s
def nx (us : List UN) (ws : List Int) (src key : UN → Int) (ok : UN → Int → Bool) (last : List Int) (d : Dt) : Nat → List Int × Dt
  | 0 => ([], d)
  | i + 1 => nx1 us ws src key ok last i (nx us ws src key ok last d i)
def nxC (us : List UN) (ws : List Int) (last : List Int) (d : Dt) (i : Nat) := nx us ws (·.1) (·.2.1) (fun u w => decide (w < u.2.2.2)) last d i
def nxR (us : List UN) (ws : List Int) (last : List Int) (d : Dt) (i : Nat) := nx us ws (·.2.1) (·.1) (fun u w => decide (u.2.2.1 < w)) last d i
theorem nx_le (us : List UN) (ws : List Int) (src key : UN → Int) (ok : UN → Int → Bool) (last : List Int) (d : Dt) (i : Nat) : (nx us ws src key ok last d i).1.length ≤ i ∧ (nx us ws src key ok last d i).2.length = d.length + (nx us ws src key ok last d i).1.length ∧ ky (nx us ws src key ok last d i).2 = ky d ++ (nx us ws src key ok last d i).1 := by
  induction i with
  | zero => exact ⟨Nat.le_refl _, rfl, by rw [nx, List.append_nil]⟩
  | succ i ih =>
    obtain ⟨h1, h2, h3⟩ := ih
    rw [nx]
    generalize nx us ws src key ok last d i = s at *
    unfold nx1
    split
    · refine ⟨by rw [List.length_append]; simp; omega, by rw [List.length_append, List.length_append, h2]; simp; omega, ?_⟩
      rw [ky_app, h3, List.append_assoc]
      rfl
    · exact ⟨by omega, h2, h3⟩
/-- what a walk over all units has done -/
theorem nx_all {us : List UN} {ws : List Int} {src key : UN → Int} {ok : UN → Int → Bool} {last : List Int} {d : Dt} (nd : (ky d).Nodup) (i : Nat) :
    (ky (nx us ws src key ok last d i).2).Nodup ∧ (∀ k ∈ ky d, k ∈ ky (nx us ws src key ok last d i).2) ∧ (∀ k ∈ ky (nx us ws src key ok last d i).2, k ∈ ky d ∨ k ∈ (nx us ws src key ok last d i).1) ∧ (∀ k ∈ (nx us ws src key ok last d i).1, k ∈ ky (nx us ws src key ok last d i).2 ∧ ∃ j < i, k = key (us.getD j nou)) ∧
    (∀ j < i, src (us.getD j nou) ∈ last → ok (us.getD j nou) (ws.getD j 0) = true → key (us.getD j nou) ∈ ky (nx us ws src key ok last d i).2) := by
  induction i with
  | zero => exact ⟨nd, fun _ h => h, fun _ h => .inl h, (fun _ h => nomatch h), fun j hj => absurd hj (Nat.not_lt_zero _)⟩
  | succ i ih =>
    obtain ⟨h1, h2, h3, h4, h5⟩ := ih
    rw [nx]
    generalize nx us ws src key ok last d i = s at *
    unfold nx1
    split
    · rename_i c
      obtain ⟨c1, c2, c3⟩ := c
      have e : ky (s.2 ++ [(key (us.getD i nou), (i : Int))]) = ky s.2 ++ [key (us.getD i nou)] := ky_app ..
      dsimp only
      rw [e]
      refine ⟨List.nodup_append.mpr ⟨h1, by simp, fun a ha b hb => ?_⟩, fun k hk => List.mem_append_left _ (h2 k hk), fun k hk => ?_, fun k hk => ?_, fun j hj hs ho => ?_⟩
      · rw [List.mem_singleton.mp hb]
        rintro rfl
        exact c2 ha
      · rcases List.mem_append.mp hk with hk | hk
        · exact (h3 k hk).imp id fun h => List.mem_append_left _ h
        · exact .inr (List.mem_append_right _ hk)
      · rcases List.mem_append.mp hk with hk | hk
        · obtain ⟨g1, j, g2, g3⟩ := h4 k hk
          exact ⟨List.mem_append_left _ g1, j, by omega, g3⟩
        · exact ⟨List.mem_append_right _ hk, i, by omega, List.mem_singleton.mp hk⟩
      · rcases Nat.lt_succ_iff_lt_or_eq.mp hj with hj | rfl
        · exact List.mem_append_left _ (h5 j hj hs ho)
        · exact List.mem_append_right _ (List.mem_singleton.mpr rfl)
    · rename_i c
      refine ⟨h1, h2, h3, fun k hk => ?_, fun j hj hs ho => ?_⟩
      · obtain ⟨g1, j, g2, g3⟩ := h4 k hk
        exact ⟨g1, j, by omega, g3⟩
      · rcases Nat.lt_succ_iff_lt_or_eq.mp hj with hj | rfl
        · exact h5 j hj hs ho
        · exact Classical.byContradiction fun n => c ⟨hs, n, ho⟩
/-- what grows while it is spread out -/
inductive Grown (us : List UN) (ws : List Int) (d0 : Dt) : Dt → Dt → Prop
  | start : Grown us ws d0 d0 []
  | col {some others : Dt} {i : Nat} (h : Grown us ws d0 some others) (hi : i < us.length) (h1 : (us.getD i nou).1 ∈ ky some) (h2 : (us.getD i nou).2.1 ∉ ky others) (h3 : ws.getD i 0 < (us.getD i nou).2.2.2) : Grown us ws d0 some (others ++ [((us.getD i nou).2.1, (i : Int))])
  | row {some others : Dt} {i : Nat} (h : Grown us ws d0 some others) (hi : i < us.length) (h1 : (us.getD i nou).2.1 ∈ ky others) (h2 : (us.getD i nou).1 ∉ ky some) (h3 : (us.getD i nou).2.2.1 < ws.getD i 0) : Grown us ws d0 (some ++ [((us.getD i nou).1, (i : Int))]) others
/-- ways back to a root: the units from a row on, of a column's; b: the next step gives weight -/
inductive Pa (us : List UN) (some others : Dt) : Bool → Int → List Nat → Int → Prop
  | root {r : Int} (h : r ∈ ky some) (hv : gt some r = -1) : Pa us some others false r [] r
  | row {r x : Int} {i : Nat} {L : List Nat} (h : r ∈ ky some) (hv : gt some r = (i : Int)) (hr : (us.getD i nou).1 = r) (t : Pa us some others true (us.getD i nou).2.1 L x) : Pa us some others false r (i :: L) x
  | col {c x : Int} {i : Nat} {L : List Nat} (h : c ∈ ky others) (hv : gt others c = (i : Int)) (hc : (us.getD i nou).2.1 = c) (t : Pa us some others false (us.getD i nou).1 L x) : Pa us some others true c (i :: L) x
theorem Pa.more {us : List UN} {some others e f : Dt} {b : Bool} {k x : Int} {L : List Nat} (h : Pa us some others b k L x) : Pa us (some ++ e) (others ++ f) b k L x := by
  induction h with
  | root h hv => exact .root (by rw [ky_app]; exact List.mem_append_left _ h) (by rw [gt_app h]; exact hv)
  | row h hv hr t ih => exact .row (by rw [ky_app]; exact List.mem_append_left _ h) (by rw [gt_app h]; exact hv) hr ih
  | col h hv hc t ih => exact .col (by rw [ky_app]; exact List.mem_append_left _ h) (by rw [gt_app h]; exact hv) hc ih
/-- a way that can be gone: its units are distinct, those at b's turn have room above, the others room below -/
structure Way (us : List UN) (ws : List Int) (d0 some others : Dt) (b : Bool) (k : Int) (L : List Nat) (x : Int) : Prop where
  p : Pa us some others b k L x
  nd : L.Nodup
  kn : ∀ i ∈ L, i < us.length ∧ (us.getD i nou).1 ∈ ky some ∧ (us.getD i nou).2.1 ∈ ky others
  rt : x ∈ ky d0 ∧ gt d0 x = -1
  up : ∀ j i, L[j]? = Option.some i → if (j % 2 == 0) = b then ws.getD i 0 < (us.getD i nou).2.2.2 else (us.getD i nou).2.2.1 < ws.getD i 0
  len : L.length ≤ some.length + others.length
theorem Way.more {us : List UN} {ws : List Int} {d0 some others e f : Dt} {b : Bool} {k : Int} {L : List Nat} {x : Int} (h : Way us ws d0 some others b k L x) : Way us ws d0 (some ++ e) (others ++ f) b k L x :=
  ⟨h.p.more, h.nd, fun i hi => ⟨(h.kn i hi).1, by rw [ky_app]; exact List.mem_append_left _ (h.kn i hi).2.1, by rw [ky_app]; exact List.mem_append_left _ (h.kn i hi).2.2⟩, h.rt, h.up, by have := h.len; simp only [List.length_append]; omega⟩
theorem Grown.ways {us : List UN} {ws : List Int} {d0 some others : Dt} (hd : ∀ k ∈ ky d0, gt d0 k = -1) (h : Grown us ws d0 some others) :
    (∀ r ∈ ky some, ∃ L x, Way us ws d0 some others false r L x) ∧ (∀ c ∈ ky others, ∃ L x, Way us ws d0 some others true c L x) := by
  induction h with
  | start => exact ⟨fun r hr => ⟨[], r, .root hr (hd r hr), List.nodup_nil, (fun _ h => nomatch h), ⟨hr, hd r hr⟩, fun j i h => by simp at h, by simp⟩, fun c h => nomatch h⟩
  | @col some others i g hi h1 h2 h3 ih =>
    have old : ∀ {b k L x}, Way us ws d0 some others b k L x → Way us ws d0 some (others ++ [((us.getD i nou).2.1, (i : Int))]) b k L x := fun w => by
      have := w.more (e := []) (f := [((us.getD i nou).2.1, (i : Int))])
      rwa [List.append_nil] at this
    refine ⟨fun r hr => ?_, fun c hc => ?_⟩
    · obtain ⟨L, x, w⟩ := ih.1 r hr
      exact ⟨L, x, old w⟩
    · rw [ky_app] at hc
      rcases List.mem_append.mp hc with hc | hc
      · obtain ⟨L, x, w⟩ := ih.2 c hc
        exact ⟨L, x, old w⟩
      · obtain rfl := List.mem_singleton.mp hc
        obtain ⟨L, x, w⟩ := ih.1 _ h1
        have ni : i ∉ L := fun z => h2 (w.kn i z).2.2
        have hm : (us.getD i nou).2.1 ∈ ky (others ++ [((us.getD i nou).2.1, (i : Int))]) := by rw [ky_app]; exact List.mem_append_right _ (List.mem_singleton.mpr rfl)
        refine ⟨i :: L, x, .col hm (gt_new h2) rfl (old w).p, List.nodup_cons.mpr ⟨ni, w.nd⟩, fun j hj => ?_, w.rt, fun j k hjk => ?_, by have := w.len; simp only [List.length_cons, List.length_append, List.length_nil]; omega⟩
        · rcases List.mem_cons.mp hj with rfl | hj
          · exact ⟨hi, h1, hm⟩
          · exact (old w).kn j hj
        · cases j with
          | zero =>
            simp at hjk
            subst hjk
            rw [if_pos (by simp)]
            exact h3
          | succ j =>
            have := w.up j k (by simpa using hjk)
            rcases Nat.mod_two_eq_zero_or_one j with hj | hj
            · have h' : (j + 1) % 2 = 1 := by omega
              rw [hj] at this
              rw [h']
              simpa using this
            · have h' : (j + 1) % 2 = 0 := by omega
              rw [hj] at this
              rw [h']
              simpa using this
  | @row some others i g hi h1 h2 h3 ih =>
    have old : ∀ {b k L x}, Way us ws d0 some others b k L x → Way us ws d0 (some ++ [((us.getD i nou).1, (i : Int))]) others b k L x := fun w => by
      have := w.more (e := [((us.getD i nou).1, (i : Int))]) (f := [])
      rwa [List.append_nil] at this
    refine ⟨fun r hr => ?_, fun c hc => ?_⟩
    · rw [ky_app] at hr
      rcases List.mem_append.mp hr with hr | hr
      · obtain ⟨L, x, w⟩ := ih.1 r hr
        exact ⟨L, x, old w⟩
      · obtain rfl := List.mem_singleton.mp hr
        obtain ⟨L, x, w⟩ := ih.2 _ h1
        have ni : i ∉ L := fun z => h2 (w.kn i z).2.1
        have hm : (us.getD i nou).1 ∈ ky (some ++ [((us.getD i nou).1, (i : Int))]) := by rw [ky_app]; exact List.mem_append_right _ (List.mem_singleton.mpr rfl)
        refine ⟨i :: L, x, .row hm (gt_new h2) rfl (old w).p, List.nodup_cons.mpr ⟨ni, w.nd⟩, fun j hj => ?_, w.rt, fun j k hjk => ?_, by have := w.len; simp only [List.length_cons, List.length_append, List.length_nil]; omega⟩
        · rcases List.mem_cons.mp hj with rfl | hj
          · exact ⟨hi, hm, h1⟩
          · exact (old w).kn j hj
        · cases j with
          | zero =>
            simp at hjk
            subst hjk
            rw [if_neg (by simp)]
            exact h3
          | succ j =>
            have := w.up j k (by simpa using hjk)
            rcases Nat.mod_two_eq_zero_or_one j with hj | hj
            · have h' : (j + 1) % 2 = 1 := by omega
              rw [hj] at this
              rw [h']
              simpa using this
            · have h' : (j + 1) % 2 = 0 := by omega
              rw [hj] at this
              rw [h']
              simpa using this
    · obtain ⟨L, x, w⟩ := ih.2 c hc
      exact ⟨L, x, old w⟩
theorem pig : ∀ (n : Nat) (l : List Int), l.Nodup → (∀ x ∈ l, 0 ≤ x ∧ x < (n : Int)) → l.length ≤ n
  | 0, [], _, _ => Nat.le_refl _
  | 0, x :: l, _, h => by have := h x (List.mem_cons_self ..); omega
  | n + 1, l, nd, h => by
    by_cases c : (n : Int) ∈ l
    · have h1 := pig n (l.erase (n : Int)) (nd.erase _) fun x hx => by
        obtain ⟨h1, h2⟩ := (List.Nodup.mem_erase_iff nd).mp hx
        have := h x h2
        omega
      have h2 := List.length_erase_of_mem c
      have h3 := List.length_pos_of_mem c
      omega
    · have := pig n l nd fun x hx => by
        have := h x hx
        have : x ≠ (n : Int) := fun z => c (z ▸ hx)
        omega
      omega
def rnd (us : List UN) (ws : List Int) (s : List Int × Dt × Dt) : List Int × Dt × Dt :=
  ((nxR us ws (nxC us ws s.1 s.2.2 us.length).1 s.2.1 us.length).1, (nxR us ws (nxC us ws s.1 s.2.2 us.length).1 s.2.1 us.length).2, (nxC us ws s.1 s.2.2 us.length).2)
/-- what holds while it is spread out -/
structure Bf (us : List UN) (ws : List Int) (nr nc : Nat) (d0 : Dt) (last : List Int) (some others : Dt) : Prop where
  gr : Grown us ws d0 some others
  ndS : (ky some).Nodup
  ndO : (ky others).Nodup
  la : ∀ r ∈ last, r ∈ ky some
  cl : ∀ i < us.length, (us.getD i nou).1 ∈ ky some → (us.getD i nou).1 ∉ last → ws.getD i 0 < (us.getD i nou).2.2.2 → (us.getD i nou).2.1 ∈ ky others
  co : ∀ i < us.length, (us.getD i nou).2.1 ∈ ky others → (us.getD i nou).2.2.1 < ws.getD i 0 → (us.getD i nou).1 ∈ ky some
  rS : ∀ k ∈ ky some, 0 ≤ k ∧ k < (nr : Int)
  rO : ∀ k ∈ ky others, 0 ≤ k ∧ k < (nc : Int)
def OkUs (us : List UN) (nr nc : Nat) : Prop := ∀ i < us.length, (0 ≤ (us.getD i nou).1 ∧ (us.getD i nou).1 < (nr : Int)) ∧ (0 ≤ (us.getD i nou).2.1 ∧ (us.getD i nou).2.1 < (nc : Int)) ∧ 0 ≤ (us.getD i nou).2.2.1 ∧ (us.getD i nou).2.2.1 ≤ (us.getD i nou).2.2.2 ∧ (us.getD i nou).2.2.2 ≤ 1000000
theorem grown_C {us : List UN} {ws : List Int} {d0 some others : Dt} {last : List Int} (g : Grown us ws d0 some others) (la : ∀ r ∈ last, r ∈ ky some) : ∀ i ≤ us.length, Grown us ws d0 some (nxC us ws last others i).2
  | 0, _ => g
  | i + 1, hi => by
    have ih := grown_C g la i (by omega)
    unfold nxC at *
    rw [nx]
    generalize nx us ws _ _ _ last others i = s at *
    unfold nx1
    split
    · rename_i c
      exact .col ih (by omega) (la _ c.1) c.2.1 (of_decide_eq_true c.2.2)
    · exact ih
theorem grown_R {us : List UN} {ws : List Int} {d0 some others : Dt} {last : List Int} (g : Grown us ws d0 some others) (la : ∀ r ∈ last, r ∈ ky others) : ∀ i ≤ us.length, Grown us ws d0 (nxR us ws last some i).2 others
  | 0, _ => g
  | i + 1, hi => by
    have ih := grown_R g la i (by omega)
    unfold nxR at *
    rw [nx]
    generalize nx us ws _ _ _ last some i = s at *
    unfold nx1
    split
    · rename_i c
      exact .row ih (by omega) (la _ c.1) c.2.1 (of_decide_eq_true c.2.2)
    · exact ih
theorem Bf.rnd {us : List UN} {ws : List Int} {nr nc : Nat} {d0 : Dt} {s : List Int × Dt × Dt} (h : Bf us ws nr nc d0 s.1 s.2.1 s.2.2) (ok : OkUs us nr nc) : Bf us ws nr nc d0 (rnd us ws s).1 (rnd us ws s).2.1 (rnd us ws s).2.2 := by
  obtain ⟨last, some, others⟩ := s
  dsimp only at h
  have c := nx_all (us := us) (ws := ws) (src := (·.1)) (key := (·.2.1)) (ok := fun u w => decide (w < u.2.2.2)) (last := last) h.ndO us.length
  have gc := grown_C h.gr h.la us.length (Nat.le_refl _)
  show Bf us ws nr nc d0 (nxR us ws (nxC us ws last others us.length).1 some us.length).1 (nxR us ws (nxC us ws last others us.length).1 some us.length).2 (nxC us ws last others us.length).2
  change (ky (nxC us ws last others us.length).2).Nodup ∧ _ at c
  obtain ⟨c1, c2, c3, c4, c5⟩ := c
  change ∀ k ∈ ky others, k ∈ ky (nxC us ws last others us.length).2 at c2
  change ∀ k ∈ ky (nxC us ws last others us.length).2, k ∈ ky others ∨ k ∈ (nxC us ws last others us.length).1 at c3
  change ∀ k ∈ (nxC us ws last others us.length).1, k ∈ ky (nxC us ws last others us.length).2 ∧ _ at c4
  change ∀ j < us.length, _ → _ → _ ∈ ky (nxC us ws last others us.length).2 at c5
  generalize nxC us ws last others us.length = f at *
  have d := nx_all (us := us) (ws := ws) (src := (·.2.1)) (key := (·.1)) (ok := fun u w => decide (u.2.2.1 < w)) (last := f.1) h.ndS us.length
  have gd := grown_R gc (fun k hk => (c4 k hk).1) us.length (Nat.le_refl _)
  change (ky (nxR us ws f.1 some us.length).2).Nodup ∧ _ at d
  obtain ⟨d1, d2, d3, d4, d5⟩ := d
  change ∀ k ∈ ky some, k ∈ ky (nxR us ws f.1 some us.length).2 at d2
  change ∀ k ∈ ky (nxR us ws f.1 some us.length).2, k ∈ ky some ∨ k ∈ (nxR us ws f.1 some us.length).1 at d3
  change ∀ k ∈ (nxR us ws f.1 some us.length).1, k ∈ ky (nxR us ws f.1 some us.length).2 ∧ _ at d4
  change ∀ j < us.length, _ → _ → _ ∈ ky (nxR us ws f.1 some us.length).2 at d5
  generalize nxR us ws f.1 some us.length = g at *
  refine ⟨gd, d1, c1, fun r hr => (d4 r hr).1, fun i hi h1 h2 h3 => ?_, fun i hi h1 h2 => ?_, fun k hk => ?_, fun k hk => ?_⟩
  · rcases d3 _ h1 with h1 | h1
    · by_cases e : (us.getD i nou).1 ∈ last
      · exact c5 i hi e (decide_eq_true h3)
      · exact c2 _ (h.cl i hi h1 e h3)
    · exact absurd h1 h2
  · rcases c3 _ h1 with h1 | h1
    · exact d2 _ (h.co i hi h1 h2)
    · exact d5 i hi h1 (decide_eq_true h2)
  · rcases d3 _ hk with hk | hk
    · exact h.rS k hk
    · obtain ⟨_, j, hj, rfl⟩ := d4 k hk
      exact (ok j hj).1
  · rcases c3 _ hk with hk | hk
    · exact h.rO k hk
    · obtain ⟨_, j, hj, rfl⟩ := c4 k hk
      exact (ok j hj).2.1
theorem nx_nil (us : List UN) (ws : List Int) (src key : UN → Int) (ok : UN → Int → Bool) (d : Dt) : ∀ i, nx us ws src key ok [] d i = ([], d)
  | 0 => rfl
  | i + 1 => by
    rw [nx, nx_nil us ws src key ok d i]
    unfold nx1
    rw [if_neg fun c => nomatch c.1]
theorem rnd_nil {us : List UN} {ws : List Int} {s : List Int × Dt × Dt} (h : s.1 = []) : rnd us ws s = s := by
  obtain ⟨last, some, others⟩ := s
  dsimp only at h
  subst h
  unfold rnd nxC nxR
  dsimp only
  rw [nx_nil]
  dsimp only
  rw [nx_nil]
/-- the rows that lack -/
def roots (rows : List Int) (us : List UN) (ws : List Int) : Dt := ((List.range rows.length).filter fun r : Nat => decide (0 < rlk rows us ws (r : Int))).map fun r : Nat => ((r : Int), -1)
def sprS (rows : List Int) (us : List UN) (ws : List Int) (i : Nat) : List Int × Dt × Dt := itr (rnd us ws) i (ky (roots rows us ws), roots rows us ws, [])
/-- the rows and columns that lacking weight reaches -/
def spr (rows : List Int) (us : List UN) (ws : List Int) : Dt × Dt := (sprS rows us ws rows.length).2
theorem ky_roots (rows : List Int) (us : List UN) (ws : List Int) : ky (roots rows us ws) = ((List.range rows.length).filter fun r : Nat => decide (0 < rlk rows us ws (r : Int))).map fun r : Nat => (r : Int) := by
  unfold ky roots
  rw [List.map_map]
  rfl
theorem sprS_ok {rows : List Int} {us : List UN} {ws : List Int} {nc : Nat} (ok : OkUs us rows.length nc) : ∀ i, Bf us ws rows.length nc (roots rows us ws) (sprS rows us ws i).1 (sprS rows us ws i).2.1 (sprS rows us ws i).2.2
  | 0 => by
    refine ⟨.start, ?_, List.nodup_nil, fun r h => h, fun i hi h1 h2 => absurd h1 h2, (fun i hi h1 => nomatch h1), fun k hk => ?_, (fun k hk => nomatch hk)⟩
    · show (ky (roots rows us ws)).Nodup
      rw [ky_roots]
      refine List.Pairwise.map _ (fun a b hab => ?_) (List.nodup_range.filter _)
      omega
    · change k ∈ ky (roots rows us ws) at hk
      rw [ky_roots] at hk
      obtain ⟨r, hr, rfl⟩ := List.mem_map.mp hk
      have := List.mem_range.mp (List.mem_filter.mp hr).1
      omega
  | i + 1 => (sprS_ok ok i).rnd ok
theorem sprS_len {rows : List Int} {us : List UN} {ws : List Int} {nc : Nat} (ok : OkUs us rows.length nc) : ∀ i, (sprS rows us ws i).1 = [] ∨ i + 1 ≤ (sprS rows us ws i).2.1.length
  | 0 => by
    show ky (roots rows us ws) = [] ∨ 1 ≤ (roots rows us ws).length
    unfold ky
    cases roots rows us ws with
    | nil => exact .inl rfl
    | cons a l => exact .inr (by simp)
  | i + 1 => by
    rcases sprS_len ok i with h | h
    · refine .inl ?_
      show (rnd us ws (sprS rows us ws i)).1 = []
      rw [rnd_nil h, h]
    · by_cases c : (sprS rows us ws (i + 1)).1 = []
      · exact .inl c
      · refine .inr ?_
        have := (nx_le us ws (·.2.1) (·.1) (fun u w => decide (u.2.2.1 < w)) (nxC us ws (sprS rows us ws i).1 (sprS rows us ws i).2.2 us.length).1 (sprS rows us ws i).2.1 us.length).2.1
        change (sprS rows us ws (i + 1)).2.1.length = (sprS rows us ws i).2.1.length + (sprS rows us ws (i + 1)).1.length at this
        have := List.length_pos_iff.mpr c
        omega
theorem sprS_lt {rows : List Int} {us : List UN} {ws : List Int} {nc : Nat} (ok : OkUs us rows.length nc) {i : Nat} (h : (sprS rows us ws i).1 ≠ []) : i < rows.length := by
  have h1 := (sprS_len ok i).resolve_left h
  have b := sprS_ok (ws := ws) ok i
  have := pig rows.length _ b.ndS b.rS
  unfold ky at this
  rw [List.length_map] at this
  omega
theorem sprS_end {rows : List Int} {us : List UN} {ws : List Int} {nc : Nat} (ok : OkUs us rows.length nc) : (sprS rows us ws rows.length).1 = [] :=
  Classical.byContradiction fun h => absurd (sprS_lt ok h) (Nat.lt_irrefl _)
theorem sprS_at {rows : List Int} {us : List UN} {ws : List Int} {i : Nat} (h : (sprS rows us ws i).1 = []) (hi : i ≤ rows.length) : sprS rows us ws rows.length = sprS rows us ws i := itr_at (rnd_nil h) hi
/-- how often, sign by sign, the units of a kind stand on a way -/
def sg (P : UN → Bool) (us : List UN) : Bool → List Nat → Int
  | _, [] => 0
  | b, i :: L => (if P (us.getD i nou) = true then (if b = true then 1 else -1) else 0) + sg P us (!b) L
theorem sg_row {us : List UN} {some others : Dt} {r : Int} {b : Bool} {k x : Int} {L : List Nat} (h : Pa us some others b k L x) : sg (fun u => decide (u.1 = r)) us b L = (if r = x then 1 else 0) - if b = false ∧ r = k then 1 else 0 := by
  induction h with
  | root h hv => simp [sg]
  | @row k x i L h hv hr t ih =>
    show (if decide ((us.getD i nou).1 = r) = true then (if false = true then 1 else -1) else 0) + sg _ us true L = _
    rw [ih, hr]
    by_cases c : k = r
    · subst c; simp; omega
    · simp [c, Ne.symm c]
  | @col k x i L h hv hc t ih =>
    show (if decide ((us.getD i nou).1 = r) = true then (if true = true then 1 else -1) else 0) + sg _ us false L = _
    rw [ih]
    generalize (us.getD i nou).1 = z
    by_cases c : z = r
    · rw [c]; simp; omega
    · simp [c, Ne.symm c]
theorem sg_col {us : List UN} {some others : Dt} {q : Int} {b : Bool} {k x : Int} {L : List Nat} (h : Pa us some others b k L x) : sg (fun u => decide (u.2.1 = q)) us b L = if b = true ∧ q = k then 1 else 0 := by
  induction h with
  | root h hv => simp [sg]
  | @row k x i L h hv hr t ih =>
    show (if decide ((us.getD i nou).2.1 = q) = true then (if false = true then 1 else -1) else 0) + sg _ us true L = _
    rw [ih]
    generalize (us.getD i nou).2.1 = z
    by_cases c : z = q
    · rw [c]; simp
    · simp [c, Ne.symm c]
  | @col k x i L h hv hc t ih =>
    show (if decide ((us.getD i nou).2.1 = q) = true then (if true = true then 1 else -1) else 0) + sg _ us false L = _
    rw [ih, hc]
    by_cases c : k = q
    · subst c; simp
    · simp [c, Ne.symm c]
/-- how much can be carried, by the first k units of a way -/
def muchK (us : List UN) (ws : List Int) (L : List Nat) (m : Int) : Nat → Int
  | 0 => m
  | k + 1 => if k % 2 = 0 then min (muchK us ws L m k) ((us.getD (L.getD k 0) nou).2.2.2 - ws.getD (L.getD k 0) 0) else min (muchK us ws L m k) (ws.getD (L.getD k 0) 0 - (us.getD (L.getD k 0) nou).2.2.1)
/-- the weights, carried over the first k units of a way -/
def wK (ws : List Int) (L : List Nat) (m : Int) : Nat → List Int
  | 0 => ws
  | k + 1 => (wK ws L m k).set (L.getD k 0) ((wK ws L m k).getD (L.getD k 0) 0 + m * (1 - 2 * ((k : Int) % 2)))
theorem wK_len (ws : List Int) (L : List Nat) (m : Int) : ∀ k, (wK ws L m k).length = ws.length
  | 0 => rfl
  | k + 1 => by rw [wK, List.length_set, wK_len ws L m k]
theorem wK_sum {us : List UN} {ws : List Int} {L : List Nat} {m : Int} (P : UN → Bool) (hl : us.length = ws.length) (hL : ∀ i ∈ L, i < us.length) : ∀ k ≤ L.length, sumP P us (wK ws L m k) = sumP P us ws + m * (sg P us true L - sg P us (k % 2 == 0) (L.drop k))
  | 0, _ => by
    show sumP P us ws = sumP P us ws + m * (sg P us true L - sg P us true L)
    rw [Int.sub_self, Int.mul_zero, Int.add_zero]
  | k + 1, hk => by
    have hkl : k < L.length := by omega
    have hi : L.getD k 0 < us.length := by
      rw [List.getD_eq_getElem?_getD, List.getElem?_eq_getElem hkl]
      exact hL _ (List.getElem_mem hkl)
    have e : L.drop k = L.getD k 0 :: L.drop (k + 1) := by
      rw [List.drop_eq_getElem_cons hkl, List.getD_eq_getElem?_getD, List.getElem?_eq_getElem hkl]; rfl
    rw [wK, sumP_set P us _ _ _ (by rw [wK_len, hl]) (by rw [wK_len, ← hl]; exact hi), wK_sum P hl hL k (by omega), e]
    show _ = sumP P us ws + m * (sg P us true L - sg P us ((k + 1) % 2 == 0) (L.drop (k + 1)))
    have hn : (!(k % 2 == 0)) = ((k + 1) % 2 == 0) := by
      rcases Nat.mod_two_eq_zero_or_one k with h | h
      · have : (k + 1) % 2 = 1 := by omega
        rw [h, this]; rfl
      · have : (k + 1) % 2 = 0 := by omega
        rw [h, this]; rfl
    rw [sg, hn]
    generalize sg P us ((k + 1) % 2 == 0) (L.drop (k + 1)) = a
    generalize sg P us true L = t
    generalize (wK ws L m k).getD (L.getD k 0) 0 = w
    by_cases c : P (us.getD (L.getD k 0) nou) = true
    · rw [if_pos c, if_pos c]
      rcases Nat.mod_two_eq_zero_or_one k with h | h
      · rw [h, show ((k : Int) % 2) = 0 by omega]
        simp only [beq_self_eq_true, if_true, Int.mul_sub, Int.mul_add, Int.mul_one, Int.mul_zero]
        omega
      · rw [h, show ((k : Int) % 2) = 1 by omega]
        simp only [Int.mul_sub, Int.mul_add, Int.mul_one, Int.mul_neg, Nat.reduceBEq, Bool.false_eq_true, if_false]
        omega
    · rw [if_neg c, if_neg c]
      simp only [Int.zero_add, Int.add_zero]
theorem muchK_le {us : List UN} {ws : List Int} {L : List Nat} {m : Int} : ∀ k, muchK us ws L m k ≤ m ∧ ∀ t < k, if t % 2 = 0 then muchK us ws L m k ≤ (us.getD (L.getD t 0) nou).2.2.2 - ws.getD (L.getD t 0) 0 else muchK us ws L m k ≤ ws.getD (L.getD t 0) 0 - (us.getD (L.getD t 0) nou).2.2.1
  | 0 => ⟨Int.le_refl _, fun t h => absurd h (Nat.not_lt_zero _)⟩
  | k + 1 => by
    obtain ⟨h1, h2⟩ := muchK_le (us := us) (ws := ws) (L := L) (m := m) k
    have hm : muchK us ws L m (k + 1) ≤ muchK us ws L m k := by
      rw [muchK]; split <;> omega
    refine ⟨by omega, fun t ht => ?_⟩
    rcases Nat.lt_succ_iff_lt_or_eq.mp ht with ht | rfl
    · have := h2 t ht
      split <;> rename_i c <;> simp only [c, if_true, if_false] at this <;> omega
    · rw [muchK]
      split <;> omega
theorem muchK_pos {us : List UN} {ws : List Int} {L : List Nat} {m : Int} (hm : 0 < m) (h : ∀ t i, L[t]? = Option.some i → if (t % 2 == 0) = true then ws.getD i 0 < (us.getD i nou).2.2.2 else (us.getD i nou).2.2.1 < ws.getD i 0) : ∀ k ≤ L.length, 0 < muchK us ws L m k
  | 0, _ => hm
  | k + 1, hk => by
    have ih := muchK_pos hm h k (by omega)
    have hkl : k < L.length := by omega
    have := h k (L.getD k 0) (by rw [List.getD_eq_getElem?_getD, List.getElem?_eq_getElem hkl]; rfl)
    rw [muchK]
    split
    · rename_i c
      simp only [c, beq_self_eq_true, if_true] at this
      omega
    · rename_i c
      have : (k % 2 == 0) = false := by simp; omega
      simp_all
      omega
theorem getD_set {ws : List Int} {i j : Nat} {v : Int} (hi : i < ws.length) : (ws.set i v).getD j 0 = if i = j then v else ws.getD j 0 := by
  rw [List.getD_eq_getElem?_getD, List.getElem?_set, List.getD_eq_getElem?_getD]
  by_cases c : i = j
  · rw [if_pos c, if_pos c, if_pos hi]; rfl
  · rw [if_neg c, if_neg c]
theorem nd_get {L : List Nat} (nd : L.Nodup) {s t : Nat} (hs : s < L.length) (ht : t < L.length) (e : L.getD s 0 = L.getD t 0) : s = t := by
  rw [List.getD_eq_getElem?_getD, List.getElem?_eq_getElem hs, List.getD_eq_getElem?_getD, List.getElem?_eq_getElem ht] at e
  change L[s] = L[t] at e
  have h := List.pairwise_iff_getElem.mp nd
  rcases Nat.lt_trichotomy s t with c | c | c
  · exact absurd e (h s t hs ht c)
  · exact c
  · exact absurd e.symm (h t s ht hs c)
def bdW (us : List UN) (ws : List Int) : Prop := ∀ i < us.length, (us.getD i nou).2.2.1 ≤ ws.getD i 0 ∧ ws.getD i 0 ≤ (us.getD i nou).2.2.2
theorem wK_b {us : List UN} {ws : List Int} {L : List Nat} {m : Int} (hl : us.length = ws.length) (hL : ∀ i ∈ L, i < us.length) (nd : L.Nodup) (hb : bdW us ws) (h0 : 0 ≤ m)
    (hm : ∀ t < L.length, if t % 2 = 0 then m ≤ (us.getD (L.getD t 0) nou).2.2.2 - ws.getD (L.getD t 0) 0 else m ≤ ws.getD (L.getD t 0) 0 - (us.getD (L.getD t 0) nou).2.2.1) :
    ∀ k ≤ L.length, bdW us (wK ws L m k) ∧ ∀ t, k ≤ t → t < L.length → (wK ws L m k).getD (L.getD t 0) 0 = ws.getD (L.getD t 0) 0
  | 0, _ => ⟨hb, fun t _ _ => rfl⟩
  | k + 1, hk => by
    obtain ⟨h1, h2⟩ := wK_b hl hL nd hb h0 hm k (by omega)
    have hkl : k < L.length := by omega
    have hi : L.getD k 0 < us.length := by
      rw [List.getD_eq_getElem?_getD, List.getElem?_eq_getElem hkl]
      exact hL _ (List.getElem_mem hkl)
    have hi2 : L.getD k 0 < (wK ws L m k).length := by rw [wK_len, ← hl]; exact hi
    have e := h2 k (Nat.le_refl _) hkl
    have hmk := hm k hkl
    have hbk := hb _ hi
    constructor
    · intro i hi'
      rw [wK, getD_set hi2]
      by_cases c : L.getD k 0 = i
      · rw [if_pos c, e, ← c]
        rcases Nat.mod_two_eq_zero_or_one k with h | h
        · rw [if_pos h] at hmk
          rw [show ((k : Int) % 2) = 0 by omega]
          simp only [Int.mul_zero, Int.sub_zero, Int.mul_one]
          omega
        · rw [if_neg (by omega)] at hmk
          rw [show ((k : Int) % 2) = 1 by omega]
          omega
      · rw [if_neg c]
        exact h1 i hi'
    · intro t ht htl
      rw [wK, getD_set hi2, if_neg fun c => by have := nd_get nd hkl htl c; omega]
      exact h2 t (by omega) htl
/-- what holds while weight is led -/
structure Good (rows cols : List Int) (us : List UN) (ws : List Int) : Prop where
  l : us.length = ws.length
  b : bdW us ws
  r : ∀ k, 0 ≤ k → k < (rows.length : Int) → 0 ≤ rlk rows us ws k
  c : ∀ k, 0 ≤ k → k < (cols.length : Int) → 0 ≤ clk cols us ws k
theorem roots_mem {rows : List Int} {us : List UN} {ws : List Int} {x : Int} (h : x ∈ ky (roots rows us ws)) : 0 ≤ x ∧ x < (rows.length : Int) ∧ 0 < rlk rows us ws x := by
  rw [ky_roots] at h
  obtain ⟨r, hr, rfl⟩ := List.mem_map.mp h
  obtain ⟨h1, h2⟩ := List.mem_filter.mp hr
  have := List.mem_range.mp h1
  exact ⟨by omega, by omega, of_decide_eq_true h2⟩
/-- how much is carried over a way from column c back to row x -/
def muchF (rows cols : List Int) (us : List UN) (ws : List Int) (L : List Nat) (x c : Int) : Int := muchK us ws L (min (rlk rows us ws x) (clk cols us ws c)) L.length
def carr (rows cols : List Int) (us : List UN) (ws : List Int) (L : List Nat) (x c : Int) : List Int := wK ws L (muchF rows cols us ws L x c) L.length
theorem carr_ok {rows cols : List Int} {us : List UN} {ws : List Int} {some others : Dt} {L : List Nat} {x c : Int} (g : Good rows cols us ws) (w : Way us ws (roots rows us ws) some others true c L x) (hc : 0 < clk cols us ws c) :
    Good rows cols us (carr rows cols us ws L x c) ∧ 0 < muchF rows cols us ws L x c ∧ (∀ q, clk cols us (carr rows cols us ws L x c) q = clk cols us ws q - if q = c then muchF rows cols us ws L x c else 0) := by
  obtain ⟨x0, x1, x2⟩ := roots_mem w.rt.1
  have hL : ∀ i ∈ L, i < us.length := fun i hi => (w.kn i hi).1
  have mp : 0 < muchF rows cols us ws L x c := muchK_pos (by omega) w.up L.length (Nat.le_refl _)
  obtain ⟨ml, mb⟩ := muchK_le (us := us) (ws := ws) (L := L) (m := min (rlk rows us ws x) (clk cols us ws c)) L.length
  change muchF rows cols us ws L x c ≤ _ at ml
  obtain ⟨hb, _⟩ := wK_b g.l hL w.nd g.b (Int.le_of_lt mp) mb L.length (Nat.le_refl _)
  have hs := fun P => wK_sum (m := muchF rows cols us ws L x c) P g.l hL L.length (Nat.le_refl _)
  change bdW us (carr rows cols us ws L x c) at hb
  change ∀ P, sumP P us (carr rows cols us ws L x c) = _ at hs
  have hR : ∀ r, rlk rows us (carr rows cols us ws L x c) r = rlk rows us ws r - if r = x then muchF rows cols us ws L x c else 0 := fun r => by
    unfold rlk
    rw [hs, List.drop_length, sg_row w.p]
    show _ - (_ + _ * ((_ - _) - 0)) = _
    simp only [Bool.true_eq_false, false_and, if_false, Int.sub_zero]
    split
    · rw [Int.mul_one]; omega
    · rw [Int.mul_zero]; omega
  have hC : ∀ q, clk cols us (carr rows cols us ws L x c) q = clk cols us ws q - if q = c then muchF rows cols us ws L x c else 0 := fun q => by
    unfold clk
    rw [hs, List.drop_length, sg_col w.p]
    show _ - (_ + _ * (_ - 0)) = _
    simp only [true_and, Int.sub_zero]
    split
    · rw [Int.mul_one]; omega
    · rw [Int.mul_zero]; omega
  refine ⟨⟨by rw [carr, wK_len]; exact g.l, hb, fun k k0 k1 => ?_, fun k k0 k1 => ?_⟩, mp, hC⟩
  · rw [hR]
    have := g.r k k0 k1
    split
    · rename_i e; subst e; omega
    · omega
  · rw [hC]
    have := g.c k k0 k1
    split
    · rename_i e; subst e; omega
    · omega
theorem sum_less (f : Nat → Int) (c m : Int) : ∀ n : Nat, ((List.range n).map fun q : Nat => f q - if (q : Int) = c then m else 0).sum = ((List.range n).map f).sum - if 0 ≤ c ∧ c < (n : Int) then m else 0
  | 0 => by simp; omega
  | n + 1 => by
    rw [List.range_succ, List.map_append, List.map_append, List.sum_append, List.sum_append, sum_less f c m n]
    simp only [List.map_cons, List.map_nil, List.sum_cons, List.sum_nil, Int.add_zero]
    by_cases h : (n : Int) = c
    · rw [if_pos h, if_neg (by omega), if_pos (by omega)]; omega
    · rw [if_neg h]
      by_cases h2 : 0 ≤ c ∧ c < (n : Int)
      · rw [if_pos h2, if_pos (by omega)]; omega
      · rw [if_neg h2, if_neg (by omega)]; omega
theorem sum_nn {f : Nat → Int} : ∀ {n : Nat}, (∀ q < n, 0 ≤ f q) → 0 ≤ ((List.range n).map f).sum
  | 0, _ => by simp
  | n + 1, h => by
    rw [List.range_succ, List.map_append, List.sum_append]
    have := sum_nn (n := n) fun q hq => h q (by omega)
    have := h n (by omega)
    simp
    omega
def openC (rows cols : List Int) (us : List UN) (ws : List Int) : List Int := (ky (spr rows us ws).2).filter fun c => decide (0 < clk cols us ws c)
noncomputable def wayOf (rows : List Int) (us : List UN) (ws : List Int) (c : Int) : List Nat × Int := Classical.epsilon fun p => Way us ws (roots rows us ws) (spr rows us ws).1 (spr rows us ws).2 true c p.1 p.2
theorem roots_gt {rows : List Int} {us : List UN} {ws : List Int} : ∀ k ∈ ky (roots rows us ws), gt (roots rows us ws) k = -1 := by
  unfold roots
  generalize (List.range rows.length).filter _ = l
  induction l with
  | nil => exact fun k h => nomatch h
  | cons a l ih =>
    intro k hk
    show (if (a : Int) = k then -1 else gt _ k) = -1
    by_cases c : (a : Int) = k
    · rw [if_pos c]
    · rw [if_neg c]
      refine ih k ?_
      rcases List.mem_cons.mp hk with h | h
      · exact absurd h.symm c
      · exact h
theorem wayOf_ok {rows : List Int} {us : List UN} {ws : List Int} {nc : Nat} (ok : OkUs us rows.length nc) {c : Int} (h : c ∈ ky (spr rows us ws).2) : Way us ws (roots rows us ws) (spr rows us ws).1 (spr rows us ws).2 true c (wayOf rows us ws c).1 (wayOf rows us ws c).2 := by
  have b := sprS_ok (ws := ws) ok rows.length
  obtain ⟨L, x, w⟩ := (b.gr.ways roots_gt).2 c h
  exact Classical.epsilon_spec (p := fun p : List Nat × Int => Way us ws (roots rows us ws) (spr rows us ws).1 (spr rows us ws).2 true c p.1 p.2) ⟨(L, x), w⟩
noncomputable def stepL (rows cols : List Int) (us : List UN) (ws : List Int) : List Int := carr rows cols us ws (wayOf rows us ws ((openC rows cols us ws).headD 0)).1 (wayOf rows us ws ((openC rows cols us ws).headD 0)).2 ((openC rows cols us ws).headD 0)
def tot (cols : List Int) (us : List UN) (ws : List Int) : Int := ((List.range cols.length).map fun c : Nat => clk cols us ws (c : Int)).sum
theorem openC_mem {rows cols : List Int} {us : List UN} {ws : List Int} {c : Int} (h : c ∈ openC rows cols us ws) : c ∈ ky (spr rows us ws).2 ∧ 0 < clk cols us ws c :=
  ⟨(List.mem_filter.mp h).1, of_decide_eq_true (List.mem_filter.mp h).2⟩
theorem headD_mem {l : List Int} (h : l ≠ []) : l.headD 0 ∈ l := by
  cases l with
  | nil => exact absurd rfl h
  | cons a l => exact List.mem_cons_self ..
theorem stepL_ok {rows cols : List Int} {us : List UN} {ws : List Int} (ok : OkUs us rows.length cols.length) (g : Good rows cols us ws) (h : openC rows cols us ws ≠ []) : Good rows cols us (stepL rows cols us ws) ∧ tot cols us (stepL rows cols us ws) < tot cols us ws := by
  obtain ⟨h1, h2⟩ := openC_mem (headD_mem h)
  have b := sprS_ok (ws := ws) ok rows.length
  have hr := b.rO _ h1
  obtain ⟨g', m, hC⟩ := carr_ok g (wayOf_ok ok h1) h2
  refine ⟨g', ?_⟩
  unfold tot stepL
  simp only [hC]
  rw [sum_less, if_pos hr]
  omega
theorem tot_nn {rows cols : List Int} {us : List UN} {ws : List Int} (g : Good rows cols us ws) : 0 ≤ tot cols us ws := sum_nn fun q hq => g.c q (by omega) (by omega)
/-- weight is led until no column is open -/
inductive Lds (rows cols : List Int) (us : List UN) : List Int → List Int → Nat → Prop
  | stop {ws : List Int} (h : openC rows cols us ws = []) : Lds rows cols us ws ws 0
  | step {ws w' : List Int} {n : Nat} (h : openC rows cols us ws ≠ []) (t : Lds rows cols us (stepL rows cols us ws) w' n) : Lds rows cols us ws w' (n + 1)
theorem Lds.ends {rows cols : List Int} {us : List UN} {ws w' : List Int} {n : Nat} (h : Lds rows cols us ws w' n) : openC rows cols us w' = [] := by
  induction h with
  | stop h => exact h
  | step _ _ ih => exact ih
theorem lds_ex {rows cols : List Int} {us : List UN} (ok : OkUs us rows.length cols.length) : ∀ (n : Nat) (ws : List Int), (tot cols us ws).toNat ≤ n → Good rows cols us ws → ∃ w' k, Lds rows cols us ws w' k ∧ Good rows cols us w'
  | n, ws, hn, g => by
    by_cases h : openC rows cols us ws = []
    · exact ⟨ws, 0, .stop h, g⟩
    · obtain ⟨g', lt⟩ := stepL_ok ok g h
      have := tot_nn g
      have := tot_nn g'
      match n with
      | 0 => omega
      | n + 1 =>
        obtain ⟨w', k, l, gw⟩ := lds_ex ok n _ (by omega) g'
        exact ⟨w', k + 1, .step h l, gw⟩
noncomputable def leadF (rows cols : List Int) (us : List UN) (ws : List Int) : List Int := Classical.epsilon fun w' => (∃ n, Lds rows cols us ws w' n) ∧ Good rows cols us w'
theorem leadF_ok {rows cols : List Int} {us : List UN} {ws : List Int} (ok : OkUs us rows.length cols.length) (g : Good rows cols us ws) : (∃ n, Lds rows cols us ws (leadF rows cols us ws) n) ∧ Good rows cols us (leadF rows cols us ws) := by
  obtain ⟨w', k, l, gw⟩ := lds_ex ok _ ws (Nat.le_refl _) g
  exact Classical.epsilon_spec (p := fun w' => (∃ n, Lds rows cols us ws w' n) ∧ Good rows cols us w') ⟨w', ⟨k, l⟩, gw⟩
/-! ### what is told, and why it is right -/
def sumU (P : UN → Bool) (f : UN → Int) : List UN → Int
  | [] => 0
  | u :: us => (if P u = true then f u else 0) + sumU P f us
theorem sumP_mem (key : UN → Int) (us : List UN) (ws : List Int) : ∀ S : List Int, S.Nodup → (S.map fun r => sumP (fun u => decide (key u = r)) us ws).sum = sumP (fun u => decide (key u ∈ S)) us ws
  | [], _ => by
    induction us generalizing ws with
    | nil => simp [sumP]
    | cons u us ih =>
      cases ws with
      | nil => simp [sumP]
      | cons w ws => simpa [sumP] using ih ws
  | r :: S, nd => by
    obtain ⟨n1, n2⟩ := List.nodup_cons.mp nd
    rw [List.map_cons, List.sum_cons, sumP_mem key us ws S n2]
    induction us generalizing ws with
    | nil => simp [sumP]
    | cons u us ih =>
      cases ws with
      | nil => simp [sumP]
      | cons w ws =>
        have := ih ws
        simp only [sumP]
        by_cases h : key u = r
        · have h2 : key u ∉ S := fun z => n1 (h ▸ z)
          rw [if_pos (decide_eq_true h), if_neg (fun z => h2 (of_decide_eq_true z)), if_pos (decide_eq_true (List.mem_cons.mpr (.inl h)))]
          omega
        · by_cases h2 : key u ∈ S
          · rw [if_neg (fun z => h (of_decide_eq_true z)), if_pos (decide_eq_true h2), if_pos (decide_eq_true (List.mem_cons_of_mem _ h2))]
            omega
          · rw [if_neg (fun z => h (of_decide_eq_true z)), if_neg (fun z => h2 (of_decide_eq_true z)), if_neg (fun z => (List.mem_cons.mp (of_decide_eq_true z)).elim h h2)]
            omega
/-- units that lead out of some rows and others' columns; into them -/
def outP (S O : List Int) (u : UN) : Bool := decide (u.1 ∈ S) && !decide (u.2.1 ∈ O)
def inP (S O : List Int) (u : UN) : Bool := !decide (u.1 ∈ S) && decide (u.2.1 ∈ O)
theorem sum_cross (S O : List Int) : ∀ (us : List UN) (ws : List Int), sumP (fun u => decide (u.1 ∈ S)) us ws - sumP (fun u => decide (u.2.1 ∈ O)) us ws = sumP (outP S O) us ws - sumP (inP S O) us ws
  | [], ws => by simp [sumP]
  | u :: us, [] => by simp [sumP]
  | u :: us, w :: ws => by
    have := sum_cross S O us ws
    simp only [sumP, outP, inP]
    by_cases h : u.1 ∈ S <;> by_cases h2 : u.2.1 ∈ O <;> simp [h, h2] <;> omega
theorem sumP_eq {P : UN → Bool} {f : UN → Int} : ∀ {us : List UN} {ws : List Int}, us.length = ws.length → (∀ i < us.length, P (us.getD i nou) = true → ws.getD i 0 = f (us.getD i nou)) → sumP P us ws = sumU P f us
  | [], _, _, _ => by simp [sumP, sumU]
  | u :: us, [], h, _ => by simp at h
  | u :: us, w :: ws, hl, h => by
    have ih := sumP_eq (P := P) (f := f) (us := us) (ws := ws) (by simpa using hl) fun i hi => h (i + 1) (by simp; omega)
    have h0 := h 0 (by simp)
    simp only [sumP, sumU, ih]
    change P u = true → w = f u at h0
    by_cases c : P u = true
    · rw [if_pos c, if_pos c, h0 c]
    · rw [if_neg c, if_neg c]
theorem sumP_le {P : UN → Bool} {f : UN → Int} : ∀ {us : List UN} {ws : List Int}, us.length = ws.length → (∀ i < us.length, ws.getD i 0 ≤ f (us.getD i nou)) → sumP P us ws ≤ sumU P f us
  | [], _, _, _ => by simp [sumP, sumU]
  | u :: us, [], h, _ => by simp at h
  | u :: us, w :: ws, hl, h => by
    have ih := sumP_le (P := P) (f := f) (us := us) (ws := ws) (by simpa using hl) fun i hi => h (i + 1) (by simp; omega)
    have h0 := h 0 (by simp)
    simp only [sumP, sumU]
    change w ≤ f u at h0
    split <;> omega
theorem sumP_ge {P : UN → Bool} {f : UN → Int} : ∀ {us : List UN} {ws : List Int}, us.length = ws.length → (∀ i < us.length, f (us.getD i nou) ≤ ws.getD i 0) → sumU P f us ≤ sumP P us ws
  | [], _, _, _ => by simp [sumP, sumU]
  | u :: us, [], h, _ => by simp at h
  | u :: us, w :: ws, hl, h => by
    have ih := sumP_ge (P := P) (f := f) (us := us) (ws := ws) (by simpa using hl) fun i hi => h (i + 1) (by simp; omega)
    have h0 := h 0 (by simp)
    simp only [sumP, sumU]
    change f u ≤ w at h0
    split <;> omega
theorem grown_sub {us : List UN} {ws : List Int} {d0 some others : Dt} (h : Grown us ws d0 some others) : ∀ k ∈ ky d0, k ∈ ky some := by
  induction h with
  | start => exact fun k h => h
  | col h _ _ _ _ ih => exact ih
  | row h _ _ _ _ ih => exact fun k hk => by rw [ky_app]; exact List.mem_append_left _ (ih k hk)
def sumL (rows : List Int) (S : List Int) : Int := (S.map fun r => rows.getD r.toNat 0).sum
def hiU (u : UN) : Int := u.2.2.2
def loU (u : UN) : Int := u.2.2.1
def cutOK (over : Bool) (rows cols : List Int) (us : List UN) (S O : List Int) : Bool :=
  if over = true then decide (sumU (outP S O) hiU us - sumU (inP S O) loU us < sumL rows S - sumL cols O) else decide (sumU (inP S O) hiU us - sumU (outP S O) loU us < sumL cols O - sumL rows S)
theorem sumL_rlk (rows : List Int) (us : List UN) (ws : List Int) : ∀ S : List Int, sumL rows S = (S.map fun r => rlk rows us ws r).sum + (S.map fun r => sumP (fun u => decide (u.1 = r)) us ws).sum
  | [] => rfl
  | r :: S => by
    have := sumL_rlk rows us ws S
    unfold sumL rlk at *
    simp only [List.map_cons, List.sum_cons]
    omega
theorem sumL_clk (cols : List Int) (us : List UN) (ws : List Int) : ∀ S : List Int, sumL cols S = (S.map fun r => clk cols us ws r).sum + (S.map fun r => sumP (fun u => decide (u.2.1 = r)) us ws).sum
  | [] => rfl
  | r :: S => by
    have := sumL_clk cols us ws S
    unfold sumL clk at *
    simp only [List.map_cons, List.sum_cons]
    omega
theorem msum_nn {f : Int → Int} : ∀ {S : List Int}, (∀ k ∈ S, 0 ≤ f k) → 0 ≤ (S.map f).sum
  | [], _ => by simp
  | k :: S, h => by
    have := msum_nn (S := S) fun x hx => h x (List.mem_cons_of_mem _ hx)
    have := h k (List.mem_cons_self ..)
    rw [List.map_cons, List.sum_cons]
    omega
theorem msum_pos {f : Int → Int} : ∀ {S : List Int} {x : Int}, (∀ k ∈ S, 0 ≤ f k) → x ∈ S → 0 < f x → 0 < (S.map f).sum
  | k :: S, x, h, hx, hp => by
    have h1 := msum_nn (S := S) fun x hx => h x (List.mem_cons_of_mem _ hx)
    have h2 := h k (List.mem_cons_self ..)
    rw [List.map_cons, List.sum_cons]
    rcases List.mem_cons.mp hx with rfl | hx
    · omega
    · have := msum_pos (S := S) (fun x hx => h x (List.mem_cons_of_mem _ hx)) hx hp
      omega
theorem msum_z {f : Int → Int} : ∀ {S : List Int}, (∀ k ∈ S, f k = 0) → (S.map f).sum = 0
  | [], _ => by simp
  | k :: S, h => by
    rw [List.map_cons, List.sum_cons, h k (List.mem_cons_self ..), msum_z fun x hx => h x (List.mem_cons_of_mem _ hx)]
    rfl
theorem cut_diff (rows cols : List Int) (us : List UN) (ws : List Int) {S O : List Int} (nS : S.Nodup) (nO : O.Nodup) : sumL rows S - sumL cols O = (S.map fun r => rlk rows us ws r).sum - (O.map fun c => clk cols us ws c).sum + (sumP (outP S O) us ws - sumP (inP S O) us ws) := by
  have h1 := sumL_rlk rows us ws S
  have h2 := sumL_clk cols us ws O
  have h3 := sumP_mem (·.1) us ws S nS
  have h4 := sumP_mem (·.2.1) us ws O nO
  have h5 := sum_cross S O us ws
  omega
/-- at the end: a cut, where some row still lacks -/
theorem end_over {rows cols : List Int} {us : List UN} {ws : List Int} (ok : OkUs us rows.length cols.length) (g : Good rows cols us ws) (ho : openC rows cols us ws = []) {S O : List Int} (nS : S.Nodup) (nO : O.Nodup)
    (mS : ∀ k, k ∈ S ↔ k ∈ ky (spr rows us ws).1) (mO : ∀ k, k ∈ O ↔ k ∈ ky (spr rows us ws).2) (hs : (spr rows us ws).1 ≠ []) : cutOK true rows cols us S O = true := by
  have b := sprS_ok (ws := ws) ok rows.length
  have e := sprS_end (ws := ws) ok
  rw [e] at b
  change Bf us ws rows.length cols.length (roots rows us ws) [] (spr rows us ws).1 (spr rows us ws).2 at b
  unfold cutOK
  rw [if_pos rfl, cut_diff rows cols us ws nS nO]
  have hR : ∀ k ∈ S, 0 ≤ rlk rows us ws k := fun k hk => by
    have := b.rS k ((mS k).mp hk)
    exact g.r k this.1 this.2
  have hC : ∀ k ∈ O, clk cols us ws k = 0 := fun k hk => by
    have h1 := (mO k).mp hk
    have := b.rO k h1
    have h2 := g.c k this.1 this.2
    have h3 : ¬ 0 < clk cols us ws k := fun z => by
      have : k ∈ openC rows cols us ws := List.mem_filter.mpr ⟨h1, decide_eq_true z⟩
      rw [ho] at this
      cases this
    omega
  have hp : 0 < (S.map fun r => rlk rows us ws r).sum := by
    obtain ⟨k, hk⟩ : ∃ k, k ∈ ky (spr rows us ws).1 := by
      cases hd : (spr rows us ws).1 with
      | nil => exact absurd hd hs
      | cons a l => exact ⟨a.1, List.mem_cons_self ..⟩
    obtain ⟨L, x, w⟩ := (b.gr.ways roots_gt).1 k hk
    exact msum_pos hR ((mS x).mpr (grown_sub b.gr _ w.rt.1)) (roots_mem w.rt.1).2.2
  rw [msum_z hC]
  rw [sumP_eq (P := outP S O) (f := hiU) g.l fun i hi h => ?_, sumP_eq (P := inP S O) (f := loU) g.l fun i hi h => ?_]
  · exact decide_eq_true (by omega)
  · unfold inP at h
    simp only [Bool.and_eq_true, decide_eq_true_eq, Bool.not_eq_true', decide_eq_false_iff_not] at h
    have h1 := (g.b i hi).1
    have h2 : ¬ (us.getD i nou).2.2.1 < ws.getD i 0 := fun z => h.1 ((mS _).mpr (b.co i hi ((mO _).mp h.2) z))
    show ws.getD i 0 = (us.getD i nou).2.2.1
    omega
  · unfold outP at h
    simp only [Bool.and_eq_true, decide_eq_true_eq, Bool.not_eq_true', decide_eq_false_iff_not] at h
    have h1 := (g.b i hi).2
    have h2 : ¬ ws.getD i 0 < (us.getD i nou).2.2.2 := fun z => h.2 ((mO _).mpr (b.cl i hi ((mS _).mp h.1) (fun z => nomatch z) z))
    show ws.getD i 0 = (us.getD i nou).2.2.2
    omega
/-- weights that are right -/
structure WtsOK (rows cols : List Int) (us : List UN) (ws : List Int) : Prop where
  l : us.length = ws.length
  b : bdW us ws
  r : ∀ k, 0 ≤ k → k < (rows.length : Int) → rlk rows us ws k = 0
  c : ∀ k, 0 ≤ k → k < (cols.length : Int) → clk cols us ws k = 0
/-- where there are right weights no cut is right -/
theorem no_cut {rows cols : List Int} {us : List UN} {ws : List Int} (h : WtsOK rows cols us ws) {S O : List Int} (nS : S.Nodup) (nO : O.Nodup) (rS : ∀ k ∈ S, 0 ≤ k ∧ k < (rows.length : Int)) (rO : ∀ k ∈ O, 0 ≤ k ∧ k < (cols.length : Int)) (b : Bool) : cutOK b rows cols us S O = false := by
  have e := cut_diff rows cols us ws nS nO
  rw [msum_z fun k hk => h.r k (rS k hk).1 (rS k hk).2, msum_z fun k hk => h.c k (rO k hk).1 (rO k hk).2] at e
  have h1 := sumP_le (P := outP S O) (f := hiU) h.l fun i hi => (h.b i hi).2
  have h2 := sumP_le (P := inP S O) (f := hiU) h.l fun i hi => (h.b i hi).2
  have h3 := sumP_ge (P := outP S O) (f := loU) h.l fun i hi => (h.b i hi).1
  have h4 := sumP_ge (P := inP S O) (f := loU) h.l fun i hi => (h.b i hi).1
  unfold cutOK
  split
  · exact decide_eq_false (by omega)
  · exact decide_eq_false (by omega)
/-! ### all that is told -/
def rng (n : Nat) : List Int := (List.range n).map fun k : Nat => (k : Int)
theorem rng_mem {n : Nat} {k : Int} : k ∈ rng n ↔ 0 ≤ k ∧ k < (n : Int) := by
  unfold rng
  rw [List.mem_map]
  constructor
  · rintro ⟨j, hj, rfl⟩
    have := List.mem_range.mp hj
    omega
  · intro h
    exact ⟨k.toNat, List.mem_range.mpr (by omega), by omega⟩
theorem rng_lt (n : Nat) : (rng n).Pairwise (· < ·) := List.Pairwise.map _ (fun a b h => by omega) (List.pairwise_lt_range (n := n))
theorem lt_nd {l : List Int} (h : l.Pairwise (· < ·)) : l.Nodup := List.Pairwise.imp (fun h => by omega) h
/-- the keys of a dict, in order -/
def selL (n : Nat) (d : Dt) : List Int := (rng n).filter fun k => decide (k ∈ ky d)
theorem selL_lt (n : Nat) (d : Dt) : (selL n d).Pairwise (· < ·) := (rng_lt n).filter _
theorem selL_mem {n : Nat} {d : Dt} (h : ∀ k ∈ ky d, 0 ≤ k ∧ k < (n : Int)) (k : Int) : k ∈ selL n d ↔ k ∈ ky d := by
  unfold selL
  rw [List.mem_filter, rng_mem, decide_eq_true_eq]
  exact ⟨fun h => h.2, fun hk => ⟨h k hk, hk⟩⟩
theorem lt_uniq : ∀ {l m : List Int}, l.Pairwise (· < ·) → m.Pairwise (· < ·) → (∀ k, k ∈ l ↔ k ∈ m) → l = m
  | [], [], _, _, _ => rfl
  | [], b :: m, _, _, h => nomatch (h b).mpr (List.mem_cons_self ..)
  | a :: l, [], _, _, h => nomatch (h a).mp (List.mem_cons_self ..)
  | a :: l, b :: m, hl, hm, h => by
    obtain ⟨l1, l2⟩ := List.pairwise_cons.mp hl
    obtain ⟨m1, m2⟩ := List.pairwise_cons.mp hm
    have e : a = b := by
      rcases List.mem_cons.mp ((h a).mp (List.mem_cons_self ..)) with e | e
      · exact e
      · rcases List.mem_cons.mp ((h b).mpr (List.mem_cons_self ..)) with f | f
        · exact f.symm
        · have := l1 b f
          have := m1 a e
          omega
    subst e
    rw [lt_uniq l2 m2 fun k => ?_]
    constructor
    · intro hk
      rcases List.mem_cons.mp ((h k).mp (List.mem_cons_of_mem _ hk)) with e | e
      · have := l1 k hk; omega
      · exact e
    · intro hk
      rcases List.mem_cons.mp ((h k).mpr (List.mem_cons_of_mem _ hk)) with e | e
      · have := m1 k hk; omega
      · exact e
inductive Told
  | wts (ws : List Int)
  | cut (over : Bool) (S O : List Int)
def lows (us : List UN) : List Int := us.map fun u => u.2.2.1
noncomputable def ledF (rows cols : List Int) (us : List UN) : Told :=
  match (rng rows.length).find? fun r => decide (rlk rows us (lows us) r < 0) with
  | some r => .cut false [r] []
  | none => match (rng cols.length).find? fun c => decide (clk cols us (lows us) c < 0) with
    | some c => .cut true [] [c]
    | none =>
      if (spr rows us (leadF rows cols us (lows us))).1 ≠ [] then .cut true (selL rows.length (spr rows us (leadF rows cols us (lows us))).1) (selL cols.length (spr rows us (leadF rows cols us (lows us))).2)
      else if rows.sum < cols.sum then .cut false (rng rows.length) (rng cols.length) else .wts (leadF rows cols us (lows us))
/-- whether it is right what is told -/
def RightT (rows cols : List Int) (us : List UN) : Told → Prop
  | .wts ws => WtsOK rows cols us ws
  | .cut b S O => S.Pairwise (· < ·) ∧ O.Pairwise (· < ·) ∧ (∀ k ∈ S, 0 ≤ k ∧ k < (rows.length : Int)) ∧ (∀ k ∈ O, 0 ≤ k ∧ k < (cols.length : Int)) ∧ cutOK b rows cols us S O = true
theorem lows_at (us : List UN) {i : Nat} (hi : i < us.length) : (lows us).getD i 0 = (us.getD i nou).2.2.1 := by
  unfold lows
  rw [List.getD_eq_getElem?_getD, List.getElem?_map, List.getD_eq_getElem?_getD, List.getElem?_eq_getElem hi]
  rfl
theorem sumL_rng (rows : List Int) : sumL rows (rng rows.length) = rows.sum := by
  unfold sumL rng
  rw [List.map_map]
  congr 1
  refine List.ext_getElem (by simp) fun k h1 h2 => ?_
  simp at h1
  simp [h1]
theorem sumU_z {P : UN → Bool} {f : UN → Int} : ∀ {us : List UN}, (∀ i < us.length, P (us.getD i nou) = false) → sumU P f us = 0
  | [], _ => rfl
  | u :: us, h => by
    have h0 := h 0 (by simp)
    change P u = false at h0
    rw [sumU, h0, sumU_z fun i hi => h (i + 1) (by simp; omega)]
    rfl
theorem ledF_right {rows cols : List Int} {us : List UN} (ok : OkUs us rows.length cols.length) : RightT rows cols us (ledF rows cols us) := by
  have hlen : us.length = (lows us).length := by unfold lows; rw [List.length_map]
  unfold ledF
  split
  · rename_i r hr
    have h0 := List.find?_some hr
    have h1 : rlk rows us (lows us) r < 0 := of_decide_eq_true h0
    have h2 := rng_mem.mp (List.mem_of_find?_eq_some hr)
    refine ⟨List.pairwise_singleton .., .nil, fun k hk => by rw [List.mem_singleton.mp hk]; exact h2, (fun k hk => nomatch hk), ?_⟩
    unfold cutOK
    rw [if_neg (by decide), sumU_z (P := inP [r] []) fun i _ => by simp [inP]]
    refine decide_eq_true ?_
    have e := sumP_eq (P := outP [r] []) (f := loU) hlen fun i hi _ => lows_at us hi
    have e2 : sumP (outP [r] []) us (lows us) = sumP (fun u => decide (u.1 = r)) us (lows us) := by
      congr 1; funext u; simp [outP]
    show 0 - sumU (outP [r] []) loU us < 0 - (rows.getD r.toNat 0 + 0)
    unfold rlk at h1
    omega
  split
  · rename_i hn c hc
    have h0 := List.find?_some hc
    have h1 : clk cols us (lows us) c < 0 := of_decide_eq_true h0
    have h2 := rng_mem.mp (List.mem_of_find?_eq_some hc)
    refine ⟨.nil, List.pairwise_singleton .., (fun k hk => nomatch hk), fun k hk => by rw [List.mem_singleton.mp hk]; exact h2, ?_⟩
    unfold cutOK
    rw [if_pos rfl, sumU_z (P := outP [] [c]) fun i _ => by simp [outP]]
    refine decide_eq_true ?_
    have e := sumP_eq (P := inP [] [c]) (f := loU) hlen fun i hi _ => lows_at us hi
    have e2 : sumP (inP [] [c]) us (lows us) = sumP (fun u => decide (u.2.1 = c)) us (lows us) := by
      congr 1; funext u; simp [inP]
    show 0 - sumU (inP [] [c]) loU us < 0 - (cols.getD c.toNat 0 + 0)
    unfold clk at h1
    omega
  rename_i _ hr _ hc
  have g0 : Good rows cols us (lows us) := ⟨hlen, fun i hi => by rw [lows_at us hi]; exact ⟨Int.le_refl _, (ok i hi).2.2.2.1⟩, fun k k0 k1 => by
    have := List.find?_eq_none.mp hr k (rng_mem.mpr ⟨k0, k1⟩)
    simpa using this, fun k k0 k1 => by
    have := List.find?_eq_none.mp hc k (rng_mem.mpr ⟨k0, k1⟩)
    simpa using this⟩
  obtain ⟨⟨n, l⟩, g⟩ := leadF_ok ok g0
  have ho := l.ends
  generalize leadF rows cols us (lows us) = w at *
  have b := sprS_ok (ws := w) ok rows.length
  split
  · rename_i hs
    refine ⟨selL_lt .., selL_lt .., fun k hk => rng_mem.mp (List.mem_filter.mp hk).1, fun k hk => rng_mem.mp (List.mem_filter.mp hk).1, ?_⟩
    exact end_over ok g ho (lt_nd (selL_lt ..)) (lt_nd (selL_lt ..)) (fun k => selL_mem b.rS k) (fun k => selL_mem b.rO k) hs
  rename_i hs
  split
  · rename_i hlt
    refine ⟨rng_lt _, rng_lt _, fun k hk => rng_mem.mp hk, fun k hk => rng_mem.mp hk, ?_⟩
    unfold cutOK
    rw [if_neg (by decide), sumL_rng, sumL_rng, sumU_z (P := inP _ _) fun i hi => ?_, sumU_z (P := outP _ _) fun i hi => ?_]
    · exact decide_eq_true (by omega)
    · have := rng_mem.mpr (ok i hi).2.1
      simp only [outP, this]
      simp
    · have := rng_mem.mpr (ok i hi).1
      simp only [inP, this]
      simp
  · rename_i hlt
    have hs' : (spr rows us w).1 = [] := Classical.byContradiction hs
    have hr0 : ∀ k, 0 ≤ k → k < (rows.length : Int) → rlk rows us w k = 0 := fun k k0 k1 => by
      have h1 := g.r k k0 k1
      have h2 : ¬ 0 < rlk rows us w k := fun z => by
        have hk : k ∈ ky (roots rows us w) := by
          rw [ky_roots]
          exact List.mem_map.mpr ⟨k.toNat, List.mem_filter.mpr ⟨List.mem_range.mpr (by omega), decide_eq_true (by rw [show ((k.toNat : Nat) : Int) = k by omega]; exact z)⟩, by omega⟩
        have := grown_sub b.gr k hk
        change k ∈ ky (spr rows us w).1 at this
        rw [hs'] at this
        cases this
      omega
    have e := cut_diff rows cols us w (lt_nd (rng_lt rows.length)) (lt_nd (rng_lt cols.length))
    rw [sumL_rng, sumL_rng, msum_z (f := fun r => rlk rows us w r) fun k hk => hr0 k (rng_mem.mp hk).1 (rng_mem.mp hk).2] at e
    have z1 : sumP (outP (rng rows.length) (rng cols.length)) us w = 0 := by
      rw [sumP_eq (f := fun _ => 0) g.l fun i hi h => ?_]
      · exact sumU_z fun i hi => by
          have := rng_mem.mpr (ok i hi).2.1
          simp only [outP, this]
          simp
      · have := rng_mem.mpr (ok i hi).2.1
        simp only [outP, this] at h
        simp at h
    have z2 : sumP (inP (rng rows.length) (rng cols.length)) us w = 0 := by
      rw [sumP_eq (f := fun _ => 0) g.l fun i hi h => ?_]
      · exact sumU_z fun i hi => by
          have := rng_mem.mpr (ok i hi).1
          simp only [inP, this]
          simp
      · have := rng_mem.mpr (ok i hi).1
        simp only [inP, this] at h
        simp at h
    refine ⟨g.l, g.b, hr0, fun k k0 k1 => ?_⟩
    have hcn : ∀ k ∈ rng cols.length, 0 ≤ clk cols us w k := fun k hk => g.c k (rng_mem.mp hk).1 (rng_mem.mp hk).2
    refine Classical.byContradiction fun z => ?_
    have hp := msum_pos (f := fun c => clk cols us w c) hcn (rng_mem.mpr ⟨k0, k1⟩) (by have := g.c k k0 k1; omega)
    omega
def sp_is_whole (K : PySem.W.Frag) (mg : Str → Option Value) : Sp := fun vs H Q _ => match vs with | [v, .int lo, .int hi] => (∃ t, v = .int t ∧ Q (.bl (decide (lo ≤ t) && decide (t ≤ hi))) H) ∨ (NotW K H v ∧ Q (.bl false) H) | _ => False
theorem c_is_whole (T : Txt K mg) : Cal P w K mg base 1 "is_whole" (sp_is_whole K mg) := by
  refine T.d_is_whole.cal (k := 0) sc_is_whole (by intro vs H Q E h; unfold sp_is_whole at h; split at h <;> first | rfl | exact h.elim) fun f cdv A outer s H vs Q E hr h => ?_
  refine ⟨_, (pss_cons (ps_if (PW.pt (pw_or (pt_not (pt_val (pe_callB call_isi (by rfl) T.n_isinstance (by decide +kernel) (pa_cons (pv 0) (pa_cons (pe_ty "int" (by rfl) T.n_int (by decide +kernel)) pa_nil))))) (pw_or1 (pt_val (pe_callB call_isi (by rfl) T.n_isinstance (by decide +kernel) (pa_cons (pv 0) (pa_cons (pe_ty "bool" (by rfl) T.n_bool (by decide +kernel)) pa_nil)))))))
    (pss_one (ps_ret pe_bl))
    pss_nil)
    (pss_one (ps_ret (pe_chain op_leA op_leA (pv 1) (pv 0) (pv 2))))), ?_⟩
  try simp only [cxOf_K, cxOf_K', cxOf_mg, cxOf_mg']
  unfold sp_is_whole at h
  split at h
  case h_2 => exact h.elim
  rename_i v lo hi
  rw [show L2.start ["thing", "low", "high"] [v, V.int lo, V.int hi] = [some (v), some (V.int lo), some (V.int hi)] from rfl]
  rcases h with ⟨t, rfl, q⟩ | ⟨⟨b, rfl⟩ | ⟨ty, h1, h2⟩, q⟩
  · walk_at "sa"
    refine L_d (fun c1 => ?_) (fun c1 => ?_)
    · rw [decide_eq_true c1, Bool.true_and] at q
      walk_at "sts"
      exact q
    · rw [decide_eq_false c1, Bool.false_and] at q
      exact q
  · walk_at "sts"
    refine L_isi (.base (.bl b)) (b := true) (by decide +kernel) ?_
    walk_at "sts"
    refine L_isi (.base (.bl b)) (b := true) (by decide +kernel) ?_
    walk_at "sts"
    exact q
  · walk_at "sts"
    refine L_isi h1 h2 ?_
    walk_at "sts"
    exact q
theorem q_whole {H : Hp} {Q : VK} {E : XK} {t lo hi : Int} (q : Q (.bl (decide (lo ≤ t) && decide (t ≤ hi))) H) : sp_is_whole K mg [.int t, .int lo, .int hi] H Q E := .inl ⟨t, rfl, q⟩
theorem q_wholeT {H : Hp} {Q : VK} {E : XK} {t lo hi : Int} (h : lo ≤ t ∧ t ≤ hi) (q : Q (.bl true) H) : sp_is_whole K mg [.int t, .int lo, .int hi] H Q E := q_whole (by rw [decide_eq_true h.1, decide_eq_true h.2]; exact q)
theorem q_wholeF {H : Hp} {Q : VK} {E : XK} {t lo hi : Int} (h : ¬ (lo ≤ t ∧ t ≤ hi)) (q : Q (.bl false) H) : sp_is_whole K mg [.int t, .int lo, .int hi] H Q E := q_whole (by
  rw [show (decide (lo ≤ t) && decide (t ≤ hi)) = false by simp only [Bool.and_eq_false_iff, decide_eq_false_iff_not]; omega]; exact q)
theorem q_wholeN {H : Hp} {Q : VK} {E : XK} {v : V} {lo hi : Int} (h : NotW K H v) (q : Q (.bl false) H) : sp_is_whole K mg [v, .int lo, .int hi] H Q E := .inr ⟨h, q⟩
theorem q_wholeB {H : Hp} {Q : VK} {E : XK} {v : V} {lo hi : Int} (h : BadW K H v lo hi) (q : Q (.bl false) H) : sp_is_whole K mg [v, .int lo, .int hi] H Q E := by
  rcases h with h | ⟨t, rfl, h⟩
  · exact q_wholeN h q
  · exact q_wholeF h q
theorem q_wholeG {H : Hp} {Q : VK} {E : XK} {t lo hi : Int} (h : sp_is_whole K mg [.int t, .int lo, .int hi] H Q E) : sp_is_whole K mg [.int t, .int lo, .int hi] H Q E := h
local macro_rules | `(tactic| walk_at "op") => `(tactic| with_reducible (refine q_wholeG ?_; first | refine q_wholeT (by omega) ?_ | refine q_wholeF (by omega) ?_ | refine q_whole ?_))
/-! ### led.py read -/
/-- a thing judged as a whole number -/
def Jw (K : PySem.W.Frag) (H : Hp) (lo hi : Int) (x : V) (b : Bool) : Prop := (b = true ∧ ∃ t, x = .int t ∧ lo ≤ t ∧ t ≤ hi) ∨ (b = false ∧ BadW K H x lo hi)
theorem Jw.same {K : PySem.W.Frag} {H H' : Hp} {lo hi : Int} {x : V} {b : Bool} (h : Jw K H lo hi x b) (s : Same H H') : Jw K H' lo hi x b := h.imp id fun h => ⟨h.1, h.2.same s⟩
theorem q_wholeJ {H : Hp} {Q : VK} {E : XK} {v : V} {lo hi : Int} {b : Bool} (h : Jw K H lo hi v b) (q : Q (.bl b) H) : sp_is_whole K mg [v, .int lo, .int hi] H Q E := by
  rcases h with ⟨rfl, t, rfl, h⟩ | ⟨rfl, h⟩
  · exact q_wholeT h q
  · exact q_wholeB h q
theorem paired_at2 {α β : Type} {F : α → β → Prop} : ∀ {xs : List α} {ys : List β} {i : Nat} {x : α}, Paired F xs ys → xs[i]? = some x → ∃ y, ys[i]? = some y ∧ F x y
  | _ :: _, _, 0, x, .cons h _, e => by simp at e; subst e; exact ⟨_, rfl, h⟩
  | _ :: _, _, i + 1, x, .cons _ t, e => by
    obtain ⟨y, h1, h2⟩ := paired_at2 (i := i) t (by simpa using e)
    exact ⟨y, by simpa using h1, h2⟩
  | [], _, i, x, .nil, e => by simp at e
/-- a thing judged as a list of sums -/
def JS (K : PySem.W.Frag) (H : Hp) (v : V) (b : Bool) : Prop := (NotL K H v ∧ b = false) ∨ ∃ a xs bs, v = .ref a ∧ SqL K H a xs ∧ xs.length ≤ 1000 ∧ Paired (Jw K H 0 24000000) xs bs ∧ b = (!decide (6 < xs.length) && bs.all id)
def sp_are_sums (K : PySem.W.Frag) (mg : Str → Option Value) : Sp := fun vs H Q _ => match vs with | [v] => ∃ b, JS K H v b ∧ ∀ H', Same H H' → Q (.bl b) H' | _ => False
theorem q_are_sums {H : Hp} {Q : VK} {E : XK} {v : V} (q : ∃ b, JS K H v b ∧ ∀ H', Same H H' → Q (.bl b) H') : sp_are_sums K mg [v] H Q E := q
local macro_rules | `(tactic| walk_at "op") => `(tactic| with_reducible refine q_are_sums ?_)
theorem c_are_sums (T : Txt K mg) : Cal P w K mg base 2 "are_sums" (sp_are_sums K mg) := by
  refine T.d_are_sums.cal (k := 1) sc_are_sums (by intro vs H Q E h; unfold sp_are_sums at h; split at h <;> first | rfl | exact h.elim) fun f cdv A outer s H vs Q E hr h => ?_
  refine ⟨_, (pss_cons (ps_if (PW.pt (pw_or (pt_not (pt_val (pe_callB call_isi (by rfl) T.n_isinstance (by decide +kernel) (pa_cons (pv 0) (pa_cons (pe_ty "list" (by rfl) T.n_list (by decide +kernel)) pa_nil))))) (pw_or1 (pt_cmpR op_gt (pe_callB call_lenA (by rfl) T.n_len (by decide +kernel) (pa_cons (pv 0) pa_nil)) (pe_gc (by rfl) T.g_MOST_SUMS) (nomark _)))))
    (pss_one (ps_ret pe_bl))
    pss_nil)
    (pss_one (ps_ret (pe_callB (cr_all rfl) (by rfl) T.n_all (by decide +kernel) (pa_cons (pe_lc (own := [("thing", 1)]) (g := (gName 1)) (tt := tYes) (te := (tCall (sp_is_whole K mg) [] E0 (tCons (tVar 1) (tCons (tC (.int 0)) (tCons (tC (.int 24000000)) tNil))))) rfl sc_are_sums.nd (pi_list (pv 0)) (blkOk_by (N := ["things", "thing"]) (sc := defScope s_are_sums) (by decide +kernel)) (fun _ _ _ _ _ => by exact (pg_name (i := 1) sc_are_sums.nd rfl (.inl rfl))) (fun _ _ _ _ _ => pts_nil) (fun _ _ _ _ _ => by exact (pe_c (c_is_whole T) hr (by decide) (by rfl) (pa_cons (pv 1) (pa_cons pe_int (pa_cons (pe_gc (by rfl) T.g_MOST_SUM) pa_nil)))))) pa_nil))))), ?_⟩
  try simp only [cxOf_K, cxOf_K', cxOf_mg, cxOf_mg']
  unfold sp_are_sums at h
  split at h
  case h_2 => exact h.elim
  rename_i v
  rw [show L2.start ["things", "thing"] [v] = [some (v), none] from rfl]
  obtain ⟨b, ⟨⟨ty, h1, h2⟩, rfl⟩ | ⟨a, xs, bs, rfl, hL, hl, hP, rfl⟩, q⟩ := h
  · walk_at "sts"
    refine L_isi h1 h2 ?_
    walk_at "sts"
    exact q _ (.refl _)
  · walk_at "sts"
    refine L_isi (tyx_L hL) (b := true) (by decide +kernel) ?_
    walk_at "sts"
    refine L_lenL hL ?_
    walk_at "sts"
    by_cases hz : 6 < xs.length
    · refine L_dT (by omega) ?_
      walk_at "sts"
      rw [decide_eq_true hz] at q
      exact q _ (.refl _)
    · refine L_dF (by omega) ?_
      rw [decide_eq_false hz] at q
      walk_at "sts"
      refine L_rl hL ?_
      refine lc_fm walk_list (fun i => bs[i]?.map V.bl) (by omega) (fun H' e => e.seq hL) ?_ ?_
      · rintro i x1 H2 H' R R' hi sm ⟨rfl, hx1⟩ r1 r2
        obtain ⟨b, hb, hj⟩ := paired_at2 hP hx1
        walk_at "sts"
        refine ⟨rfl, ?_⟩
        walk_at "sts"
        refine q_wholeJ (hj.same sm) ?_
        exact r1 _ _ (by rw [hb]; rfl) (.refl _)
      · rw [Paired.length hP, fm_get]
        intro p H1 hp s1 e1
        walk_at "sts"
        exact ⟨_, bs, rfl, .of e1, q _ s1⟩
theorem fm_bind {α β : Type} (g : α → Option β) : ∀ (l : List α), (List.range l.length).filterMap (fun i => l[i]?.bind g) = l.filterMap g
  | [] => rfl
  | a :: l => by
    have ih := fm_bind g l
    rw [List.length_cons, List.range_succ_eq_map]
    simp only [List.filterMap_cons, List.getElem?_cons_zero, Option.bind_some, List.filterMap_map, Function.comp_def, List.getElem?_cons_succ]
    rw [ih]
/-- four ints -/
def T4 (K : PySem.W.Frag) (H : Hp) (v : V) (u : UN) : Prop := ∃ t, v = .ref t ∧ SqT K H t [.int u.1, .int u.2.1, .int u.2.2.1, .int u.2.2.2]
theorem T4.same {K : PySem.W.Frag} {H H' : Hp} {v : V} {u : UN} (h : T4 K H v u) (s : Same H H') : T4 K H' v u := let ⟨t, h1, h2⟩ := h; ⟨t, h1, s.seqT h2⟩
theorem T4.upd {K : PySem.W.Frag} {H : Hp} {v : V} {u : UN} {p : Addr} {us : List V} {o : HO} (hp : H p = some (.lst us)) (h : T4 K H v u) : T4 K (upd H p o) v u := let ⟨t, h1, h2⟩ := h; ⟨t, h1, sqT_upd hp h2⟩
theorem sqT_but {K : PySem.W.Frag} {H H' : Hp} {x a C dx : Addr} {fs : List (Str × V)} {xs : List V} (hx : H x = some (.ins C dx fs)) (k : ∀ b o, H b = some o → b ≠ x → H' b = some o) (h : SqT K H a xs) : SqT K H' a xs := by
  rcases h with (h | ⟨o', h⟩) | h
  · exact .inl (.inl (k _ _ h fun z => by rw [z, hx] at h; cases h))
  · exact .inl (.inr ⟨o', k _ _ h fun z => by rw [z, hx] at h; cases h⟩)
  · exact .inr h
/-- a Leading's fields -/
def leF (pr pc pu pw : Addr) : List (Str × V) := [("rows", .ref pr), ("columns", .ref pc), ("units", .ref pu), ("weights", .ref pw)]
/-- a Leading -/
structure Ld (K : PySem.W.Frag) (mg : Str → Option Value) (H : Hp) (x dx pr pc pu pw : Addr) (uv : List V) (rows cols : List Int) (us : List UN) (ws : List Int) : Prop where
  x : H x = some (.ins (cA mg "Leading") dx (leF pr pc pu pw))
  r : H pr = some (.lst (rows.map V.int))
  c : H pc = some (.lst (cols.map V.int))
  u : H pu = some (.lst uv)
  up : Paired (T4 K H) uv us
  w : H pw = some (.lst (ws.map V.int))
  ok : OkUs us rows.length cols.length
  l : us.length = ws.length
  l24 : us.length ≤ 24
  lr : rows.length ≤ 6
  lc : cols.length ≤ 6
theorem Ld.same {K : PySem.W.Frag} {mg : Str → Option Value} {H H' : Hp} {x dx pr pc pu pw : Addr} {uv : List V} {rows cols : List Int} {us : List UN} {ws : List Int} (h : Ld K mg H x dx pr pc pu pw uv rows cols us ws) (s : Same H H') : Ld K mg H' x dx pr pc pu pw uv rows cols us ws :=
  ⟨s _ _ h.x, s _ _ h.r, s _ _ h.c, s _ _ h.u, paired_imp2 (fun _ _ h => h.same s) h.up, s _ _ h.w, h.ok, h.l, h.l24, h.lr, h.lc⟩
def sp_Leading_row_lack (K : PySem.W.Frag) (mg : Str → Option Value) : Sp := fun vs H Q _ => match vs with | [.ref x, .int r] => ∃ dx pr pc pu pw uv rows cols us ws, Ld K mg H x dx pr pc pu pw uv rows cols us ws ∧ 0 ≤ r ∧ r < (rows.length : Int) ∧ ∀ H', Same H H' → Q (.int (rlk rows us ws r)) H' | _ => False
theorem q_Leading_row_lack {H : Hp} {Q : VK} {E : XK} {x : Addr} {r : Int} (q : ∃ dx pr pc pu pw uv rows cols us ws, Ld K mg H x dx pr pc pu pw uv rows cols us ws ∧ 0 ≤ r ∧ r < (rows.length : Int) ∧ ∀ H', Same H H' → Q (.int (rlk rows us ws r)) H') : sp_Leading_row_lack K mg [.ref x, .int r] H Q E := q
local macro_rules | `(tactic| walk_at "op") => `(tactic| with_reducible refine q_Leading_row_lack ?_)
theorem c_Leading_row_lack (T : Txt K mg) : Met P w K mg base 1 (cA mg "Leading") "row_lack" (sp_Leading_row_lack K mg) := by
  refine MethAt.met T.k_Leading T.d_Leading_row_lack (k := 0) sc_Leading_row_lack (by intro vs H Q E h; unfold sp_Leading_row_lack at h; split at h <;> first | rfl | exact h.elim) fun f cdv A outer s H vs Q E hr h => ?_
  refine ⟨_, (pss_one (ps_ret (pe_op op_sub (pe_ix ix_seq (pe_fld (pv 0) rfl) (pv 1) (fun _ _ => rfl)) (pe_callB (cr_sum rfl) (by rfl) T.n_sum (by decide +kernel) (pa_cons (pe_lc (own := [("unit", 2), ("much", 3)]) (g := (gTup K 2 (gCons (gName 2) (gCons (gName 3) gNil)))) (tt := (tTest (tOp (aEq K) (tOp (rIx K) (tVar 2) (tC (.int 0))) (tVar 1)))) (te := (tVar 3)) rfl sc_Leading_row_lack.nd (pi_zip (by rfl) T.n_zip (pa_cons (pe_fld (pv 0) rfl) (pa_cons (pe_fld (pv 0) rfl) pa_nil))) (blkOk_by (N := ["self", "row", "unit", "much"]) (sc := defScope s_Leading_row_lack) (by decide +kernel)) (fun _ _ _ _ _ => by exact (pg_tup rfl (pgs_cons (pg_name (i := 2) sc_Leading_row_lack.nd rfl (.inl rfl)) (pgs_cons (pg_name (i := 3) sc_Leading_row_lack.nd rfl (.inl rfl)) pgs_nil)))) (fun _ _ _ _ _ => by exact pts_one (pt_cmpR (op_eqA hr) (pe_ix ix_seq (pv 2) pe_int (fun _ _ => rfl)) (pv 1) (nomark _))) (fun _ _ _ _ _ => by exact (pv 3))) pa_nil))))), ?_⟩
  try simp only [cxOf_K, cxOf_K', cxOf_mg, cxOf_mg']
  unfold sp_Leading_row_lack at h
  split at h
  case h_2 => exact h.elim
  rename_i x r
  rw [show L2.start ["self", "row", "unit", "much"] [V.ref x, V.int r] = [some (V.ref x), some (V.int r), none, none] from rfl]
  obtain ⟨dx, pr, pc, pu, pw, uv, rows, cols, us, ws, hL, r0, r1, q⟩ := h
  have hul := Paired.length hL.up
  have hl := hL.l
  have h24 := hL.l24
  walk_at "sts"
  refine L_fldv hL.x T.k_Leading T.na_Leading_rows rfl ?_
  walk_at "sts"
  refine L_ixL (.of hL.r) (atI_ints r0 r1) ?_
  walk_at "sts"
  refine L_fldv hL.x T.k_Leading T.na_Leading_units rfl ?_
  walk_at "sts"
  refine L_fldv hL.x T.k_Leading T.na_Leading_weights rfl ?_
  walk_at "sts"
  refine L_rz (.of hL.u) (.of hL.w) ?_
  refine lc_fm (walk_zip (n := us.length) (by rw [List.length_map]; omega)) (fun i => ((us.zip ws)[i]?.bind fun p => if decide (p.1.1 = r) = true then some p.2 else none).map V.int) (by omega) (fun H' e => ⟨.of (e _ _ hL.u), .of (e _ _ hL.w)⟩) ?_ ?_
  · rintro i x1 H2 H' R R' hi sm ⟨T1, v0, w0, rfl, hT1, rfl, hv, hw⟩ r1 r2
    replace hv : uv[i]? = some v0 := hv
    replace hw : (ws.map V.int)[i]? = some w0 := hw
    obtain ⟨u, hu, t, rfl, ht⟩ := paired_at2 hL.up hv
    rw [List.getElem?_map] at hw
    obtain ⟨w, hw', rfl⟩ := Option.map_eq_some_iff.mp hw
    have hz : (us.zip ws)[i]? = some (u, w) := by rw [List.getElem?_zip_eq_some]; exact ⟨hu, hw'⟩
    refine L_gTup (.of upd_same) rfl ?_
    have s2 := same_upd (o := HO.tup [V.ref t, V.int w]) sm hT1
    walk_at "sts"
    refine ⟨rfl, ?_⟩
    walk_at "sts"
    refine L_ixT (s2.seqT ht) (atI_int (by decide) rfl) ?_
    walk_at "sts"
    refine L_b (fun c => ?_) (fun c => ?_)
    · walk_at "sts"
      exact r1 _ _ (by rw [hz]; show ((if decide (u.1 = r) = true then some w else none)).map V.int = _; rw [if_pos c]; rfl) (same_new hT1)
    · exact r2 _ (by rw [hz]; show ((if decide (u.1 = r) = true then some w else none)).map V.int = _; rw [if_neg (by rw [c]; decide)]; rfl) (same_new hT1)
  · rw [fm_int]
    intro p H1 hp s1 e1
    rw [show (List.range us.length).filterMap (fun i => (us.zip ws)[i]?.bind fun p => if decide (p.1.1 = r) = true then some p.2 else none) = (us.zip ws).filterMap (fun p => if decide (p.1.1 = r) = true then some p.2 else none) from by
      rw [← fm_bind _ (us.zip ws), List.length_zip, ← hl, Nat.min_self]] at e1
    walk_at "sts"
    refine L_sum (.of e1) ?_
    rw [sumP_fm (fun u => decide (u.1 = r))]
    walk_at "sts"
    exact q _ s1
def sp_Leading_column_lack (K : PySem.W.Frag) (mg : Str → Option Value) : Sp := fun vs H Q _ => match vs with | [.ref x, .int c] => ∃ dx pr pc pu pw uv rows cols us ws, Ld K mg H x dx pr pc pu pw uv rows cols us ws ∧ 0 ≤ c ∧ c < (cols.length : Int) ∧ ∀ H', Same H H' → Q (.int (clk cols us ws c)) H' | _ => False
theorem q_Leading_column_lack {H : Hp} {Q : VK} {E : XK} {x : Addr} {c : Int} (q : ∃ dx pr pc pu pw uv rows cols us ws, Ld K mg H x dx pr pc pu pw uv rows cols us ws ∧ 0 ≤ c ∧ c < (cols.length : Int) ∧ ∀ H', Same H H' → Q (.int (clk cols us ws c)) H') : sp_Leading_column_lack K mg [.ref x, .int c] H Q E := q
local macro_rules | `(tactic| walk_at "op") => `(tactic| with_reducible refine q_Leading_column_lack ?_)
theorem c_Leading_column_lack (T : Txt K mg) : Met P w K mg base 1 (cA mg "Leading") "column_lack" (sp_Leading_column_lack K mg) := by
  refine MethAt.met T.k_Leading T.d_Leading_column_lack (k := 0) sc_Leading_column_lack (by intro vs H Q E h; unfold sp_Leading_column_lack at h; split at h <;> first | rfl | exact h.elim) fun f cdv A outer s H vs Q E hr h => ?_
  refine ⟨_, (pss_one (ps_ret (pe_op op_sub (pe_ix ix_seq (pe_fld (pv 0) rfl) (pv 1) (fun _ _ => rfl)) (pe_callB (cr_sum rfl) (by rfl) T.n_sum (by decide +kernel) (pa_cons (pe_lc (own := [("unit", 2), ("much", 3)]) (g := (gTup K 2 (gCons (gName 2) (gCons (gName 3) gNil)))) (tt := (tTest (tOp (aEq K) (tOp (rIx K) (tVar 2) (tC (.int 1))) (tVar 1)))) (te := (tVar 3)) rfl sc_Leading_column_lack.nd (pi_zip (by rfl) T.n_zip (pa_cons (pe_fld (pv 0) rfl) (pa_cons (pe_fld (pv 0) rfl) pa_nil))) (blkOk_by (N := ["self", "column", "unit", "much"]) (sc := defScope s_Leading_column_lack) (by decide +kernel)) (fun _ _ _ _ _ => by exact (pg_tup rfl (pgs_cons (pg_name (i := 2) sc_Leading_column_lack.nd rfl (.inl rfl)) (pgs_cons (pg_name (i := 3) sc_Leading_column_lack.nd rfl (.inl rfl)) pgs_nil)))) (fun _ _ _ _ _ => by exact pts_one (pt_cmpR (op_eqA hr) (pe_ix ix_seq (pv 2) pe_int (fun _ _ => rfl)) (pv 1) (nomark _))) (fun _ _ _ _ _ => by exact (pv 3))) pa_nil))))), ?_⟩
  try simp only [cxOf_K, cxOf_K', cxOf_mg, cxOf_mg']
  unfold sp_Leading_column_lack at h
  split at h
  case h_2 => exact h.elim
  rename_i x c
  rw [show L2.start ["self", "column", "unit", "much"] [V.ref x, V.int c] = [some (V.ref x), some (V.int c), none, none] from rfl]
  obtain ⟨dx, pr, pc, pu, pw, uv, rows, cols, us, ws, hL, r0, r1, q⟩ := h
  have hul := Paired.length hL.up
  have hl := hL.l
  have h24 := hL.l24
  walk_at "sts"
  refine L_fldv hL.x T.k_Leading T.na_Leading_columns rfl ?_
  walk_at "sts"
  refine L_ixL (.of hL.c) (atI_ints r0 r1) ?_
  walk_at "sts"
  refine L_fldv hL.x T.k_Leading T.na_Leading_units rfl ?_
  walk_at "sts"
  refine L_fldv hL.x T.k_Leading T.na_Leading_weights rfl ?_
  walk_at "sts"
  refine L_rz (.of hL.u) (.of hL.w) ?_
  refine lc_fm (walk_zip (n := us.length) (by rw [List.length_map]; omega)) (fun i => ((us.zip ws)[i]?.bind fun p => if decide (p.1.2.1 = c) = true then some p.2 else none).map V.int) (by omega) (fun H' e => ⟨.of (e _ _ hL.u), .of (e _ _ hL.w)⟩) ?_ ?_
  · rintro i x1 H2 H' R R' hi sm ⟨T1, v0, w0, rfl, hT1, rfl, hv, hw⟩ r1 r2
    replace hv : uv[i]? = some v0 := hv
    replace hw : (ws.map V.int)[i]? = some w0 := hw
    obtain ⟨u, hu, t, rfl, ht⟩ := paired_at2 hL.up hv
    rw [List.getElem?_map] at hw
    obtain ⟨w, hw', rfl⟩ := Option.map_eq_some_iff.mp hw
    have hz : (us.zip ws)[i]? = some (u, w) := by rw [List.getElem?_zip_eq_some]; exact ⟨hu, hw'⟩
    refine L_gTup (.of upd_same) rfl ?_
    have s2 := same_upd (o := HO.tup [V.ref t, V.int w]) sm hT1
    walk_at "sts"
    refine ⟨rfl, ?_⟩
    walk_at "sts"
    refine L_ixT (s2.seqT ht) (atI_int (by decide) rfl) ?_
    walk_at "sts"
    refine L_b (fun e => ?_) (fun e => ?_)
    · walk_at "sts"
      exact r1 _ _ (by rw [hz]; show ((if decide (u.2.1 = c) = true then some w else none)).map V.int = _; rw [if_pos e]; rfl) (same_new hT1)
    · exact r2 _ (by rw [hz]; show ((if decide (u.2.1 = c) = true then some w else none)).map V.int = _; rw [if_neg (by rw [e]; decide)]; rfl) (same_new hT1)
  · rw [fm_int]
    intro p H1 hp s1 e1
    rw [show (List.range us.length).filterMap (fun i => (us.zip ws)[i]?.bind fun p => if decide (p.1.2.1 = c) = true then some p.2 else none) = (us.zip ws).filterMap (fun p => if decide (p.1.2.1 = c) = true then some p.2 else none) from by
      rw [← fm_bind _ (us.zip ws), List.length_zip, ← hl, Nat.min_self]] at e1
    walk_at "sts"
    refine L_sum (.of e1) ?_
    rw [sumP_fm (fun u => decide (u.2.1 = c))]
    walk_at "sts"
    exact q _ s1
def sp_Leading___init__ (K : PySem.W.Frag) (mg : Str → Option Value) : Sp := fun vs H Q _ => match vs with | [.ref x, .ref pr, .ref pc, .ref pu] => ∃ dx uv rows cols us, H x = some (.ins (cA mg "Leading") dx []) ∧ H pr = some (.lst (List.map V.int rows)) ∧ H pc = some (.lst (List.map V.int cols)) ∧ H pu = some (.lst uv) ∧ Paired (T4 K H) uv us ∧ us.length ≤ 24 ∧ ∀ pw H', H pw = none → (∀ b o, H b = some o → b ≠ x → H' b = some o) → H' x = some (.ins (cA mg "Leading") dx (leF pr pc pu pw)) → H' pw = some (.lst ((lows us).map V.int)) → Q .non H' | _ => False
theorem q_Leading___init__ {H : Hp} {Q : VK} {E : XK} {x : Addr} {pr : Addr} {pc : Addr} {pu : Addr} (q : ∃ dx uv rows cols us, H x = some (.ins (cA mg "Leading") dx []) ∧ H pr = some (.lst (List.map V.int rows)) ∧ H pc = some (.lst (List.map V.int cols)) ∧ H pu = some (.lst uv) ∧ Paired (T4 K H) uv us ∧ us.length ≤ 24 ∧ ∀ pw H', H pw = none → (∀ b o, H b = some o → b ≠ x → H' b = some o) → H' x = some (.ins (cA mg "Leading") dx (leF pr pc pu pw)) → H' pw = some (.lst ((lows us).map V.int)) → Q .non H') : sp_Leading___init__ K mg [.ref x, .ref pr, .ref pc, .ref pu] H Q E := q
local macro_rules | `(tactic| walk_at "op") => `(tactic| with_reducible refine q_Leading___init__ ?_)
theorem m_Leading (T : Txt K mg) : Mak P w K mg base 1 "Leading" (cA mg "Leading") (sp_Leading___init__ K mg) := by
  refine InitAt.mak T.m_Leading T.i_Leading (k := 0) sc_Leading___init__ (by intro vs H Q E h; unfold sp_Leading___init__ at h; split at h <;> first | rfl | exact h.elim) fun f cdv A outer s H vs Q E hr h => ?_
  refine ⟨_, (pss_cons (ps_fld (pv 0) (pv 1) rfl)
    (pss_cons (ps_fld (pv 0) (pv 2) rfl)
    (pss_cons (ps_fld (pv 0) (pv 3) rfl)
    (pss_one (ps_fld (pv 0) (pe_lc (own := [("unit", 4)]) (g := (gName 4)) (tt := tYes) (te := (tOp (rIx K) (tVar 4) (tC (.int 2)))) rfl sc_Leading___init__.nd (pi_list (pv 3)) (blkOk_by (N := ["self", "rows", "columns", "units", "unit"]) (sc := defScope s_Leading___init__) (by decide +kernel)) (fun _ _ _ _ _ => by exact (pg_name (i := 4) sc_Leading___init__.nd rfl (.inl rfl))) (fun _ _ _ _ _ => pts_nil) (fun _ _ _ _ _ => by exact (pe_ix ix_seq (pv 4) pe_int (fun _ _ => rfl)))) rfl))))), ?_⟩
  try simp only [cxOf_K, cxOf_K', cxOf_mg, cxOf_mg']
  unfold sp_Leading___init__ at h
  split at h
  case h_2 => exact h.elim
  rename_i x pr pc pu
  rw [show L2.start ["self", "rows", "columns", "units", "unit"] [V.ref x, V.ref pr, V.ref pc, V.ref pu] = [some (V.ref x), some (V.ref pr), some (V.ref pc), some (V.ref pu), none] from rfl]
  obtain ⟨dx, uv, rows, cols, us, hx, hr, hc, hu, hP, h24, q⟩ := h
  have hul := Paired.length hP
  walk_at "sa"
  refine L_sFldv hx T.k_Leading T.na_Leading_rows (by decide) ?_
  walk_at "sa"
  refine L_sFldv upd_same T.k_Leading T.na_Leading_columns (by show 1 < 1000; decide) ?_
  walk_at "sa"
  refine L_sFldv upd_same T.k_Leading T.na_Leading_units (by show 2 < 1000; decide) ?_
  walk_at "sa"
  generalize hg : upd (upd (upd H x _) x _) x _ = H3
  have hx3 : H3 x = some (.ins (cA mg "Leading") dx [("rows", .ref pr), ("columns", .ref pc), ("units", .ref pu)]) := upd_at hg
  have k3 : ∀ b o, H b = some o → b ≠ x → H3 b = some o := fun b o hb n => by rw [← hg, upd_ne n, upd_ne n, upd_ne n]; exact hb
  clear hg
  have ne : ∀ {p us}, H p = some (HO.lst us) → p ≠ x := fun h z => by rw [z, hx] at h; cases h
  have hu3 := k3 _ _ hu (ne hu)
  have hP3 : Paired (T4 K H3) uv us := paired_imp2 (fun v u ⟨t, h1, h2⟩ => ⟨t, h1, sqT_but hx k3 h2⟩) hP
  refine L_rl (.of hu3) ?_
  refine lc_fm walk_list (fun i => (us[i]?.map fun u => u.2.2.1).map V.int) (by omega) (fun H' e => .of (e _ _ hu3)) ?_ ?_
  · rintro i x1 H4 H4' R R' hi sm ⟨rfl, hx1⟩ r1 r2
    obtain ⟨u, hu', t, rfl, ht⟩ := paired_at2 hP3 hx1
    walk_at "sts"
    refine ⟨rfl, ?_⟩
    walk_at "sts"
    refine L_ixT (sm.seqT ht) (atI_int (by decide) rfl) ?_
    exact r1 _ _ (by rw [hu']; rfl) (.refl _)
  · rw [fm_int, hul, fm_get]
    intro p H5 hp s5 e5
    walk_at "sa"
    refine L_sFldv (s5 _ _ hx3) T.k_Leading T.na_Leading_weights (by show 3 < 1000; decide) ?_
    refine q p _ ?_ (fun b o hb n => by rw [upd_ne n]; exact s5 _ _ (k3 _ _ hb n)) upd_same ?_
    · cases h : H p with
      | none => rfl
      | some o =>
        by_cases n : p = x
        · rw [n, hx3] at hp; cases hp
        · rw [k3 _ _ h n] at hp; cases hp
    · rw [upd_ne fun z => by rw [z, hx3] at hp; cases hp]
      exact e5
theorem inV_ints (n : Int) : ∀ ns : List Int, inV (.int n) (ns.map V.int) = decide (n ∈ ns)
  | [] => by simp [inV]
  | k :: ns => by
    have ih := inV_ints n ns
    unfold inV at ih ⊢
    rw [List.map_cons, List.any_cons, ih]
    by_cases e : n = k
    · subst e
      simp [eqV]
    · have e' : ¬ k = n := fun z => e z.symm
      simp [eqV, e, e']
theorem flat_ints : ∀ ns : List Int, (ns.map V.int).all flatV = true
  | [] => rfl
  | _ :: ns => by rw [List.map_cons, List.all_cons, flat_ints ns]; rfl
theorem L_notInIs {K : PySem.W.Frag} {H : Hp} {Q : VK} {p : Addr} {z : Int} {ns : List Int} (h : SqL K H p (ns.map V.int)) (q : Q (.bl (!decide (z ∈ ns))) H) : aNotIn K (.int z) (.ref p) H Q := .inr ⟨p, _, rfl, .inl h, rfl, flat_ints _, by rw [if_pos rfl, inV_ints]; exact q⟩
theorem L_inIs {K : PySem.W.Frag} {H : Hp} {Q : VK} {p : Addr} {z : Int} {ns : List Int} (h : SqL K H p (ns.map V.int)) (q : Q (.bl (decide (z ∈ ns))) H) : aIn K (.int z) (.ref p) H Q := .inr ⟨p, _, rfl, .inl h, rfl, flat_ints _, by rw [if_neg (by decide), inV_ints]; exact q⟩
theorem Ld.but {K : PySem.W.Frag} {mg : Str → Option Value} {H H' : Hp} {x dx pr pc pu pw : Addr} {uv : List V} {rows cols : List Int} {us : List UN} {ws : List Int} {po : Addr} {kvs : List (Key × V)} (h : Ld K mg H x dx pr pc pu pw uv rows cols us ws) (ho : H po = some (.dK kvs)) (k : ∀ b o, H b = some o → b ≠ po → H' b = some o) : Ld K mg H' x dx pr pc pu pw uv rows cols us ws :=
  have f : ∀ {b o}, H b = some o → (o ≠ HO.dK kvs) → H' b = some o := fun e n => k _ _ e fun z => n (by rw [z, ho] at e; exact (Option.some.inj e).symm)
  ⟨f h.x (by simp), f h.r (by simp), f h.c (by simp), f h.u (by simp), paired_imp2 (fun _ _ ⟨t, h1, h2⟩ => ⟨t, h1, by
    rcases h2 with (h | ⟨o', h⟩) | h
    · exact .inl (.inl (f h (by simp)))
    · exact .inl (.inr ⟨o', f h (by simp)⟩)
    · exact .inr h⟩) h.up, f h.w (by simp), h.ok, h.l, h.l24, h.lr, h.lc⟩
/-- a dict of ints -/
def dk (d : Dt) : List (Key × V) := d.map fun p => ((Sum.inl p.1 : Key), V.int p.2)
theorem dk_val : ∀ (d : Dt) (k : Int), valV (dk d) (Sum.inl k : Key) = if k ∈ ky d then some (.int (gt d k)) else none
  | [], k => by rw [if_neg (fun h => nomatch h)]; rfl
  | (a, b) :: d, k => by
    have ih := dk_val d k
    show valV (((Sum.inl a : Key), V.int b) :: dk d) _ = _
    by_cases c : a = k
    · subst c
      rw [valV_pos rfl, if_pos (show a ∈ ky ((a, b) :: d) from List.mem_cons_self ..)]
      show _ = some (V.int (if a = a then b else _))
      rw [if_pos rfl]
    · rw [valV_neg (fun h => c (Sum.inl.inj h)), ih]
      show _ = if k ∈ a :: ky d then some (V.int (if a = k then b else gt d k)) else none
      rw [if_neg c]
      by_cases h : k ∈ ky d
      · rw [if_pos h, if_pos (List.mem_cons_of_mem _ h)]
      · rw [if_neg h, if_neg fun z => (List.mem_cons.mp z).elim (fun e => c e.symm) h]
theorem dk_put {d : Dt} {k v : Int} (h : k ∉ ky d) : putK (dk d) (Sum.inl k : Key) (.int v) = dk (d ++ [(k, v)]) := by
  unfold putK
  rw [if_neg]
  · unfold dk
    rw [List.map_append]
    rfl
  · rw [List.any_eq_true]
    rintro ⟨x, hx, e⟩
    obtain ⟨p, hp, rfl⟩ := List.mem_map.mp hx
    exact h (List.mem_map.mpr ⟨p, hp, Sum.inl.inj (of_decide_eq_true e)⟩)
theorem nxC_succ (us : List UN) (ws last : List Int) (d : Dt) (i : Nat) : nxC us ws last d (i + 1) = if (us.getD i nou).1 ∈ last ∧ (us.getD i nou).2.1 ∉ ky (nxC us ws last d i).2 ∧ ws.getD i 0 < (us.getD i nou).2.2.2 then ((nxC us ws last d i).1 ++ [(us.getD i nou).2.1], (nxC us ws last d i).2 ++ [((us.getD i nou).2.1, (i : Int))]) else nxC us ws last d i := by
  unfold nxC
  rw [nx]
  unfold nx1
  simp only [decide_eq_true_eq]
theorem nxR_succ (us : List UN) (ws last : List Int) (d : Dt) (i : Nat) : nxR us ws last d (i + 1) = if (us.getD i nou).2.1 ∈ last ∧ (us.getD i nou).1 ∉ ky (nxR us ws last d i).2 ∧ (us.getD i nou).2.2.1 < ws.getD i 0 then ((nxR us ws last d i).1 ++ [(us.getD i nou).1], (nxR us ws last d i).2 ++ [((us.getD i nou).1, (i : Int))]) else nxR us ws last d i := by
  unfold nxR
  rw [nx]
  unfold nx1
  simp only [decide_eq_true_eq]
def sp_Leading_next_columns (K : PySem.W.Frag) (mg : Str → Option Value) : Sp := fun vs H Q _ => match vs with | [.ref x, .ref pl, .ref po] => ∃ dx pr pc pu pw uv rows cols us ws last d, Ld K mg H x dx pr pc pu pw uv rows cols us ws ∧ H pl = some (.lst (List.map V.int last)) ∧ H po = some (.dK (dk d)) ∧ d.length ≤ 100 ∧ ∀ pf H', H pf = none → (∀ b o, H b = some o → b ≠ po → H' b = some o) → H' po = some (.dK (dk (nxC us ws last d us.length).2)) → H' pf = some (.lst ((nxC us ws last d us.length).1.map V.int)) → Q (.ref pf) H' | _ => False
theorem q_Leading_next_columns {H : Hp} {Q : VK} {E : XK} {x : Addr} {pl : Addr} {po : Addr} (q : ∃ dx pr pc pu pw uv rows cols us ws last d, Ld K mg H x dx pr pc pu pw uv rows cols us ws ∧ H pl = some (.lst (List.map V.int last)) ∧ H po = some (.dK (dk d)) ∧ d.length ≤ 100 ∧ ∀ pf H', H pf = none → (∀ b o, H b = some o → b ≠ po → H' b = some o) → H' po = some (.dK (dk (nxC us ws last d us.length).2)) → H' pf = some (.lst ((nxC us ws last d us.length).1.map V.int)) → Q (.ref pf) H') : sp_Leading_next_columns K mg [.ref x, .ref pl, .ref po] H Q E := q
local macro_rules | `(tactic| walk_at "op") => `(tactic| with_reducible refine q_Leading_next_columns ?_)
theorem c_Leading_next_columns (T : Txt K mg) : Met P w K mg base 1 (cA mg "Leading") "next_columns" (sp_Leading_next_columns K mg) := by
  refine MethAt.met T.k_Leading T.d_Leading_next_columns (k := 0) sc_Leading_next_columns (by intro vs H Q E h; unfold sp_Leading_next_columns at h; split at h <;> first | rfl | exact h.elim) fun f cdv A outer s H vs Q E hr h => ?_
  refine ⟨_, (pss_cons (ps_set (i := 3) sc_Leading_next_columns.nd rfl (.inl rfl) (pe_lst pa_nil))
    (pss_cons (ps_for PassesOwn.never rfl (pi_enum (by rfl) T.n_enumerate (pa_cons (pe_fld (pv 0) rfl) pa_nil)) (pg_tup rfl (pgs_cons (pg_name (i := 4) sc_Leading_next_columns.nd rfl (.inl rfl)) (pgs_cons (pg_tup rfl (pgs_cons (pg_name (i := 5) sc_Leading_next_columns.nd rfl (.inl rfl)) (pgs_cons (pg_name (i := 6) sc_Leading_next_columns.nd rfl (.inl rfl)) (pgs_cons (pg_name (i := 7) sc_Leading_next_columns.nd rfl (.inl rfl)) (pgs_cons (pg_name (i := 8) sc_Leading_next_columns.nd rfl (.inl rfl)) pgs_nil))))) pgs_nil)))
    (pss_one (ps_if (PW.pt (pw_and (pt_cmpR op_inA (pv 5) (pv 1) (by rfl)) (pw_and (pt_cmp (pc_dnotin (hu_of hr) (pv 6) (pv 2)) (by rfl)) (pw_and1 (pt_cmpR op_ltA (pe_ix ix_seq (pe_fld (pv 0) rfl) (pv 4) (fun _ _ => rfl)) (pv 8) (nomark _))))))
    (pss_cons (ps_dput (hu_of hr) (pv 2) (pv 6) (pv 4) rfl)
    (pss_one (ps_expr (pe_bm PySem.F.plainAttrs_list PySem.F.slot_list_append PySem.F.type_list_append mt_append (pv 3) (pa_cons (pv 6) pa_nil)))))
    pss_nil)))
    (pss_one (ps_ret (pv 3))))), ?_⟩
  try simp only [cxOf_K, cxOf_K', cxOf_mg, cxOf_mg']
  unfold sp_Leading_next_columns at h
  split at h
  case h_2 => exact h.elim
  rename_i x pl po
  rw [show L2.start ["self", "last", "others", "found", "at", "row", "column", "low", "high"] [V.ref x, V.ref pl, V.ref po] = [some (V.ref x), some (V.ref pl), some (V.ref po), none, none, none, none, none, none] from rfl]
  obtain ⟨dx, pr, pc, pu, pw, uv, rows, cols, us, ws, last, d, hL, hl, ho, hd, q⟩ := h
  have hul := Paired.length hL.up
  have hwl := hL.l
  have h24 := hL.l24
  walk_at "sts"
  walk_at "nw"
  rename_i pf hpf H1 s1 e1
  have hL1 := hL.same s1
  walk_at "sts"
  refine L_fldv hL1.x T.k_Leading T.na_Leading_units rfl ?_
  walk_at "sts"
  refine L_re (.of hL1.u) ?_
  refine f_it walk_enum (fun i σ' H' => ∃ (v4 v5 v6 v7 v8 : Option V), σ' = [some (.ref x), some (.ref pl), some (.ref po), some (.ref pf), v4, v5, v6, v7, v8] ∧ (∀ b o, H b = some o → b ≠ po → H' b = some o) ∧ H' po = some (.dK (dk (nxC us ws last d i).2)) ∧ H' pf = some (.lst ((nxC us ws last d i).1.map V.int))) ⟨_, _, _, _, _, rfl, fun b o hb _ => s1 _ _ hb, s1 _ _ ho, e1⟩ (fun _ _ _ _ ⟨_, _, _, _, _, _, k, _⟩ => .of (hL.but ho k).u) ?_ ?_
  · rintro i x1 σ' H2 H2' hi ⟨v4, v5, v6, v7, v8, rfl, k2, e2o, e2f⟩ ⟨T1, k0, t0, rfl, hT1, rfl, hk, hx1⟩
    cases hk
    replace hx1 : uv[i]? = some t0 := hx1
    have sT := same_new (o := HO.tup [V.int (i : Int), t0]) hT1
    have hL2 := (hL.but ho k2).same sT
    have e2o' := sT _ _ e2o
    have e2f' := sT _ _ e2f
    have hl2 := sT _ _ (k2 _ _ hl (fun z => by rw [z, ho] at hl; cases hl))
    have k2' : ∀ b o, H b = some o → b ≠ po → (upd H2 T1 (HO.tup [V.int (i : Int), t0])) b = some o := fun b o hb n => sT _ _ (k2 _ _ hb n)
    obtain ⟨u, hu, t, rfl, ht⟩ := paired_at2 hL2.up hx1
    refine L_gTup (.of upd_same) rfl ?_
    generalize upd H2 T1 (HO.tup [V.int (i : Int), V.ref t]) = H3 at *
    walk_at "sts"
    refine L_gTup ht rfl ?_
    walk_at "sts"
    have hdu : us.getD i nou = u := by rw [List.getD_eq_getElem?_getD, hu]; rfl
    have hiu : i < us.length := (List.getElem?_eq_some_iff.mp hu).1
    have fin0 : ∀ H4, Same H3 H4 → ¬ (u.1 ∈ last ∧ u.2.1 ∉ ky (nxC us ws last d i).2 ∧ ws.getD i 0 < u.2.2.2) → ∃ (v4 v5 v6 v7 v8 : Option V), [some (V.ref x), some (.ref pl), some (.ref po), some (.ref pf), some (.int (i : Int)), some (.int u.1), some (.int u.2.1), some (.int u.2.2.1), some (.int u.2.2.2)] = [some (.ref x), some (.ref pl), some (.ref po), some (.ref pf), v4, v5, v6, v7, v8] ∧ (∀ b o, H b = some o → b ≠ po → H4 b = some o) ∧ H4 po = some (.dK (dk (nxC us ws last d (i + 1)).2)) ∧ H4 pf = some (.lst ((nxC us ws last d (i + 1)).1.map V.int)) := fun H4 s4 c => by
      have e : nxC us ws last d (i + 1) = nxC us ws last d i := by rw [nxC_succ, hdu, if_neg c]
      rw [e]
      exact ⟨_, _, _, _, _, rfl, fun b o hb n => s4 _ _ (k2' _ _ hb n), s4 _ _ e2o', s4 _ _ e2f'⟩
    refine L_inIs (.of hl2) ?_
    walk_at "sts"
    refine L_d (fun c1 => ?_) (fun c1 => ?_)
    · walk_at "sts"
      refine L_dinv (k := Sum.inl u.2.1) rfl e2o' ?_
      rw [dk_val]
      by_cases c2 : u.2.1 ∈ ky (nxC us ws last d i).2
      · rw [if_pos c2, Option.isSome_some, Bool.not_true]
        walk_at "sts"
        exact fin0 _ (.refl _) fun z => z.2.1 c2
      rw [if_neg c2, Option.isSome_none, Bool.not_false]
      walk_at "sts"
      refine L_fldv hL2.x T.k_Leading T.na_Leading_weights rfl ?_
      walk_at "sts"
      refine L_ixL (.of hL2.w) (atI_ints (by omega) (by omega)) ?_
      rw [Int.toNat_natCast]
      walk_at "sts"
      refine L_d (fun c3 => ?_) (fun c3 => ?_)
      · have e : nxC us ws last d (i + 1) = ((nxC us ws last d i).1 ++ [u.2.1], (nxC us ws last d i).2 ++ [(u.2.1, (i : Int))]) := by rw [nxC_succ, hdu, if_pos ⟨c1, c2, c3⟩]
        obtain ⟨le1, le2, _⟩ := nx_le us ws (·.1) (·.2.1) (fun u w => decide (w < u.2.2.2)) last d i
        change (nxC us ws last d i).1.length ≤ i at le1
        change (nxC us ws last d i).2.length = d.length + (nxC us ws last d i).1.length at le2
        walk_at "sts"
        refine L_dputv (k := Sum.inl u.2.1) rfl e2o' (by unfold dk; rw [List.length_map]; omega) ?_
        rw [dk_put c2]
        have npf : pf ≠ po := fun z => by rw [z, e2o'] at e2f'; cases e2f'
        have e2f3 : (upd H3 po (HO.dK (dk ((nxC us ws last d i).2 ++ [(u.2.1, (i : Int))])))) pf = _ := (upd_ne npf).trans e2f'
        walk_at "sts"
        refine L_tyL (.of e2f3) ?_
        walk_at "sts"
        refine L_app e2f3 (sz_lt (by rw [List.length_map]; omega)) ?_
        refine ⟨_, _, _, _, _, rfl, fun b o hb n => ?_, ?_, ?_⟩
        · have hbf : b ≠ pf := fun z => by rw [z, hpf] at hb; cases hb
          rw [upd_ne hbf, upd_ne n]
          exact k2' _ _ hb n
        · rw [upd_ne (Ne.symm npf), upd_same, e]
        · rw [upd_same, e, List.map_append]
          rfl
      · walk_at "sts"
        exact fin0 _ (.refl _) fun z => c3 z.2.2
    · walk_at "sts"
      exact fin0 _ (.refl _) fun z => c1 z.1
  rintro σ' H2 ⟨v4, v5, v6, v7, v8, rfl, k2, e2o, e2f⟩
  rw [hul] at e2o e2f
  walk_at "sts"
  exact q pf H2 hpf k2 e2o e2f
def sp_Leading_next_rows (K : PySem.W.Frag) (mg : Str → Option Value) : Sp := fun vs H Q _ => match vs with | [.ref x, .ref pl, .ref po] => ∃ dx pr pc pu pw uv rows cols us ws last d, Ld K mg H x dx pr pc pu pw uv rows cols us ws ∧ H pl = some (.lst (List.map V.int last)) ∧ H po = some (.dK (dk d)) ∧ d.length ≤ 100 ∧ ∀ pf H', H pf = none → (∀ b o, H b = some o → b ≠ po → H' b = some o) → H' po = some (.dK (dk (nxR us ws last d us.length).2)) → H' pf = some (.lst ((nxR us ws last d us.length).1.map V.int)) → Q (.ref pf) H' | _ => False
theorem q_Leading_next_rows {H : Hp} {Q : VK} {E : XK} {x : Addr} {pl : Addr} {po : Addr} (q : ∃ dx pr pc pu pw uv rows cols us ws last d, Ld K mg H x dx pr pc pu pw uv rows cols us ws ∧ H pl = some (.lst (List.map V.int last)) ∧ H po = some (.dK (dk d)) ∧ d.length ≤ 100 ∧ ∀ pf H', H pf = none → (∀ b o, H b = some o → b ≠ po → H' b = some o) → H' po = some (.dK (dk (nxR us ws last d us.length).2)) → H' pf = some (.lst ((nxR us ws last d us.length).1.map V.int)) → Q (.ref pf) H') : sp_Leading_next_rows K mg [.ref x, .ref pl, .ref po] H Q E := q
local macro_rules | `(tactic| walk_at "op") => `(tactic| with_reducible refine q_Leading_next_rows ?_)
theorem c_Leading_next_rows (T : Txt K mg) : Met P w K mg base 1 (cA mg "Leading") "next_rows" (sp_Leading_next_rows K mg) := by
  refine MethAt.met T.k_Leading T.d_Leading_next_rows (k := 0) sc_Leading_next_rows (by intro vs H Q E h; unfold sp_Leading_next_rows at h; split at h <;> first | rfl | exact h.elim) fun f cdv A outer s H vs Q E hr h => ?_
  refine ⟨_, (pss_cons (ps_set (i := 3) sc_Leading_next_rows.nd rfl (.inl rfl) (pe_lst pa_nil))
    (pss_cons (ps_for PassesOwn.never rfl (pi_enum (by rfl) T.n_enumerate (pa_cons (pe_fld (pv 0) rfl) pa_nil)) (pg_tup rfl (pgs_cons (pg_name (i := 4) sc_Leading_next_rows.nd rfl (.inl rfl)) (pgs_cons (pg_tup rfl (pgs_cons (pg_name (i := 5) sc_Leading_next_rows.nd rfl (.inl rfl)) (pgs_cons (pg_name (i := 6) sc_Leading_next_rows.nd rfl (.inl rfl)) (pgs_cons (pg_name (i := 7) sc_Leading_next_rows.nd rfl (.inl rfl)) (pgs_cons (pg_name (i := 8) sc_Leading_next_rows.nd rfl (.inl rfl)) pgs_nil))))) pgs_nil)))
    (pss_one (ps_if (PW.pt (pw_and (pt_cmpR op_inA (pv 6) (pv 1) (by rfl)) (pw_and (pt_cmp (pc_dnotin (hu_of hr) (pv 5) (pv 2)) (by rfl)) (pw_and1 (pt_cmpR op_gt (pe_ix ix_seq (pe_fld (pv 0) rfl) (pv 4) (fun _ _ => rfl)) (pv 7) (nomark _))))))
    (pss_cons (ps_dput (hu_of hr) (pv 2) (pv 5) (pv 4) rfl)
    (pss_one (ps_expr (pe_bm PySem.F.plainAttrs_list PySem.F.slot_list_append PySem.F.type_list_append mt_append (pv 3) (pa_cons (pv 5) pa_nil)))))
    pss_nil)))
    (pss_one (ps_ret (pv 3))))), ?_⟩
  try simp only [cxOf_K, cxOf_K', cxOf_mg, cxOf_mg']
  unfold sp_Leading_next_rows at h
  split at h
  case h_2 => exact h.elim
  rename_i x pl po
  rw [show L2.start ["self", "last", "some", "found", "at", "row", "column", "low", "high"] [V.ref x, V.ref pl, V.ref po] = [some (V.ref x), some (V.ref pl), some (V.ref po), none, none, none, none, none, none] from rfl]
  obtain ⟨dx, pr, pc, pu, pw, uv, rows, cols, us, ws, last, d, hL, hl, ho, hd, q⟩ := h
  have hul := Paired.length hL.up
  have hwl := hL.l
  have h24 := hL.l24
  walk_at "sts"
  walk_at "nw"
  rename_i pf hpf H1 s1 e1
  have hL1 := hL.same s1
  walk_at "sts"
  refine L_fldv hL1.x T.k_Leading T.na_Leading_units rfl ?_
  walk_at "sts"
  refine L_re (.of hL1.u) ?_
  refine f_it walk_enum (fun i σ' H' => ∃ (v4 v5 v6 v7 v8 : Option V), σ' = [some (.ref x), some (.ref pl), some (.ref po), some (.ref pf), v4, v5, v6, v7, v8] ∧ (∀ b o, H b = some o → b ≠ po → H' b = some o) ∧ H' po = some (.dK (dk (nxR us ws last d i).2)) ∧ H' pf = some (.lst ((nxR us ws last d i).1.map V.int))) ⟨_, _, _, _, _, rfl, fun b o hb _ => s1 _ _ hb, s1 _ _ ho, e1⟩ (fun _ _ _ _ ⟨_, _, _, _, _, _, k, _⟩ => .of (hL.but ho k).u) ?_ ?_
  · rintro i x1 σ' H2 H2' hi ⟨v4, v5, v6, v7, v8, rfl, k2, e2o, e2f⟩ ⟨T1, k0, t0, rfl, hT1, rfl, hk, hx1⟩
    cases hk
    replace hx1 : uv[i]? = some t0 := hx1
    have sT := same_new (o := HO.tup [V.int (i : Int), t0]) hT1
    have hL2 := (hL.but ho k2).same sT
    have e2o' := sT _ _ e2o
    have e2f' := sT _ _ e2f
    have hl2 := sT _ _ (k2 _ _ hl (fun z => by rw [z, ho] at hl; cases hl))
    have k2' : ∀ b o, H b = some o → b ≠ po → (upd H2 T1 (HO.tup [V.int (i : Int), t0])) b = some o := fun b o hb n => sT _ _ (k2 _ _ hb n)
    obtain ⟨u, hu, t, rfl, ht⟩ := paired_at2 hL2.up hx1
    refine L_gTup (.of upd_same) rfl ?_
    generalize upd H2 T1 (HO.tup [V.int (i : Int), V.ref t]) = H3 at *
    walk_at "sts"
    refine L_gTup ht rfl ?_
    walk_at "sts"
    have hdu : us.getD i nou = u := by rw [List.getD_eq_getElem?_getD, hu]; rfl
    have hiu : i < us.length := (List.getElem?_eq_some_iff.mp hu).1
    have fin0 : ∀ H4, Same H3 H4 → ¬ (u.2.1 ∈ last ∧ u.1 ∉ ky (nxR us ws last d i).2 ∧ u.2.2.1 < ws.getD i 0) → ∃ (v4 v5 v6 v7 v8 : Option V), [some (V.ref x), some (.ref pl), some (.ref po), some (.ref pf), some (.int (i : Int)), some (.int u.1), some (.int u.2.1), some (.int u.2.2.1), some (.int u.2.2.2)] = [some (.ref x), some (.ref pl), some (.ref po), some (.ref pf), v4, v5, v6, v7, v8] ∧ (∀ b o, H b = some o → b ≠ po → H4 b = some o) ∧ H4 po = some (.dK (dk (nxR us ws last d (i + 1)).2)) ∧ H4 pf = some (.lst ((nxR us ws last d (i + 1)).1.map V.int)) := fun H4 s4 c => by
      have e : nxR us ws last d (i + 1) = nxR us ws last d i := by rw [nxR_succ, hdu, if_neg c]
      rw [e]
      exact ⟨_, _, _, _, _, rfl, fun b o hb n => s4 _ _ (k2' _ _ hb n), s4 _ _ e2o', s4 _ _ e2f'⟩
    refine L_inIs (.of hl2) ?_
    walk_at "sts"
    refine L_d (fun c1 => ?_) (fun c1 => ?_)
    · walk_at "sts"
      refine L_dinv (k := Sum.inl u.1) rfl e2o' ?_
      rw [dk_val]
      by_cases c2 : u.1 ∈ ky (nxR us ws last d i).2
      · rw [if_pos c2, Option.isSome_some, Bool.not_true]
        walk_at "sts"
        exact fin0 _ (.refl _) fun z => z.2.1 c2
      rw [if_neg c2, Option.isSome_none, Bool.not_false]
      walk_at "sts"
      refine L_fldv hL2.x T.k_Leading T.na_Leading_weights rfl ?_
      walk_at "sts"
      refine L_ixL (.of hL2.w) (atI_ints (by omega) (by omega)) ?_
      rw [Int.toNat_natCast]
      walk_at "sts"
      refine L_d (fun c3 => ?_) (fun c3 => ?_)
      · have e : nxR us ws last d (i + 1) = ((nxR us ws last d i).1 ++ [u.1], (nxR us ws last d i).2 ++ [(u.1, (i : Int))]) := by rw [nxR_succ, hdu, if_pos ⟨c1, c2, c3⟩]
        obtain ⟨le1, le2, _⟩ := nx_le us ws (·.2.1) (·.1) (fun u w => decide (u.2.2.1 < w)) last d i
        change (nxR us ws last d i).1.length ≤ i at le1
        change (nxR us ws last d i).2.length = d.length + (nxR us ws last d i).1.length at le2
        walk_at "sts"
        refine L_dputv (k := Sum.inl u.1) rfl e2o' (by unfold dk; rw [List.length_map]; omega) ?_
        rw [dk_put c2]
        have npf : pf ≠ po := fun z => by rw [z, e2o'] at e2f'; cases e2f'
        have e2f3 : (upd H3 po (HO.dK (dk ((nxR us ws last d i).2 ++ [(u.1, (i : Int))])))) pf = _ := (upd_ne npf).trans e2f'
        walk_at "sts"
        refine L_tyL (.of e2f3) ?_
        walk_at "sts"
        refine L_app e2f3 (sz_lt (by rw [List.length_map]; omega)) ?_
        refine ⟨_, _, _, _, _, rfl, fun b o hb n => ?_, ?_, ?_⟩
        · have hbf : b ≠ pf := fun z => by rw [z, hpf] at hb; cases hb
          rw [upd_ne hbf, upd_ne n]
          exact k2' _ _ hb n
        · rw [upd_ne (Ne.symm npf), upd_same, e]
        · rw [upd_same, e, List.map_append]
          rfl
      · walk_at "sts"
        exact fin0 _ (.refl _) fun z => c3 z.2.2
    · walk_at "sts"
      exact fin0 _ (.refl _) fun z => c1 z.1
  rintro σ' H2 ⟨v4, v5, v6, v7, v8, rfl, k2, e2o, e2f⟩
  rw [hul] at e2o e2f
  walk_at "sts"
  exact q pf H2 hpf k2 e2o e2f
/-- the first rows that lack -/
def rootsN (rows : List Int) (us : List UN) (ws : List Int) (i : Nat) : Dt := ((List.range i).filter fun r : Nat => decide (0 < rlk rows us ws (r : Int))).map fun r : Nat => ((r : Int), -1)
theorem rootsN_new {rows : List Int} {us : List UN} {ws : List Int} {i : Nat} : (i : Int) ∉ ky (rootsN rows us ws i) := fun h => by
  unfold ky rootsN at h
  rw [List.map_map] at h
  obtain ⟨r, hr, e⟩ := List.mem_map.mp h
  have := List.mem_range.mp (List.mem_filter.mp hr).1
  change (r : Int) = i at e
  omega
theorem rootsN_succ (rows : List Int) (us : List UN) (ws : List Int) (i : Nat) : rootsN rows us ws (i + 1) = if 0 < rlk rows us ws (i : Int) then rootsN rows us ws i ++ [((i : Int), -1)] else rootsN rows us ws i := by
  unfold rootsN
  rw [List.range_succ, List.filter_append, List.map_append, List.filter_cons, List.filter_nil]
  split
  · rename_i h
    rw [if_pos (of_decide_eq_true h)]
    rfl
  · rename_i h
    rw [if_neg fun z => h (decide_eq_true z)]
    exact List.append_nil _
def sp_Leading_spread_out (K : PySem.W.Frag) (mg : Str → Option Value) : Sp := fun vs H Q _ => match vs with | [.ref x] => ∃ dx pr pc pu pw uv rows cols us ws, Ld K mg H x dx pr pc pu pw uv rows cols us ws ∧ ∀ ps po pt H', Same H H' → H ps = none → H po = none → ps ≠ po → H' ps = some (.dK (dk (spr rows us ws).1)) → H' po = some (.dK (dk (spr rows us ws).2)) → H' pt = some (.tup [.ref ps, .ref po]) → Q (.ref pt) H' | _ => False
theorem q_Leading_spread_out {H : Hp} {Q : VK} {E : XK} {x : Addr} (q : ∃ dx pr pc pu pw uv rows cols us ws, Ld K mg H x dx pr pc pu pw uv rows cols us ws ∧ ∀ ps po pt H', Same H H' → H ps = none → H po = none → ps ≠ po → H' ps = some (.dK (dk (spr rows us ws).1)) → H' po = some (.dK (dk (spr rows us ws).2)) → H' pt = some (.tup [.ref ps, .ref po]) → Q (.ref pt) H') : sp_Leading_spread_out K mg [.ref x] H Q E := q
local macro_rules | `(tactic| walk_at "op") => `(tactic| with_reducible refine q_Leading_spread_out ?_)
theorem c_Leading_spread_out (T : Txt K mg) : Met P w K mg base 2 (cA mg "Leading") "spread_out" (sp_Leading_spread_out K mg) := by
  refine MethAt.met T.k_Leading T.d_Leading_spread_out (k := 1) sc_Leading_spread_out (by intro vs H Q E h; unfold sp_Leading_spread_out at h; split at h <;> first | rfl | exact h.elim) fun f cdv A outer s H vs Q E hr h => ?_
  refine ⟨_, (pss_cons (ps_set (i := 1) sc_Leading_spread_out.nd rfl (.inl rfl) pe_dnewK)
    (pss_cons (ps_set (i := 2) sc_Leading_spread_out.nd rfl (.inl rfl) pe_dnewK)
    (pss_cons (ps_for PassesOwn.never rfl (pi_range1 (by rfl) T.n_range (pa_cons (pe_callB call_lenA (by rfl) T.n_len (by decide +kernel) (pa_cons (pe_fld (pv 0) rfl) pa_nil)) pa_nil)) (pg_name (i := 3) sc_Leading_spread_out.nd rfl (.inl rfl))
    (pss_one (ps_if (pt_cmpR op_gt (pe_mt (c_Leading_row_lack T) hr (by decide) (pv 0) (pa_cons (pv 3) pa_nil)) pe_int (nomark _))
    (pss_one (ps_dput (hu_of hr) (pv 1) (pv 3) (pe_un un_neg pe_int) rfl))
    pss_nil)))
    (pss_cons (ps_set (i := 4) sc_Leading_spread_out.nd rfl (.inl rfl) (pe_callTy (call_list_dK rfl) (by rfl) T.n_list (by decide +kernel) (pa_cons (pv 1) pa_nil)))
    (pss_cons (ps_while PassesOwn.never (pt_cmpR (op_neA hr) (pv 4) (pe_lst pa_nil) (nomark _))
    (pss_cons (ps_set (i := 5) sc_Leading_spread_out.nd rfl (.inl rfl) (pe_mt (c_Leading_next_columns T) hr (by decide) (pv 0) (pa_cons (pv 4) (pa_cons (pv 2) pa_nil))))
    (pss_one (ps_set (i := 4) sc_Leading_spread_out.nd rfl (.inl rfl) (pe_mt (c_Leading_next_rows T) hr (by decide) (pv 0) (pa_cons (pv 5) (pa_cons (pv 1) pa_nil)))))))
    (pss_one (ps_ret (pe_tup (pa_cons (pv 1) (pa_cons (pv 2) pa_nil)))))))))), ?_⟩
  try simp only [cxOf_K, cxOf_K', cxOf_mg, cxOf_mg']
  unfold sp_Leading_spread_out at h
  split at h
  case h_2 => exact h.elim
  rename_i x
  rw [show L2.start ["self", "some", "others", "row", "last", "found"] [V.ref x] = [some (V.ref x), none, none, none, none, none] from rfl]
  obtain ⟨dx, pr, pc, pu, pw, uv, rows, cols, us, ws, hL, q⟩ := h
  have hlr := hL.lr
  walk_at "sts"
  walk_at "nwp"
  rename_i ps hps H1 s1 e1
  walk_at "sts"
  walk_at "nwp"
  rename_i po hpo H2 s2 e2
  have hL2 := hL.same (s1.trans s2)
  walk_at "sts"
  refine L_fldv hL2.x T.k_Leading T.na_Leading_rows rfl ?_
  walk_at "sts"
  refine L_lenL (.of hL2.r) ?_
  rw [List.length_map]
  refine L_r1 (by omega) (by omega) ?_
  rw [Int.toNat_natCast]
  have nso : ps ≠ po := fun z => by rw [z, hpo] at e1; cases e1
  have hpo0 : H po = none := s1.free hpo
  refine f_range (fun i σ' H' => ∃ v3 : Option V, σ' = [some (.ref x), some (.ref ps), some (.ref po), v3, none, none] ∧ Same H H' ∧ H' ps = some (.dK (dk (rootsN rows us ws i))) ∧ H' po = some (.dK [])) ⟨_, rfl, s1.trans s2, s2 _ _ e1, e2⟩ ?_ ?_
  · rintro i σ' H3 hi ⟨v3, rfl, s3, e3s, e3o⟩
    rw [Int.zero_add]
    have hL3 := hL.same s3
    walk_at "sts"
    refine L_methv hL3.x rfl ?_
    walk_at "sts"
    refine ⟨dx, pr, pc, pu, pw, uv, rows, cols, us, ws, hL3, by omega, by omega, fun H4 s4 => ?_⟩
    walk_at "sts"
    refine L_d (fun c => ?_) (fun c => ?_)
    · walk_at "sts"
      refine L_dputv (k := Sum.inl (i : Int)) rfl (s4 _ _ e3s) (by unfold dk rootsN; rw [List.length_map, List.length_map]; have := List.length_filter_le (fun r : Nat => decide (0 < rlk rows us ws (r : Int))) (List.range i); rw [List.length_range] at this; omega) ?_
      rw [dk_put rootsN_new]
      exact ⟨_, rfl, same_mut (s3.trans s4) hps, by rw [upd_same, rootsN_succ, if_pos c], by rw [upd_ne (Ne.symm nso)]; exact s4 _ _ e3o⟩
    · walk_at "sts"
      exact ⟨_, rfl, s3.trans s4, by rw [rootsN_succ, if_neg c]; exact s4 _ _ e3s, s4 _ _ e3o⟩
  rintro σ' H3 ⟨v3, rfl, s3, e3s, e3o⟩
  replace e3s : H3 ps = some (.dK (dk (roots rows us ws))) := e3s
  walk_at "sts"
  refine ⟨ps, _, rfl, e3s, fun pl hpl => ?_⟩
  generalize hg : upd H3 pl _ = H4
  have s4 := same_newE hg hpl
  have e4 := upd_at hg
  clear hg
  rw [show (dk (roots rows us ws)).map (fun kv => kV kv.1) = (ky (roots rows us ws)).map V.int from by unfold dk ky; rw [List.map_map, List.map_map]; rfl] at e4
  walk_at "sts"
  refine L_while (fun m σ' H' => ∃ (i : Nat) (v5 : Option V) (p : Addr), σ' = [some (.ref x), some (.ref ps), some (.ref po), v3, some (.ref p), v5] ∧ Same H H' ∧ H' p = some (.lst ((sprS rows us ws i).1.map V.int)) ∧ H' ps = some (.dK (dk (sprS rows us ws i).2.1)) ∧ H' po = some (.dK (dk (sprS rows us ws i).2.2)) ∧ i ≤ rows.length ∧ m = rows.length - i) ⟨_, 0, _, pl, rfl, s3.trans s4, e4, s4 _ _ e3s, s4 _ _ e3o, by omega, rfl⟩ ?_
  rintro m σ' H5 ⟨i, v5, p, rfl, s5, e5p, e5s, e5o, hi, rfl⟩
  have b := sprS_ok (ws := ws) hL.ok i
  walk_at "sts"
  walk_at "nw"
  rename_i pn hpn H6 s6 en
  refine L_neD (d := .list ((sprS rows us ws i).1.map .int)) (.lst (.of (s6 _ _ e5p)) (dp_ints _)) (.lst (.of en) .nil) (shp_ints (n := 0)).ok (shp_lst (n := 0) shp_nil).ok ?_
  rw [eqv_nil, List.isEmpty_map]
  by_cases hem : (sprS rows us ws i).1 = []
  · rw [hem, List.isEmpty_nil, Bool.not_true]
    have eN := sprS_at hem hi
    have e5s' : H5 ps = some (.dK (dk (spr rows us ws).1)) := by unfold spr; rw [eN]; exact e5s
    have e5o' : H5 po = some (.dK (dk (spr rows us ws).2)) := by unfold spr; rw [eN]; exact e5o
    walk_at "sts"
    walk_at "nw"
    rename_i pt hpt H7 s7 e7
    exact q ps po pt H7 (s5.trans (s6.trans s7)) hps hpo0 nso ((s6.trans s7) _ _ e5s') ((s6.trans s7) _ _ e5o') e7
  · rw [show (sprS rows us ws i).1.isEmpty = false from by cases h : (sprS rows us ws i).1 with | nil => exact absurd h hem | cons a l => rfl, Bool.not_false]
    have hlt := sprS_lt hL.ok hem
    walk_at "sts"
    refine L_N ?_
    walk_at "sts"
    refine L_methv ((hL.same (s5.trans s6)).x) rfl ?_
    walk_at "sts"
    have hL6 := hL.same (s5.trans s6)
    have hlo : (sprS rows us ws i).2.2.length ≤ 100 := by
      have h1 := pig cols.length _ b.ndO b.rO
      have h2 := hL.lc
      unfold ky at h1
      rw [List.length_map] at h1
      omega
    have hls : (sprS rows us ws i).2.1.length ≤ 100 := by
      have h1 := pig rows.length _ b.ndS b.rS
      unfold ky at h1
      rw [List.length_map] at h1
      omega
    refine ⟨dx, pr, pc, pu, pw, uv, rows, cols, us, ws, _, _, hL6, s6 _ _ e5p, s6 _ _ e5o, hlo, fun pf H7 hpf k7 e7o e7f => ?_⟩
    have hL7 := hL6.but (s6 _ _ e5o) k7
    have e7s := k7 _ _ (s6 _ _ e5s) nso
    walk_at "sts"
    refine L_methv hL7.x rfl ?_
    walk_at "sts"
    refine ⟨dx, pr, pc, pu, pw, uv, rows, cols, us, ws, _, _, hL7, e7f, e7s, hls, fun pg H8 hpg k8 e8s e8f => ?_⟩
    walk_at "sts"
    exact ⟨rows.length - (i + 1), by omega, i + 1, _, pg, rfl, fun bb o hb => k8 _ _ (k7 _ _ (s6 _ _ (s5 _ _ hb)) fun z => by rw [z, hpo0] at hb; cases hb) (fun z => by rw [z, hps] at hb; cases hb), e8f, e8s, k8 _ _ e7o (Ne.symm nso), by omega, rfl⟩
theorem Ld.at {K : PySem.W.Frag} {mg : Str → Option Value} {H : Hp} {x dx pr pc pu pw : Addr} {uv : List V} {rows cols : List Int} {us : List UN} {ws : List Int} (h : Ld K mg H x dx pr pc pu pw uv rows cols us ws) {i : Nat} (hi : i < us.length) : ∃ t, uv[i]? = some (.ref t) ∧ SqT K H t [.int (us.getD i nou).1, .int (us.getD i nou).2.1, .int (us.getD i nou).2.2.1, .int (us.getD i nou).2.2.2] := by
  have hu := Paired.length h.up
  have e : uv[i]? = some uv[i] := List.getElem?_eq_getElem (by omega)
  obtain ⟨u, h1, t, h2, h3⟩ := paired_at2 h.up e
  rw [List.getD_eq_getElem?_getD, h1]
  exact ⟨t, by rw [e, h2], h3⟩
def sp_Leading_way_back (K : PySem.W.Frag) (mg : Str → Option Value) : Sp := fun vs H Q _ => match vs with | [.ref x, .ref ps, .ref po, .int c] => ∃ dx pr pc pu pw uv rows cols us ws some_ others L r, Ld K mg H x dx pr pc pu pw uv rows cols us ws ∧ H ps = some (.dK (dk some_)) ∧ H po = some (.dK (dk others)) ∧ Pa us some_ others true c L r ∧ (∀ i ∈ L, i < us.length) ∧ L.length ≤ 100 ∧ ∀ pL pt H', Same H H' → H pL = none → H' pL = some (.lst (L.map fun i : Nat => V.int (i : Int))) → H' pt = some (.tup [.ref pL, .int r]) → Q (.ref pt) H' | _ => False
theorem q_Leading_way_back {H : Hp} {Q : VK} {E : XK} {x : Addr} {ps : Addr} {po : Addr} {c : Int} (q : ∃ dx pr pc pu pw uv rows cols us ws some_ others L r, Ld K mg H x dx pr pc pu pw uv rows cols us ws ∧ H ps = some (.dK (dk some_)) ∧ H po = some (.dK (dk others)) ∧ Pa us some_ others true c L r ∧ (∀ i ∈ L, i < us.length) ∧ L.length ≤ 100 ∧ ∀ pL pt H', Same H H' → H pL = none → H' pL = some (.lst (L.map fun i : Nat => V.int (i : Int))) → H' pt = some (.tup [.ref pL, .int r]) → Q (.ref pt) H') : sp_Leading_way_back K mg [.ref x, .ref ps, .ref po, .int c] H Q E := q
local macro_rules | `(tactic| walk_at "op") => `(tactic| with_reducible refine q_Leading_way_back ?_)
theorem c_Leading_way_back (T : Txt K mg) : Met P w K mg base 1 (cA mg "Leading") "way_back" (sp_Leading_way_back K mg) := by
  refine MethAt.met T.k_Leading T.d_Leading_way_back (k := 0) sc_Leading_way_back (by intro vs H Q E h; unfold sp_Leading_way_back at h; split at h <;> first | rfl | exact h.elim) fun f cdv A outer s H vs Q E hr h => ?_
  refine ⟨_, (pss_cons (ps_set (i := 4) sc_Leading_way_back.nd rfl (.inl rfl) (pe_lst (pa_cons (pe_dget (hu_of hr) (pv 2) (pv 3) (fun _ _ => rfl)) pa_nil)))
    (pss_cons (ps_set (i := 5) sc_Leading_way_back.nd rfl (.inl rfl) (pe_ix ix_seq (pe_ix ix_seq (pe_fld (pv 0) rfl) (pe_ix ix_seq (pv 4) (pe_un un_neg pe_int) (fun _ _ => rfl)) (fun _ _ => rfl)) pe_int (fun _ _ => rfl)))
    (pss_cons (ps_while PassesOwn.never (pt_cmpR op_ge (pe_dget (hu_of hr) (pv 1) (pv 5) (fun _ _ => rfl)) pe_int (nomark _))
    (pss_cons (ps_expr (pe_bm PySem.F.plainAttrs_list PySem.F.slot_list_append PySem.F.type_list_append mt_append (pv 4) (pa_cons (pe_dget (hu_of hr) (pv 1) (pv 5) (fun _ _ => rfl)) pa_nil)))
    (pss_cons (ps_expr (pe_bm PySem.F.plainAttrs_list PySem.F.slot_list_append PySem.F.type_list_append mt_append (pv 4) (pa_cons (pe_dget (hu_of hr) (pv 2) (pe_ix ix_seq (pe_ix ix_seq (pe_fld (pv 0) rfl) (pe_ix ix_seq (pv 4) (pe_un un_neg pe_int) (fun _ _ => rfl)) (fun _ _ => rfl)) pe_int (fun _ _ => rfl)) (fun _ _ => rfl)) pa_nil)))
    (pss_one (ps_set (i := 5) sc_Leading_way_back.nd rfl (.inl rfl) (pe_ix ix_seq (pe_ix ix_seq (pe_fld (pv 0) rfl) (pe_ix ix_seq (pv 4) (pe_un un_neg pe_int) (fun _ _ => rfl)) (fun _ _ => rfl)) pe_int (fun _ _ => rfl)))))))
    (pss_one (ps_ret (pe_tup (pa_cons (pv 4) (pa_cons (pv 5) pa_nil)))))))), ?_⟩
  try simp only [cxOf_K, cxOf_K', cxOf_mg, cxOf_mg']
  unfold sp_Leading_way_back at h
  split at h
  case h_2 => exact h.elim
  rename_i x ps po c
  rw [show L2.start ["self", "some", "others", "column", "way", "row"] [V.ref x, V.ref ps, V.ref po, V.int c] = [some (V.ref x), some (V.ref ps), some (V.ref po), some (V.int c), none, none] from rfl]
  obtain ⟨dx, pr, pc, pu, pw, uv, rows, cols, us, ws, some_, others, L, r, hL, hs, ho, hP, hi, hl, q⟩ := h
  have hul := Paired.length hL.up
  cases hP with | @col _ _ i0 L' h hv hc t
  walk_at "sts"
  refine L_dgetv (k := Sum.inl c) rfl ho (by rw [dk_val, if_pos h, hv]) ?_
  walk_at "sts"
  walk_at "nw"
  rename_i pL hpL H1 s1 e1
  have hL1 := hL.same s1
  walk_at "sts"
  refine L_fldv hL1.x T.k_Leading T.na_Leading_units rfl ?_
  walk_at "sts"
  refine L_ixL (.of e1) (atI_last [] _) ?_
  walk_at "sts"
  obtain ⟨t1, ht1, ht2⟩ := hL1.at (hi i0 (List.mem_cons_self ..))
  refine L_ixL (.of hL1.u) (atI_int (by omega) (by rw [Int.toNat_natCast]; exact ht1)) ?_
  walk_at "sts"
  refine L_ixT ht2 (atI_int (by decide) rfl) ?_
  walk_at "sts"
  refine L_while (fun m σ' H' => ∃ (pre rest : List Nat) (k : Int), σ' = [some (.ref x), some (.ref ps), some (.ref po), some (.int c), some (.ref pL), some (.int k)] ∧ Same H H' ∧ pre ++ rest = i0 :: L' ∧ H' pL = some (.lst (pre.map fun i : Nat => V.int (i : Int))) ∧ Pa us some_ others false k rest r ∧ m = rest.length) ⟨_, [i0], L', _, rfl, s1, rfl, e1, t, rfl⟩ ?_
  rintro m σ' H2 ⟨pre, rest, k, rfl, s2, epr, e2, hPk, rfl⟩
  have hL2 := hL.same s2
  have hs2 := s2 _ _ hs
  have ho2 := s2 _ _ ho
  have hrl : pre.length + rest.length = (i0 :: L').length := by rw [← epr, List.length_append]
  walk_at "sts"
  cases hPk with
  | root h0 hv0 =>
    refine L_dgetv (k := Sum.inl r) rfl hs2 (by rw [dk_val, if_pos h0, hv0]) ?_
    walk_at "sts"
    refine L_dF (by decide) ?_
    walk_at "sts"
    walk_at "nw"
    rename_i pt hpt H3 s3 e3
    rw [List.append_nil] at epr
    rw [epr] at e2
    exact q pL pt H3 (s2.trans s3) hpL (s3 _ _ e2) e3
  | @row _ _ i1 L1 h0 hv0 hr0 t0 =>
    refine L_dgetv (k := Sum.inl k) rfl hs2 (by rw [dk_val, if_pos h0, hv0]) ?_
    walk_at "sts"
    refine L_dT (by omega) ?_
    refine L_N ?_
    walk_at "sts"
    cases t0 with | @col _ _ i2 L2 h3 hv3 hc3 t3
    refine L_tyL (.of e2) ?_
    walk_at "sts"
    refine L_dgetv (k := Sum.inl k) rfl hs2 (by rw [dk_val, if_pos h0, hv0]) ?_
    walk_at "sts"
    refine L_app e2 (sz_lt (by rw [List.length_map]; omega)) ?_
    have s3 : Same H (upd H2 pL (.lst (pre.map (fun i : Nat => V.int (i : Int)) ++ [V.int (i1 : Int)]))) := same_mut s2 hpL
    have e3 : (upd H2 pL (.lst (pre.map (fun i : Nat => V.int (i : Int)) ++ [V.int (i1 : Int)]))) pL = _ := upd_same
    generalize upd H2 pL (.lst (pre.map (fun i : Nat => V.int (i : Int)) ++ [V.int (i1 : Int)])) = H3 at s3 e3 ⊢
    have hL3 := hL.same s3
    have ho3 := s3 _ _ ho
    have hi1 : i1 < us.length := hi i1 (by rw [← epr]; simp)
    have hi2 : i2 < us.length := hi i2 (by rw [← epr]; simp)
    walk_at "sts"
    refine L_tyL (.of e3) ?_
    walk_at "sts"
    refine L_fldv hL3.x T.k_Leading T.na_Leading_units rfl ?_
    walk_at "sts"
    refine L_ixL (.of e3) (atI_last _ _) ?_
    walk_at "sts"
    obtain ⟨t5, ht5, ht6⟩ := hL3.at hi1
    refine L_ixL (.of hL3.u) (atI_int (by omega) (by rw [Int.toNat_natCast]; exact ht5)) ?_
    walk_at "sts"
    refine L_ixT ht6 (atI_int (by decide) rfl) ?_
    walk_at "sts"
    refine L_dgetv (k := Sum.inl (us.getD i1 nou).2.1) rfl ho3 (by rw [dk_val, if_pos h3, hv3]) ?_
    walk_at "sts"
    refine L_app e3 (sz_lt (by have hl2 := hl; have hr2 := hrl; rw [List.length_cons] at hl2 hr2; rw [List.length_cons] at hr2; simp; omega)) ?_
    have s4 : Same H (upd H3 pL (.lst (pre.map (fun i : Nat => V.int (i : Int)) ++ [V.int (i1 : Int)] ++ [V.int (i2 : Int)]))) := same_mut s3 hpL
    have e4 : (upd H3 pL (.lst (pre.map (fun i : Nat => V.int (i : Int)) ++ [V.int (i1 : Int)] ++ [V.int (i2 : Int)]))) pL = _ := upd_same
    generalize upd H3 pL (.lst (pre.map (fun i : Nat => V.int (i : Int)) ++ [V.int (i1 : Int)] ++ [V.int (i2 : Int)])) = H4 at s4 e4 ⊢
    have hL4 := hL.same s4
    walk_at "sts"
    refine L_fldv hL4.x T.k_Leading T.na_Leading_units rfl ?_
    walk_at "sts"
    refine L_ixL (.of e4) (atI_last _ _) ?_
    walk_at "sts"
    obtain ⟨t7, ht7, ht8⟩ := hL4.at hi2
    refine L_ixL (.of hL4.u) (atI_int (by omega) (by rw [Int.toNat_natCast]; exact ht7)) ?_
    walk_at "sts"
    refine L_ixT ht8 (atI_int (by decide) rfl) ?_
    walk_at "sts"
    exact ⟨L2.length, by simp only [List.length_cons]; omega, pre ++ [i1, i2], L2, _, rfl, s4, by rw [← epr]; simp, by rw [e4]; simp, t3, rfl⟩
theorem Ld.wt {K : PySem.W.Frag} {mg : Str → Option Value} {H H' : Hp} {x dx pr pc pu pw : Addr} {uv : List V} {rows cols : List Int} {us : List UN} {ws ws' : List Int} (h : Ld K mg H x dx pr pc pu pw uv rows cols us ws) (n1 : pw ≠ pr) (n2 : pw ≠ pc) (n3 : pw ≠ pu) (k : ∀ b o, H b = some o → b ≠ pw → H' b = some o) (e : H' pw = some (.lst (ws'.map V.int))) (l : ws'.length = ws.length) : Ld K mg H' x dx pr pc pu pw uv rows cols us ws' :=
  have f : ∀ {b o}, H b = some o → (∀ xs, o ≠ HO.lst xs) → H' b = some o := fun e n => k _ _ e fun z => n _ (by rw [z, h.w] at e; exact (Option.some.inj e).symm)
  ⟨f h.x (by simp), k _ _ h.r n1.symm, k _ _ h.c n2.symm, k _ _ h.u n3.symm, paired_imp2 (fun _ _ ⟨t, h1, h2⟩ => ⟨t, h1, by
    rcases h2 with (h | ⟨o', h⟩) | h
    · exact .inl (.inl (f h (by simp)))
    · exact .inl (.inr ⟨o', f h (by simp)⟩)
    · exact .inr h⟩) h.up, e, h.ok, by rw [l]; exact h.l, h.l24, h.lr, h.lc⟩
def sp_Leading_carry (K : PySem.W.Frag) (mg : Str → Option Value) : Sp := fun vs H Q _ => match vs with | [.ref x, .ref ps, .ref po, .int c] => ∃ dx pr pc pu pw uv rows cols us ws some_ others L r, Ld K mg H x dx pr pc pu pw uv rows cols us ws ∧ pw ≠ pr ∧ pw ≠ pc ∧ pw ≠ pu ∧ H ps = some (.dK (dk some_)) ∧ H po = some (.dK (dk others)) ∧ Pa us some_ others true c L r ∧ (∀ i ∈ L, i < us.length) ∧ L.length ≤ 100 ∧ 0 ≤ r ∧ r < (rows.length : Int) ∧ 0 ≤ c ∧ c < (cols.length : Int) ∧ -1000000000 ≤ muchF rows cols us ws L r c ∧ muchF rows cols us ws L r c ≤ 1000000000 ∧ ∀ H', (∀ b o, H b = some o → b ≠ pw → H' b = some o) → H' pw = some (.lst ((carr rows cols us ws L r c).map V.int)) → Q .non H' | _ => False
theorem q_Leading_carry {H : Hp} {Q : VK} {E : XK} {x : Addr} {ps : Addr} {po : Addr} {c : Int} (q : ∃ dx pr pc pu pw uv rows cols us ws some_ others L r, Ld K mg H x dx pr pc pu pw uv rows cols us ws ∧ pw ≠ pr ∧ pw ≠ pc ∧ pw ≠ pu ∧ H ps = some (.dK (dk some_)) ∧ H po = some (.dK (dk others)) ∧ Pa us some_ others true c L r ∧ (∀ i ∈ L, i < us.length) ∧ L.length ≤ 100 ∧ 0 ≤ r ∧ r < (rows.length : Int) ∧ 0 ≤ c ∧ c < (cols.length : Int) ∧ -1000000000 ≤ muchF rows cols us ws L r c ∧ muchF rows cols us ws L r c ≤ 1000000000 ∧ ∀ H', (∀ b o, H b = some o → b ≠ pw → H' b = some o) → H' pw = some (.lst ((carr rows cols us ws L r c).map V.int)) → Q .non H') : sp_Leading_carry K mg [.ref x, .ref ps, .ref po, .int c] H Q E := q
local macro_rules | `(tactic| walk_at "op") => `(tactic| with_reducible refine q_Leading_carry ?_)
theorem c_Leading_carry (T : Txt K mg) : Met P w K mg base 2 (cA mg "Leading") "carry" (sp_Leading_carry K mg) := by
  refine MethAt.met T.k_Leading T.d_Leading_carry (k := 1) sc_Leading_carry (by intro vs H Q E h; unfold sp_Leading_carry at h; split at h <;> first | rfl | exact h.elim) fun f cdv A outer s H vs Q E hr h => ?_
  refine ⟨_, (pss_cons (ps_asg (pe_mt (c_Leading_way_back T) hr (by decide) (pv 0) (pa_cons (pv 1) (pa_cons (pv 2) (pa_cons (pv 3) pa_nil)))) (pg_tup rfl (pgs_cons (pg_name (i := 4) sc_Leading_carry.nd rfl (.inl rfl)) (pgs_cons (pg_name (i := 5) sc_Leading_carry.nd rfl (.inl rfl)) pgs_nil))))
    (pss_cons (ps_set (i := 6) sc_Leading_carry.nd rfl (.inl rfl) (pe_callB (call_min2A rfl) (by rfl) T.n_min (by decide +kernel) (pa_cons (pe_mt (c_Leading_row_lack T) hr (by decide) (pv 0) (pa_cons (pv 5) pa_nil)) (pa_cons (pe_mt (c_Leading_column_lack T) hr (by decide) (pv 0) (pa_cons (pv 3) pa_nil)) pa_nil))))
    (pss_cons (ps_for PassesOwn.never rfl (pi_enum (by rfl) T.n_enumerate (pa_cons (pv 4) pa_nil)) (pg_tup rfl (pgs_cons (pg_name (i := 7) sc_Leading_carry.nd rfl (.inl rfl)) (pgs_cons (pg_name (i := 8) sc_Leading_carry.nd rfl (.inl rfl)) pgs_nil)))
    (pss_one (ps_if (pt_cmpR (op_eqA hr) (pe_op op_mod (pv 7) pe_int) pe_int (nomark _))
    (pss_one (ps_set (i := 6) sc_Leading_carry.nd rfl (.inl rfl) (pe_callB (call_min2A rfl) (by rfl) T.n_min (by decide +kernel) (pa_cons (pv 6) (pa_cons (pe_op op_sub (pe_ix ix_seq (pe_ix ix_seq (pe_fld (pv 0) rfl) (pv 8) (fun _ _ => rfl)) pe_int (fun _ _ => rfl)) (pe_ix ix_seq (pe_fld (pv 0) rfl) (pv 8) (fun _ _ => rfl))) pa_nil)))))
    (pss_one (ps_set (i := 6) sc_Leading_carry.nd rfl (.inl rfl) (pe_callB (call_min2A rfl) (by rfl) T.n_min (by decide +kernel) (pa_cons (pv 6) (pa_cons (pe_op op_sub (pe_ix ix_seq (pe_fld (pv 0) rfl) (pv 8) (fun _ _ => rfl)) (pe_ix ix_seq (pe_ix ix_seq (pe_fld (pv 0) rfl) (pv 8) (fun _ _ => rfl)) pe_int (fun _ _ => rfl))) pa_nil))))))))
    (pss_one (ps_for PassesOwn.never rfl (pi_enum (by rfl) T.n_enumerate (pa_cons (pv 4) pa_nil)) (pg_tup rfl (pgs_cons (pg_name (i := 7) sc_Leading_carry.nd rfl (.inl rfl)) (pgs_cons (pg_name (i := 8) sc_Leading_carry.nd rfl (.inl rfl)) pgs_nil)))
    (pss_one (ps_augS (pe_fld (pv 0) rfl) (pv 8) pget_list (pe_op op_mulA (pv 6) (pe_op op_sub pe_int (pe_op op_mulA pe_int (pe_op op_mod (pv 7) pe_int)))) ip_add set_list))))))), ?_⟩
  try simp only [cxOf_K, cxOf_K', cxOf_mg, cxOf_mg']
  unfold sp_Leading_carry at h
  split at h
  case h_2 => exact h.elim
  rename_i x ps po c
  rw [show L2.start ["self", "some", "others", "column", "way", "row", "much", "step", "at"] [V.ref x, V.ref ps, V.ref po, V.int c] = [some (V.ref x), some (V.ref ps), some (V.ref po), some (V.int c), none, none, none, none, none] from rfl]
  obtain ⟨dx, pr, pc, pu, pw, uv, rows, cols, us, ws, some_, others, L, r, hL, n1, n2, n3, hs, ho, hP, hi, hl, r0, r1, c0, c1, b0, b1, q⟩ := h
  have hul := Paired.length hL.up
  have hwl := hL.l
  have h24 := hL.l24
  walk_at "sts"
  refine L_methv hL.x rfl ?_
  walk_at "sts"
  refine ⟨dx, pr, pc, pu, pw, uv, rows, cols, us, ws, some_, others, L, r, hL, hs, ho, hP, hi, hl, fun pL pt H1 s1 hpL e1L e1t => ?_⟩
  walk_at "sts"
  refine L_gTup (.of e1t) rfl ?_
  walk_at "sts"
  refine L_methv (hL.same s1).x rfl ?_
  walk_at "sts"
  refine ⟨dx, pr, pc, pu, pw, uv, rows, cols, us, ws, hL.same s1, r0, r1, fun H2 s2 => ?_⟩
  walk_at "sts"
  refine L_methv (hL.same (s1.trans s2)).x rfl ?_
  walk_at "sts"
  refine ⟨dx, pr, pc, pu, pw, uv, rows, cols, us, ws, hL.same (s1.trans s2), c0, c1, fun H3 s3 => ?_⟩
  walk_at "sts"
  have e3L := (s2.trans s3) _ _ e1L
  have s03 := s1.trans (s2.trans s3)
  have hL3 := hL.same s03
  refine L_re (.of e3L) ?_
  refine f_it walk_enum (fun i σ' H' => ∃ (v7 v8 : Option V), σ' = [some (.ref x), some (.ref ps), some (.ref po), some (.int c), some (.ref pL), some (.int r), some (.int (muchK us ws L (min (rlk rows us ws r) (clk cols us ws c)) i)), v7, v8] ∧ Same H3 H') ⟨_, _, rfl, .refl _⟩ (fun _ _ _ _ ⟨_, _, _, s⟩ => .of (s _ _ e3L)) ?_ ?_
  · rintro i x1 σ' H4 H4' hil ⟨v7, v8, rfl, s4⟩ ⟨T1, k0, t0, rfl, hT1, rfl, hk, hx1⟩
    cases hk
    replace hx1 : (L.map fun i : Nat => V.int (i : Int))[i]? = some t0 := hx1
    rw [List.getElem?_map] at hx1
    obtain ⟨j, hj, rfl⟩ := Option.map_eq_some_iff.mp hx1
    have hjL : L.getD i 0 = j := by rw [List.getD_eq_getElem?_getD, hj]; rfl
    have hju : j < us.length := hi j (List.mem_of_getElem? hj)
    refine L_gTup (.of upd_same) rfl ?_
    have s5 : Same H3 (upd H4 T1 (HO.tup [V.int (i : Int), V.int (j : Int)])) := same_upd s4 hT1
    generalize upd H4 T1 (HO.tup [V.int (i : Int), V.int (j : Int)]) = H5 at s5 ⊢
    have hL5 := hL3.same s5
    obtain ⟨t1, ht1, ht2⟩ := hL5.at hju
    walk_at "sts"
    refine L_I (show (0 : Int) < 2 by decide) ?_
    walk_at "sts"
    refine L_d (fun cc => ?_) (fun cc => ?_)
    · walk_at "sts"
      refine L_fldv hL5.x T.k_Leading T.na_Leading_units rfl ?_
      walk_at "sts"
      refine L_ixL (.of hL5.u) (atI_int (by omega) (by rw [Int.toNat_natCast]; exact ht1)) ?_
      walk_at "sts"
      refine L_ixT ht2 (atI_int (by decide) rfl) ?_
      walk_at "sts"
      refine L_fldv hL5.x T.k_Leading T.na_Leading_weights rfl ?_
      walk_at "sts"
      refine L_ixL (.of hL5.w) (atI_ints (by omega) (by omega)) ?_
      rw [Int.toNat_natCast]
      walk_at "sts"
      refine ⟨some (.int (i : Int)), some (.int (j : Int)), ?_, s5⟩
      rw [show muchK us ws L (min (rlk rows us ws r) (clk cols us ws c)) (i + 1) = _ from by rw [muchK, if_pos (show i % 2 = 0 by omega), hjL]]
    · walk_at "sts"
      refine L_fldv hL5.x T.k_Leading T.na_Leading_weights rfl ?_
      walk_at "sts"
      refine L_ixL (.of hL5.w) (atI_ints (by omega) (by omega)) ?_
      rw [Int.toNat_natCast]
      walk_at "sts"
      refine L_fldv hL5.x T.k_Leading T.na_Leading_units rfl ?_
      walk_at "sts"
      refine L_ixL (.of hL5.u) (atI_int (by omega) (by rw [Int.toNat_natCast]; exact ht1)) ?_
      walk_at "sts"
      refine L_ixT ht2 (atI_int (by decide) rfl) ?_
      walk_at "sts"
      refine ⟨some (.int (i : Int)), some (.int (j : Int)), ?_, s5⟩
      rw [show muchK us ws L (min (rlk rows us ws r) (clk cols us ws c)) (i + 1) = _ from by rw [muchK, if_neg (show ¬ i % 2 = 0 by omega), hjL]]
  rintro σ' H4 ⟨v7, v8, rfl, s4⟩
  rw [List.length_map]
  have e4L := s4 _ _ e3L
  have hL4 := hL3.same s4
  have s04 := s03.trans s4
  change -1000000000 ≤ muchK us ws L (min (rlk rows us ws r) (clk cols us ws c)) L.length at b0
  change muchK us ws L (min (rlk rows us ws r) (clk cols us ws c)) L.length ≤ 1000000000 at b1
  have ec : carr rows cols us ws L r c = wK ws L (muchK us ws L (min (rlk rows us ws r) (clk cols us ws c)) L.length) L.length := rfl
  rw [ec] at q
  generalize muchK us ws L (min (rlk rows us ws r) (clk cols us ws c)) L.length = mm at *
  walk_at "sts"
  refine L_re (.of e4L) ?_
  have nLw : pL ≠ pw := fun z => by rw [z, hL.w] at hpL; cases hpL
  refine f_it walk_enum (fun i σ' H' => ∃ (v7 v8 : Option V), σ' = [some (.ref x), some (.ref ps), some (.ref po), some (.int c), some (.ref pL), some (.int r), some (.int mm), v7, v8] ∧ (∀ b o, H4 b = some o → b ≠ pw → H' b = some o) ∧ H' pw = some (.lst ((wK ws L mm i).map V.int))) ⟨_, _, rfl, fun b o hb _ => hb, hL4.w⟩ (fun _ _ _ _ ⟨_, _, _, k, _⟩ => .of (k _ _ e4L nLw)) ?_ ?_
  · rintro i x1 σ' H5 H5' hil ⟨v7, v8, rfl, k5, e5⟩ ⟨T1, k0, t0, rfl, hT1, rfl, hk, hx1⟩
    cases hk
    replace hx1 : (L.map fun i : Nat => V.int (i : Int))[i]? = some t0 := hx1
    rw [List.getElem?_map] at hx1
    obtain ⟨j, hj, rfl⟩ := Option.map_eq_some_iff.mp hx1
    have hjL : L.getD i 0 = j := by rw [List.getD_eq_getElem?_getD, hj]; rfl
    have hju : j < us.length := hi j (List.mem_of_getElem? hj)
    have hwk := wK_len ws L mm i
    refine L_gTup (.of upd_same) rfl ?_
    have sT := same_new (o := HO.tup [V.int (i : Int), V.int (j : Int)]) hT1
    generalize upd H5 T1 (HO.tup [V.int (i : Int), V.int (j : Int)]) = H6 at sT ⊢
    have hL6 := (hL4.wt n1 n2 n3 k5 e5 hwk).same sT
    walk_at "sts"
    refine L_fldv hL6.x T.k_Leading T.na_Leading_weights rfl ?_
    walk_at "sts"
    refine L_getL (.of hL6.w) (by omega) (show ((wK ws L mm i).map V.int)[(j : Int).toNat]? = some (.int ((wK ws L mm i).getD j 0)) from by rw [Int.toNat_natCast, List.getElem?_map, List.getD_eq_getElem?_getD, List.getElem?_eq_getElem (by omega)]; rfl) ?_
    walk_at "sa"
    refine L_setL hL6.w (ixN_of (by omega) (by rw [List.length_map]; omega)) ?_
    rw [Int.toNat_natCast]
    refine ⟨_, _, rfl, fun b o hb n => by rw [upd_ne n]; exact sT _ _ (k5 _ _ hb n), ?_⟩
    rw [upd_same, wK, hjL, List.map_set]
  rintro σ' H5 ⟨v7, v8, rfl, k5, e5⟩
  rw [List.length_map] at e5
  walk_at "sts"
  exact q _ (fun b o hb n => k5 _ _ (s04 _ _ hb) n) e5
theorem fm_filter {α : Type} (p : α → Bool) : ∀ l : List α, l.filterMap (fun c => if p c = true then some c else none) = l.filter p
  | [] => rfl
  | a :: l => by
    rw [List.filterMap_cons, List.filter_cons, fm_filter p l]
    by_cases h : p a = true
    · rw [if_pos h, if_pos h]
    · rw [if_neg h, if_neg h]
theorem L_sortD {H : Hp} {Q : VK} {a : Addr} {d : Dt} {n : Nat} (hn : n < 64) (h : H a = some (.dK (dk d))) (nd : (ky d).Nodup) (rg : ∀ k ∈ ky d, 0 ≤ k ∧ k < (n : Int)) (q : ∀ p, H p = none → Q (.ref p) (upd H p (.lst ((selL n d).map V.int)))) : rSortDI [.ref a] H Q := by
  refine ⟨a, dk d, ky d, rfl, .inl h, by unfold dk ky; rw [List.map_map, List.map_map]; rfl, Nat.lt_of_le_of_lt (pig n _ nd rg) hn, fun ys p hp hs hf => ?_⟩
  have e : ys = selL n d := by
    refine lt_uniq ?_ (selL_lt n d) fun x => ?_
    · have nd' := hp.nodup_iff.mpr nd
      exact (hs.and nd').imp fun ⟨h1, h2⟩ => by omega
    · rw [hp.mem_iff, selL_mem rg]
  rw [e]
  exact q p hf
theorem headD_get (l : List Int) : l.headD 0 = l.getD 0 0 := by cases l <;> rfl
theorem much_b {rows cols : List Int} {us : List UN} {ws : List Int} {some others : Dt} {L : List Nat} {x c : Int} (ok : OkUs us rows.length cols.length) (g : Good rows cols us ws) (w : Way us ws (roots rows us ws) some others true c L x) (hc : 0 < clk cols us ws c) : -1000000000 ≤ muchF rows cols us ws L x c ∧ muchF rows cols us ws L x c ≤ 1000000000 := by
  obtain ⟨_, m, _⟩ := carr_ok g w hc
  refine ⟨by omega, ?_⟩
  have h1 := (muchK_le (us := us) (ws := ws) (L := L) (m := min (rlk rows us ws x) (clk cols us ws c)) L.length).2
  cases w.p with
  | @col _ _ i L' h hv hc t =>
    have h2 := h1 0 (Nat.zero_lt_succ _)
    rw [if_pos rfl] at h2
    change muchF rows cols us ws (i :: L') x c ≤ (us.getD i nou).2.2.2 - ws.getD i 0 at h2
    have hi := (w.kn i (List.mem_cons_self ..)).1
    have h3 := ok i hi
    have h4 := g.b i hi
    omega
def sp_Leading_lead (K : PySem.W.Frag) (mg : Str → Option Value) : Sp := fun vs H Q _ => match vs with | [.ref x] => ∃ dx pr pc pu pw uv rows cols us ws, Ld K mg H x dx pr pc pu pw uv rows cols us ws ∧ pw ≠ pr ∧ pw ≠ pc ∧ pw ≠ pu ∧ Good rows cols us ws ∧ ∀ pS pO pt H', H pS = none → H pO = none → pS ≠ pO → (∀ b o, H b = some o → b ≠ pw → H' b = some o) → H' pw = some (.lst ((leadF rows cols us ws).map V.int)) → H' pS = some (.lst ((selL rows.length (spr rows us (leadF rows cols us ws)).1).map V.int)) → H' pO = some (.lst ((selL cols.length (spr rows us (leadF rows cols us ws)).2).map V.int)) → H' pt = some (.tup [.ref pS, .ref pO]) → Q (.ref pt) H' | _ => False
theorem q_Leading_lead {H : Hp} {Q : VK} {E : XK} {x : Addr} (q : ∃ dx pr pc pu pw uv rows cols us ws, Ld K mg H x dx pr pc pu pw uv rows cols us ws ∧ pw ≠ pr ∧ pw ≠ pc ∧ pw ≠ pu ∧ Good rows cols us ws ∧ ∀ pS pO pt H', H pS = none → H pO = none → pS ≠ pO → (∀ b o, H b = some o → b ≠ pw → H' b = some o) → H' pw = some (.lst ((leadF rows cols us ws).map V.int)) → H' pS = some (.lst ((selL rows.length (spr rows us (leadF rows cols us ws)).1).map V.int)) → H' pO = some (.lst ((selL cols.length (spr rows us (leadF rows cols us ws)).2).map V.int)) → H' pt = some (.tup [.ref pS, .ref pO]) → Q (.ref pt) H') : sp_Leading_lead K mg [.ref x] H Q E := q
local macro_rules | `(tactic| walk_at "op") => `(tactic| with_reducible refine q_Leading_lead ?_)
theorem c_Leading_lead (T : Txt K mg) : Met P w K mg base 3 (cA mg "Leading") "lead" (sp_Leading_lead K mg) := by
  refine MethAt.met T.k_Leading T.d_Leading_lead (k := 2) sc_Leading_lead (by intro vs H Q E h; unfold sp_Leading_lead at h; split at h <;> first | rfl | exact h.elim) fun f cdv A outer s H vs Q E hr h => ?_
  refine ⟨_, (pss_cons (ps_asg (pe_mt0 (c_Leading_spread_out T) hr (by decide) (pv 0)) (pg_tup rfl (pgs_cons (pg_name (i := 1) sc_Leading_lead.nd rfl (.inl rfl)) (pgs_cons (pg_name (i := 2) sc_Leading_lead.nd rfl (.inl rfl)) pgs_nil))))
    (pss_cons (ps_lock (ps_setLc (i := 3) (own := [("column", 4)]) (g := (gName 4)) (tt := (tTest (tOp (rI0 fun i j => .bl (decide (j < i))) (tMeth (cA mg "Leading") "column_lack" (sp_Leading_column_lack K mg) [] E0 (tVar 0) (tCons (tVar 4) tNil)) (tC (.int 0))))) (te := (tVar 4)) rfl sc_Leading_lead.nd rfl rfl (sw_true rfl rfl rfl (by decide +kernel)) (pi_keys (pv 2)) (blkOk_by (N := ["self", "some", "others", "open_columns", "column"]) (sc := defScope s_Leading_lead) (by decide +kernel)) (fun _ _ _ _ _ => by exact (pg_name (i := 4) sc_Leading_lead.nd rfl (.inl rfl))) (fun _ _ _ _ _ => by exact pts_one (pt_cmpR op_gt (pe_mt (c_Leading_column_lack T) hr (by decide) (pv 0) (pa_cons (pv 4) pa_nil)) pe_int (nomark _))) (fun _ _ _ _ _ => by exact (pv 4))))
    (pss_cons (ps_while PassesOwn.never (pt_cmpR (op_neA hr) (pv 3) (pe_lst pa_nil) (nomark _))
    (pss_cons (ps_expr (pe_mt (c_Leading_carry T) hr (by decide) (pv 0) (pa_cons (pv 1) (pa_cons (pv 2) (pa_cons (pe_ix ix_seq (pv 3) pe_int (fun _ _ => rfl)) pa_nil)))))
    (pss_cons (ps_asg (pe_mt0 (c_Leading_spread_out T) hr (by decide) (pv 0)) (pg_tup rfl (pgs_cons (pg_name (i := 1) sc_Leading_lead.nd rfl (.inl rfl)) (pgs_cons (pg_name (i := 2) sc_Leading_lead.nd rfl (.inl rfl)) pgs_nil))))
    (pss_one (ps_lock (ps_setLc (i := 3) (own := [("column", 4)]) (g := (gName 4)) (tt := (tTest (tOp (rI0 fun i j => .bl (decide (j < i))) (tMeth (cA mg "Leading") "column_lack" (sp_Leading_column_lack K mg) [] E0 (tVar 0) (tCons (tVar 4) tNil)) (tC (.int 0))))) (te := (tVar 4)) rfl sc_Leading_lead.nd rfl rfl (sw_true rfl rfl rfl (by decide +kernel)) (pi_keys (pv 2)) (blkOk_by (N := ["self", "some", "others", "open_columns", "column"]) (sc := defScope s_Leading_lead) (by decide +kernel)) (fun _ _ _ _ _ => by exact (pg_name (i := 4) sc_Leading_lead.nd rfl (.inl rfl))) (fun _ _ _ _ _ => by exact pts_one (pt_cmpR op_gt (pe_mt (c_Leading_column_lack T) hr (by decide) (pv 0) (pa_cons (pv 4) pa_nil)) pe_int (nomark _))) (fun _ _ _ _ _ => by exact (pv 4))))))))
    (pss_one (ps_ret (pe_tup (pa_cons (pe_callB (cr_sortDI rfl) (by rfl) T.n_sorted (by decide +kernel) (pa_cons (pv 1) pa_nil)) (pa_cons (pe_callB (cr_sortDI rfl) (by rfl) T.n_sorted (by decide +kernel) (pa_cons (pv 2) pa_nil)) pa_nil)))))))), ?_⟩
  try simp only [cxOf_K, cxOf_K', cxOf_mg, cxOf_mg']
  unfold sp_Leading_lead at h
  split at h
  case h_2 => exact h.elim
  rename_i x
  rw [show L2.start ["self", "some", "others", "open_columns", "column"] [V.ref x] = [some (V.ref x), none, none, none, none] from rfl]
  obtain ⟨dx, pr, pc, pu, pw, uv, rows, cols, us, ws, hL, n1, n2, n3, hG, q⟩ := h
  obtain ⟨⟨n0, hLd⟩, hGF⟩ := leadF_ok hL.ok hG
  generalize leadF rows cols us ws = wF at *
  have hok := hL.ok
  have hlr := hL.lr
  have hlc := hL.lc
  walk_at "sts"
  refine L_methv hL.x rfl ?_
  walk_at "sts"
  refine ⟨dx, pr, pc, pu, pw, uv, rows, cols, us, ws, hL, fun ps po pt H1 s1 hps hpo nso e1s e1o e1t => ?_⟩
  walk_at "sts"
  refine L_gTup (.of e1t) rfl ?_
  walk_at "sts"
  have b1 := sprS_ok (ws := ws) hok rows.length
  refine ⟨po, _, e1o, trivial, fun od => ?_⟩
  walk_at "sts"
  have k1 : ∀ b o, H1 b = some o → b ≠ po → (upd H1 po (HO.frz od (.dK (dk (spr rows us ws).2)))) b = some o := fun b o hb n => by rw [upd_ne n]; exact hb
  have hLl := (hL.same s1).but e1o k1
  refine L_rk upd_same ?_
  refine lc_fm walk_keys (fun i => ((ky (spr rows us ws).2)[i]?.bind fun c => if decide (0 < clk cols us ws c) = true then some c else none).map V.int) (by unfold dk; rw [List.length_map]; have := pig cols.length _ b1.ndO b1.rO; unfold ky at this; rw [List.length_map] at this; change (spr rows us ws).2.length ≤ _ at this; omega) (fun H' e => e _ _ upd_same) ?_ ?_
  · rintro i x1 H2 H2' R R' hi s2 ⟨rfl, k, v, hkv, rfl⟩ r1 r2
    unfold dk at hkv
    rw [List.getElem?_map] at hkv
    obtain ⟨p, hp, e⟩ := Option.map_eq_some_iff.mp hkv
    cases e
    have hky : (ky (spr rows us ws).2)[i]? = some p.1 := by unfold ky; rw [List.getElem?_map, hp]; rfl
    have hrg := b1.rO p.1 (List.mem_of_getElem? hky)
    walk_at "sts"
    refine ⟨rfl, ?_⟩
    have hL2 := hLl.same s2
    walk_at "sts"
    refine L_methv hL2.x rfl ?_
    walk_at "sts"
    refine ⟨dx, pr, pc, pu, pw, uv, rows, cols, us, ws, hL2, hrg.1, hrg.2, fun H3 s3 => ?_⟩
    walk_at "sts"
    refine L_b (fun cc => ?_) (fun cc => ?_)
    · walk_at "sts"
      exact r1 _ _ (by rw [hky]; show ((if decide (0 < clk cols us ws p.1) = true then some p.1 else none)).map V.int = _; rw [if_pos cc]; rfl) s3
    · exact r2 _ (by rw [hky]; show ((if decide (0 < clk cols us ws p.1) = true then some p.1 else none)).map V.int = _; rw [if_neg (by rw [cc]; decide)]; rfl) s3
  intro pq H2 hpq s2 e2q
  rw [fm_int, show (dk (spr rows us ws).2).length = (ky (spr rows us ws).2).length from by unfold dk ky; rw [List.length_map, List.length_map], fm_bind, fm_filter] at e2q
  change H2 pq = some (.lst ((openC rows cols us ws).map V.int)) at e2q
  walk_at "sts"
  refine ⟨s2 _ _ upd_same, ?_⟩
  have s3 : Same H1 (upd H2 po (.dK (dk (spr rows us ws).2))) := same_lock e1o s2
  have e3q : (upd H2 po (.dK (dk (spr rows us ws).2))) pq = _ := (upd_ne fun z => by rw [z, upd_same] at hpq; cases hpq).trans e2q
  generalize upd H2 po (.dK (dk (spr rows us ws).2)) = H3 at s3 e3q ⊢
  walk_at "sts"
  refine L_while (fun m σ' H' => ∃ (v4 : Option V) (wc : List Int) (ps po pq : Addr), σ' = [some (.ref x), some (.ref ps), some (.ref po), some (.ref pq), v4] ∧ (∀ b o, H b = some o → b ≠ pw → H' b = some o) ∧ H' pw = some (.lst (wc.map V.int)) ∧ H' ps = some (.dK (dk (spr rows us wc).1)) ∧ H' po = some (.dK (dk (spr rows us wc).2)) ∧ H' pq = some (.lst ((openC rows cols us wc).map V.int)) ∧ H po = none ∧ H ps = none ∧ ps ≠ po ∧ Lds rows cols us wc wF m ∧ Good rows cols us wc) ⟨n0, _, ws, ps, po, pq, rfl, fun b o hb _ => s3 _ _ (s1 _ _ hb), s3 _ _ (s1 _ _ hL.w), s3 _ _ e1s, s3 _ _ e1o, e3q, hpo, hps, nso, hLd, hG⟩ ?_
  clear hLl b1 e1s e1o e1t k1 e2q e3q hpq s2 s3 hps hpo nso s1 hLd
  rintro m σ' H4 ⟨v4, wc, ps, po, pq, rfl, k4, e4w, e4s, e4o, e4q, hpo, hps, nso, hLd, hGc⟩
  have hL4 := hL.wt n1 n2 n3 k4 e4w (by have := hGc.l; have := hL.l; omega)
  walk_at "sts"
  walk_at "nw"
  rename_i pn hpn H5 s5 en
  refine L_neD (d := .list ((openC rows cols us wc).map .int)) (.lst (.of (s5 _ _ e4q)) (dp_ints _)) (.lst (.of en) .nil) (shp_ints (n := 0)).ok (shp_lst (n := 0) shp_nil).ok ?_
  rw [eqv_nil, List.isEmpty_map]
  have hL5 := hL4.same s5
  have npw : ∀ {b}, H b = none → b ≠ pw := fun h z => by rw [z, hL.w] at h; cases h
  cases hLd with
  | stop hem =>
    rw [hem, List.isEmpty_nil, Bool.not_true]
    have b4 := sprS_ok (ws := wF) hok rows.length
    walk_at "sts"
    refine L_sortD (n := rows.length) (by omega) (s5 _ _ e4s) b4.ndS b4.rS fun p1 hp1 => ?_
    have s6 := same_newE rfl hp1 (o := .lst ((selL rows.length (spr rows us wF).1).map V.int))
    have e6 : (upd H5 p1 (.lst ((selL rows.length (spr rows us wF).1).map V.int))) p1 = _ := upd_same
    generalize upd H5 p1 (.lst ((selL rows.length (spr rows us wF).1).map V.int)) = H6 at s6 e6 ⊢
    walk_at "sts"
    refine L_sortD (n := cols.length) (by omega) (s6 _ _ (s5 _ _ e4o)) b4.ndO b4.rO fun p2 hp2 => ?_
    have s7 := same_newE rfl hp2 (o := .lst ((selL cols.length (spr rows us wF).2).map V.int))
    have e7 : (upd H6 p2 (.lst ((selL cols.length (spr rows us wF).2).map V.int))) p2 = _ := upd_same
    generalize upd H6 p2 (.lst ((selL cols.length (spr rows us wF).2).map V.int)) = H7 at s7 e7 ⊢
    walk_at "sts"
    walk_at "nw"
    rename_i p3 hp3 H8 s8 e8
    have fr : ∀ {b}, H4 b = none → H b = none := fun {b} h => by
      cases e : H b with
      | none => rfl
      | some o =>
        by_cases n : b = pw
        · rw [n, e4w] at h; cases h
        · rw [k4 _ _ e n] at h; cases h
    exact q p1 p2 p3 H8 (fr (s5.free hp1)) (fr (s5.free (s6.free hp2))) (fun z => by rw [← z, e6] at hp2; cases hp2) (fun b o hb n => s8 _ _ (s7 _ _ (s6 _ _ (s5 _ _ (k4 _ _ hb n))))) (s8 _ _ (s7 _ _ (s6 _ _ (s5 _ _ e4w)))) (s8 _ _ (s7 _ _ e6)) (s8 _ _ e7) e8
  | @step _ _ n hne t =>
    rw [show (openC rows cols us wc).isEmpty = false from by cases h : openC rows cols us wc with | nil => exact absurd h hne | cons a l => rfl, Bool.not_false]
    obtain ⟨m1, m2⟩ := openC_mem (headD_mem hne)
    have b4 := sprS_ok (ws := wc) hok rows.length
    have w4 := wayOf_ok (ws := wc) hok m1
    have c4 := b4.rO _ m1
    have r4 := roots_mem w4.rt.1
    have mb := much_b hok hGc w4 m2
    obtain ⟨gS, _⟩ := stepL_ok hok hGc hne
    have hlen : 0 < (openC rows cols us wc).length := List.length_pos_iff.mpr hne
    walk_at "sts"
    refine L_N ?_
    walk_at "sts"
    refine L_methv hL5.x rfl ?_
    walk_at "sts"
    refine L_ixL (.of (s5 _ _ e4q)) (atI_ints (by decide) (by omega)) ?_
    rw [show (0 : Int).toNat = 0 from rfl, ← headD_get]
    walk_at "sts"
    have wl : (wayOf rows us wc ((openC rows cols us wc).headD 0)).1.length ≤ 100 := by
      have h1 := w4.len
      have h2 := pig rows.length _ b4.ndS b4.rS
      have h3 := pig cols.length _ b4.ndO b4.rO
      unfold ky at h2 h3
      rw [List.length_map] at h2 h3
      change (spr rows us wc).1.length ≤ _ at h2
      change (spr rows us wc).2.length ≤ _ at h3
      omega
    refine ⟨dx, pr, pc, pu, pw, uv, rows, cols, us, wc, _, _, _, _, hL5, n1, n2, n3, s5 _ _ e4s, s5 _ _ e4o, w4.p, fun i hi => (w4.kn i hi).1, wl, r4.1, r4.2.1, c4.1, c4.2, mb.1, mb.2, fun H6 k6 e6w => ?_⟩
    change H6 pw = some (.lst ((stepL rows cols us wc).map V.int)) at e6w
    generalize stepL rows cols us wc = wn at *
    have hL6 := hL5.wt n1 n2 n3 k6 e6w (by have := gS.l; have := hGc.l; omega)
    have k06 : ∀ b o, H b = some o → b ≠ pw → H6 b = some o := fun b o hb n => k6 _ _ (s5 _ _ (k4 _ _ hb n)) n
    have fr : ∀ {b}, H6 b = none → H b = none := fun {b} h => by
      cases e : H b with
      | none => rfl
      | some o =>
        by_cases n : b = pw
        · rw [n, e6w] at h; cases h
        · rw [k06 _ _ e n] at h; cases h
    walk_at "sts"
    refine L_methv hL6.x rfl ?_
    walk_at "sts"
    refine ⟨dx, pr, pc, pu, pw, uv, rows, cols, us, wn, hL6, fun ps po pt H1 s1 hps hpo nso e1s e1o e1t => ?_⟩
    walk_at "sts"
    refine L_gTup (.of e1t) rfl ?_
    walk_at "sts"
    have b1 := sprS_ok (ws := wn) hok rows.length
    refine ⟨po, _, e1o, trivial, fun od => ?_⟩
    walk_at "sts"
    have k1 : ∀ b o, H1 b = some o → b ≠ po → (upd H1 po (HO.frz od (.dK (dk (spr rows us wn).2)))) b = some o := fun b o hb n => by rw [upd_ne n]; exact hb
    have hLl := (hL6.same s1).but e1o k1
    refine L_rk upd_same ?_
    refine lc_fm walk_keys (fun i => ((ky (spr rows us wn).2)[i]?.bind fun c => if decide (0 < clk cols us wn c) = true then some c else none).map V.int) (by unfold dk; rw [List.length_map]; have := pig cols.length _ b1.ndO b1.rO; unfold ky at this; rw [List.length_map] at this; change (spr rows us wn).2.length ≤ _ at this; omega) (fun H' e => e _ _ upd_same) ?_ ?_
    · rintro i x1 H2 H2' R R' hi s2 ⟨rfl, k, v, hkv, rfl⟩ r1 r2
      unfold dk at hkv
      rw [List.getElem?_map] at hkv
      obtain ⟨p, hp, e⟩ := Option.map_eq_some_iff.mp hkv
      cases e
      have hky : (ky (spr rows us wn).2)[i]? = some p.1 := by unfold ky; rw [List.getElem?_map, hp]; rfl
      have hrg := b1.rO p.1 (List.mem_of_getElem? hky)
      walk_at "sts"
      refine ⟨rfl, ?_⟩
      have hL2 := hLl.same s2
      walk_at "sts"
      refine L_methv hL2.x rfl ?_
      walk_at "sts"
      refine ⟨dx, pr, pc, pu, pw, uv, rows, cols, us, wn, hL2, hrg.1, hrg.2, fun H3 s3 => ?_⟩
      walk_at "sts"
      refine L_b (fun cc => ?_) (fun cc => ?_)
      · walk_at "sts"
        exact r1 _ _ (by rw [hky]; show ((if decide (0 < clk cols us wn p.1) = true then some p.1 else none)).map V.int = _; rw [if_pos cc]; rfl) s3
      · exact r2 _ (by rw [hky]; show ((if decide (0 < clk cols us wn p.1) = true then some p.1 else none)).map V.int = _; rw [if_neg (by rw [cc]; decide)]; rfl) s3
    intro pq H2 hpq s2 e2q
    rw [fm_int, show (dk (spr rows us wn).2).length = (ky (spr rows us wn).2).length from by unfold dk ky; rw [List.length_map, List.length_map], fm_bind, fm_filter] at e2q
    change H2 pq = some (.lst ((openC rows cols us wn).map V.int)) at e2q
    walk_at "sts"
    refine ⟨s2 _ _ upd_same, ?_⟩
    have s3 : Same H1 (upd H2 po (.dK (dk (spr rows us wn).2))) := same_lock e1o s2
    have e3q : (upd H2 po (.dK (dk (spr rows us wn).2))) pq = _ := (upd_ne fun z => by rw [z, upd_same] at hpq; cases hpq).trans e2q
    generalize upd H2 po (.dK (dk (spr rows us wn).2)) = H3 at s3 e3q ⊢
    walk_at "sts"
    exact ⟨n, Nat.lt_succ_self n, _, wn, ps, po, pq, rfl, fun b o hb n => s3 _ _ (s1 _ _ (k06 _ _ hb n)), s3 _ _ (s1 _ _ e6w), s3 _ _ e1s, s3 _ _ e1o, e3q, fr hpo, fr hps, nso, t, gS⟩
/-! ### what is led -/
def NotT (K : PySem.W.Frag) (H : Hp) (v : V) : Prop := ∃ ty, TyX K H v (.type ty) ∧ kitB ty "tuple" = some false
/-- a thing judged as a unit -/
def JU (K : PySem.W.Frag) (H : Hp) (nr nc : Nat) (v : V) (b : Bool) : Prop := (b = false ∧ NotT K H v) ∨ (b = false ∧ ∃ a xs, v = .ref a ∧ SqT K H a xs ∧ xs.length ≤ 1000 ∧ xs.length ≠ 4) ∨ ∃ a x y z w b1 b2 b3 b4, v = .ref a ∧ SqT K H a [x, y, z, w] ∧ Jw K H 0 ((nr : Int) - 1) x b1 ∧ Jw K H 0 ((nc : Int) - 1) y b2 ∧ Jw K H 0 1000000 z b3 ∧ (∀ lo, z = .int lo → Jw K H lo 1000000 w b4) ∧ b = (b1 && b2 && b3 && b4)
theorem NotT.same {K : PySem.W.Frag} {H H' : Hp} {v : V} (h : NotT K H v) (s : Same H H') : NotT K H' v := let ⟨ty, h1, h2⟩ := h; ⟨ty, TyX_same s h1, h2⟩
theorem JU.same {K : PySem.W.Frag} {H H' : Hp} {nr nc : Nat} {v : V} {b : Bool} (h : JU K H nr nc v b) (s : Same H H') : JU K H' nr nc v b := by
  rcases h with ⟨h1, h2⟩ | ⟨h1, a, xs, h2, h3, h4⟩ | ⟨a, x, y, z, w, b1, b2, b3, b4, h1, h2, h3, h4, h5, h6, h7⟩
  · exact .inl ⟨h1, h2.same s⟩
  · exact .inr (.inl ⟨h1, a, xs, h2, s.seqT h3, h4⟩)
  · exact .inr (.inr ⟨a, x, y, z, w, b1, b2, b3, b4, h1, s.seqT h2, h3.same s, h4.same s, h5.same s, fun lo e => (h6 lo e).same s, h7⟩)
def sp_is_unit (K : PySem.W.Frag) (mg : Str → Option Value) : Sp := fun vs H Q _ => match vs with | [v, .ref r, .ref c] => ∃ b xs ys, SqL K H r xs ∧ SqL K H c ys ∧ JU K H xs.length ys.length v b ∧ Q (.bl b) H | _ => False
theorem q_is_unit {H : Hp} {Q : VK} {E : XK} {v : V} {r : Addr} {c : Addr} (q : ∃ b xs ys, SqL K H r xs ∧ SqL K H c ys ∧ JU K H xs.length ys.length v b ∧ Q (.bl b) H) : sp_is_unit K mg [v, .ref r, .ref c] H Q E := q
local macro_rules | `(tactic| walk_at "op") => `(tactic| with_reducible refine q_is_unit ?_)
theorem c_is_unit (T : Txt K mg) : Cal P w K mg base 2 "is_unit" (sp_is_unit K mg) := by
  refine T.d_is_unit.cal (k := 1) sc_is_unit (by intro vs H Q E h; unfold sp_is_unit at h; split at h <;> first | rfl | exact h.elim) fun f cdv A outer s H vs Q E hr h => ?_
  refine ⟨_, (pss_cons (ps_if (PW.pt (pw_or (pt_not (pt_val (pe_callB call_isi (by rfl) T.n_isinstance (by decide +kernel) (pa_cons (pv 0) (pa_cons (pe_ty "tuple" (by rfl) T.n_tuple (by decide +kernel)) pa_nil))))) (pw_or1 (pt_cmpR (op_neA hr) (pe_callB call_lenA (by rfl) T.n_len (by decide +kernel) (pa_cons (pv 0) pa_nil)) pe_int (nomark _)))))
    (pss_one (ps_ret pe_bl))
    pss_nil)
    (pss_cons (ps_if (PW.pt (pw_or (pt_not (pt_val (pe_c (c_is_whole T) hr (by decide) (by rfl) (pa_cons (pe_ix ix_seq (pv 0) pe_int (fun _ _ => rfl)) (pa_cons pe_int (pa_cons (pe_op op_sub (pe_callB call_lenA (by rfl) T.n_len (by decide +kernel) (pa_cons (pv 1) pa_nil)) pe_int) pa_nil)))))) (pw_or1 (pt_not (pt_val (pe_c (c_is_whole T) hr (by decide) (by rfl) (pa_cons (pe_ix ix_seq (pv 0) pe_int (fun _ _ => rfl)) (pa_cons pe_int (pa_cons (pe_op op_sub (pe_callB call_lenA (by rfl) T.n_len (by decide +kernel) (pa_cons (pv 2) pa_nil)) pe_int) pa_nil)))))))))
    (pss_one (ps_ret pe_bl))
    pss_nil)
    (pss_one (ps_ret (pe_and (pe_c (c_is_whole T) hr (by decide) (by rfl) (pa_cons (pe_ix ix_seq (pv 0) pe_int (fun _ _ => rfl)) (pa_cons pe_int (pa_cons (pe_gc (by rfl) T.g_MOST_WEIGHT_led) pa_nil)))) (pe_one (pe_c (c_is_whole T) hr (by decide) (by rfl) (pa_cons (pe_ix ix_seq (pv 0) pe_int (fun _ _ => rfl)) (pa_cons (pe_ix ix_seq (pv 0) pe_int (fun _ _ => rfl)) (pa_cons (pe_gc (by rfl) T.g_MOST_WEIGHT_led) pa_nil)))))))))), ?_⟩
  try simp only [cxOf_K, cxOf_K', cxOf_mg, cxOf_mg']
  unfold sp_is_unit at h
  split at h
  case h_2 => exact h.elim
  rename_i v r c
  rw [show L2.start ["thing", "rows", "columns"] [v, V.ref r, V.ref c] = [some (v), some (V.ref r), some (V.ref c)] from rfl]
  obtain ⟨b, xs, ys, hr, hc, ⟨rfl, ty, h1, h2⟩ | ⟨rfl, a, zs, rfl, hT, hz, hn⟩ | ⟨a, x, y, z, w, b1, b2, b3, b4, rfl, hT, j1, j2, j3, j4, rfl⟩, q⟩ := h
  · walk_at "sts"
    refine L_isi h1 h2 ?_
    walk_at "sts"
    exact q
  · walk_at "sts"
    refine L_isi (tyx_T hT) (b := true) (by decide +kernel) ?_
    walk_at "sts"
    refine L_lenT hT ?_
    walk_at "sts"
    refine L_ndT (by omega) ?_
    walk_at "sts"
    exact q
  · walk_at "sts"
    refine L_isi (tyx_T hT) (b := true) (by decide +kernel) ?_
    walk_at "sts"
    refine L_lenT hT ?_
    walk_at "sts"
    refine L_ndF rfl ?_
    walk_at "sts"
    refine L_ixT hT (atI_int (by decide) rfl) ?_
    walk_at "sts"
    refine L_lenL hr ?_
    walk_at "sts"
    refine q_wholeJ j1 ?_
    cases b1 with
    | false =>
      walk_at "sts"
      exact q
    | true =>
      walk_at "sts"
      refine L_ixT hT (atI_int (by decide) rfl) ?_
      walk_at "sts"
      refine L_lenL hc ?_
      walk_at "sts"
      refine q_wholeJ j2 ?_
      cases b2 with
      | false =>
        walk_at "sts"
        exact q
      | true =>
        walk_at "sts"
        refine L_ixT hT (atI_int (by decide) rfl) ?_
        walk_at "sts"
        refine q_wholeJ j3 ?_
        cases b3 with
        | false =>
          walk_at "sts"
          exact q
        | true =>
          rcases j3 with ⟨_, t, rfl, _⟩ | ⟨z, _⟩
          · walk_at "sts"
            refine L_ixT hT (atI_int (by decide) rfl) ?_
            walk_at "sts"
            refine L_ixT hT (atI_int (by decide) rfl) ?_
            walk_at "sts"
            refine q_wholeJ (j4 t rfl) ?_
            walk_at "sts"
            exact q
          · cases z
theorem JS.same {K : PySem.W.Frag} {H H' : Hp} {v : V} {b : Bool} (h : JS K H v b) (s : Same H H') : JS K H' v b := by
  rcases h with ⟨h1, h2⟩ | ⟨a, xs, bs, h1, h2, h3, h4, h5⟩
  · exact .inl ⟨h1.same s, h2⟩
  · exact .inr ⟨a, xs, bs, h1, s.seq h2, h3, paired_imp2 (fun _ _ h => h.same s) h4, h5⟩
/-- a thing judged as a list of units -/
def JUs (K : PySem.W.Frag) (H : Hp) (r c u : V) (b : Bool) : Prop := ∃ ra ca xs ys, r = .ref ra ∧ c = .ref ca ∧ SqL K H ra xs ∧ SqL K H ca ys ∧ ((b = false ∧ NotL K H u) ∨ ∃ a us bs, u = .ref a ∧ SqL K H a us ∧ us.length ≤ 1000 ∧ Paired (JU K H xs.length ys.length) us bs ∧ b = (!decide (24 < us.length) && bs.all id))
theorem JUs.same {K : PySem.W.Frag} {H H' : Hp} {r c u : V} {b : Bool} (h : JUs K H r c u b) (s : Same H H') : JUs K H' r c u b := by
  obtain ⟨ra, ca, xs, ys, h1, h2, h3, h4, ⟨h5, h6⟩ | ⟨a, us, bs, h5, h6, h7, h8, h9⟩⟩ := h
  · exact ⟨ra, ca, xs, ys, h1, h2, s.seq h3, s.seq h4, .inl ⟨h5, h6.same s⟩⟩
  · exact ⟨ra, ca, xs, ys, h1, h2, s.seq h3, s.seq h4, .inr ⟨a, us, bs, h5, s.seq h6, h7, paired_imp2 (fun _ _ h => h.same s) h8, h9⟩⟩
/-- sums and units judged -/
structure JL (K : PySem.W.Frag) (H : Hp) (r c u : V) (br bc bu : Bool) : Prop where
  jr : JS K H r br
  jc : br = true → JS K H c bc
  ju : br = true → bc = true → JUs K H r c u bu
theorem JL.same {K : PySem.W.Frag} {H H' : Hp} {r c u : V} {br bc bu : Bool} (h : JL K H r c u br bc bu) (s : Same H H') : JL K H' r c u br bc bu := ⟨h.jr.same s, fun e => (h.jc e).same s, fun e f => (h.ju e f).same s⟩
def sp_look_led (K : PySem.W.Frag) (mg : Str → Option Value) : Sp := fun vs H Q E => match vs with | [r, c, u] => ∃ br bc bu, JL K H r c u br bc bu ∧ ((br && bc && bu) = true → ∀ H', Same H H' → Q .non H') ∧ ((br && bc && bu) = false → ∀ H', Same H H' → E (.ref (cA mg "NoBounds")) none H') | _ => False
theorem q_look_led {H : Hp} {Q : VK} {E : XK} {r : V} {c : V} {u : V} (q : ∃ br bc bu, JL K H r c u br bc bu ∧ ((br && bc && bu) = true → ∀ H', Same H H' → Q .non H') ∧ ((br && bc && bu) = false → ∀ H', Same H H' → E (.ref (cA mg "NoBounds")) none H')) : sp_look_led K mg [r, c, u] H Q E := q
local macro_rules | `(tactic| walk_at "op") => `(tactic| with_reducible refine q_look_led ?_)
theorem c_look_led (T : Txt K mg) : CalX P w K mg base 3 "look_led" (sp_look_led K mg) := by
  refine T.d_look_led.calX (k := 2) sc_look_led (by intro vs H Q E h; unfold sp_look_led at h; split at h <;> first | rfl | exact h.elim) fun f cdv A outer s H vs Q E hr h => ?_
  refine ⟨_, (pss_cons (ps_if (PW.pt (pw_or (pt_not (pt_val (pe_c (c_are_sums T) hr (by decide) (by rfl) (pa_cons (pv 0) pa_nil)))) (pw_or (pt_not (pt_val (pe_c (c_are_sums T) hr (by decide) (by rfl) (pa_cons (pv 1) pa_nil)))) (pw_or (pt_not (pt_val (pe_callB call_isi (by rfl) T.n_isinstance (by decide +kernel) (pa_cons (pv 2) (pa_cons (pe_ty "list" (by rfl) T.n_list (by decide +kernel)) pa_nil))))) (pw_or1 (pt_cmpR op_gt (pe_callB call_lenA (by rfl) T.n_len (by decide +kernel) (pa_cons (pv 2) pa_nil)) (pe_gc (by rfl) T.g_MOST_UNITS) (nomark _)))))))
    (pss_one (ps_raise rfl (takes_of rfl rfl rfl rfl) (pmk_own0 T.x_NoBounds T.m_NoBounds (by rfl))))
    pss_nil)
    (pss_one (ps_for (passes_of rfl) rfl (pi_list (pv 2)) (pg_name (i := 3) sc_look_led.nd rfl (.inl rfl))
    (pss_one (ps_if (pt_not (pt_val (pe_c (c_is_unit T) hr (by decide) (by rfl) (pa_cons (pv 3) (pa_cons (pv 0) (pa_cons (pv 1) pa_nil))))))
    (pss_one (ps_raise rfl (takes_of rfl rfl rfl rfl) (pmk_own0 T.x_NoBounds T.m_NoBounds (by rfl))))
    pss_nil))))), ?_⟩
  try simp only [cxOf_K, cxOf_K', cxOf_mg, cxOf_mg']
  unfold sp_look_led at h
  split at h
  case h_2 => exact h.elim
  rename_i r c u
  rw [show L2.start ["rows", "columns", "units", "unit"] [r, c, u] = [some (r), some (c), some (u), none] from rfl]
  obtain ⟨br, bc, bu, hJ, q, e⟩ := h
  walk_at "sts"
  refine ⟨br, hJ.jr, fun H1 s1 => ?_⟩
  cases br with
  | false =>
    walk_at "sts"
    exact e rfl _ s1
  | true =>
  walk_at "sts"
  refine ⟨bc, (hJ.jc rfl).same s1, fun H2 s2 => ?_⟩
  have s02 := s1.trans s2
  cases bc with
  | false =>
    walk_at "sts"
    exact e rfl _ s02
  | true =>
  walk_at "sts"
  obtain ⟨ra, ca, xs, ys, rfl, rfl, hr, hc, ⟨rfl, ty, h1, h2⟩ | ⟨a, us, bs, rfl, hu, hl, hP, rfl⟩⟩ := hJ.ju rfl rfl
  · refine L_isi (TyX_same s02 h1) h2 ?_
    walk_at "sts"
    exact e rfl _ s02
  refine L_isi (tyx_L (s02.seq hu)) (b := true) (by decide +kernel) ?_
  walk_at "sts"
  refine L_lenL (s02.seq hu) ?_
  walk_at "sts"
  by_cases hz : 24 < us.length
  · refine L_dT (by omega) ?_
    walk_at "sts"
    exact e (by rw [decide_eq_true hz]; rfl) _ s02
  refine L_dF (by omega) ?_
  walk_at "sts"
  refine L_rl (s02.seq hu) ?_
  have hbl := Paired.length hP
  refine f_it walk_list (fun i σ' H' => ∃ v3 : Option V, σ' = [some (.ref ra), some (.ref ca), some (.ref a), v3] ∧ H' = H2 ∧ ∀ j < i, bs[j]? = some true) ⟨_, rfl, rfl, fun j hj => absurd hj (Nat.not_lt_zero _)⟩ (fun _ _ _ _ ⟨_, _, z, _⟩ => z ▸ s02.seq hu) ?_ ?_
  · rintro i x1 σ' H3 H3' hi ⟨v3, rfl, rfl, hb⟩ ⟨rfl, hx1⟩
    obtain ⟨b, hb1, hj⟩ := paired_at2 hP hx1
    walk_at "sts"
    refine ⟨b, xs, ys, s02.seq hr, s02.seq hc, hj.same s02, ?_⟩
    cases b with
    | true =>
      walk_at "sts"
      refine ⟨_, rfl, rfl, fun j hj => ?_⟩
      by_cases c : j = i
      · rw [c]; exact hb1
      · exact hb j (by omega)
    | false =>
      walk_at "sts"
      refine e ?_ _ s02
      rw [show bs.all id = false from List.all_eq_false.mpr ⟨false, List.mem_of_getElem? hb1, by decide⟩, Bool.and_false, Bool.and_false]
  · rintro σ' H3 ⟨v3, rfl, rfl, hb⟩
    walk_at "sts"
    refine q ?_ _ s02
    rw [decide_eq_false hz, show bs.all id = true from List.all_eq_true.mpr fun b hm => ?_]
    · rfl
    · obtain ⟨j, hj⟩ := List.getElem?_of_mem hm
      have hj' := (List.getElem?_eq_some_iff.mp hj).1
      rw [hb j (by omega)] at hj
      cases hj
      rfl
/-- good sums and units -/
structure GL (K : PySem.W.Frag) (H : Hp) (r c u : V) (pr pc pu : Addr) (uv : List V) (rows cols : List Int) (us : List UN) : Prop where
  er : r = .ref pr
  ec : c = .ref pc
  eu : u = .ref pu
  r : SqL K H pr (rows.map V.int)
  c : SqL K H pc (cols.map V.int)
  u : SqL K H pu uv
  up : Paired (T4 K H) uv us
  lr : rows.length ≤ 6
  lc : cols.length ≤ 6
  l24 : us.length ≤ 24
  rr : ∀ x ∈ rows, 0 ≤ x ∧ x ≤ 24000000
  rc : ∀ x ∈ cols, 0 ≤ x ∧ x ≤ 24000000
  ok : OkUs us rows.length cols.length
theorem GL.same {K : PySem.W.Frag} {H H' : Hp} {r c u : V} {pr pc pu : Addr} {uv : List V} {rows cols : List Int} {us : List UN} (h : GL K H r c u pr pc pu uv rows cols us) (s : Same H H') : GL K H' r c u pr pc pu uv rows cols us :=
  ⟨h.er, h.ec, h.eu, s.seq h.r, s.seq h.c, s.seq h.u, paired_imp2 (fun _ _ h => h.same s) h.up, h.lr, h.lc, h.l24, h.rr, h.rc, h.ok⟩
theorem js_good {K : PySem.W.Frag} {H : Hp} {p : Addr} {rows : List Int} (h : SqL K H p (rows.map V.int)) (hl : rows.length ≤ 6) (hr : ∀ x ∈ rows, 0 ≤ x ∧ x ≤ 24000000) : JS K H (.ref p) true := by
  refine .inr ⟨p, _, rows.map fun _ => true, rfl, h, by rw [List.length_map]; omega, ?_, ?_⟩
  · clear h hl
    induction rows with
    | nil => exact .nil
    | cons x r ih => exact .cons (.inl ⟨rfl, x, rfl, hr x (List.mem_cons_self ..)⟩) (ih fun y hy => hr y (List.mem_cons_of_mem _ hy))
  · rw [List.length_map, decide_eq_false (by omega)]
    simp
theorem GL.j {K : PySem.W.Frag} {H : Hp} {r c u : V} {pr pc pu : Addr} {uv : List V} {rows cols : List Int} {us : List UN} (h : GL K H r c u pr pc pu uv rows cols us) : JL K H r c u true true true := by
  obtain ⟨rfl, rfl, rfl, h1, h2, h3, h4, h5, h6, h7, h8, h9, h10⟩ := h
  refine ⟨js_good h1 h5 h8, fun _ => js_good h2 h6 h9, fun _ _ => ⟨pr, pc, _, _, rfl, rfl, h1, h2, .inr ⟨pu, uv, us.map fun _ => true, rfl, h3, by have := Paired.length h4; omega, ?_, ?_⟩⟩⟩
  · rw [List.length_map, List.length_map]
    clear h3 h7
    induction h4 with
    | nil => exact .nil
    | @cons v u uv us hv t ih =>
      obtain ⟨a, rfl, hT⟩ := hv
      have k := h10 0 (Nat.zero_lt_succ _)
      change (0 ≤ u.1 ∧ u.1 < (rows.length : Int)) ∧ (0 ≤ u.2.1 ∧ u.2.1 < (cols.length : Int)) ∧ 0 ≤ u.2.2.1 ∧ u.2.2.1 ≤ u.2.2.2 ∧ u.2.2.2 ≤ 1000000 at k
      refine .cons (.inr (.inr ⟨a, _, _, _, _, true, true, true, true, rfl, hT, .inl ⟨rfl, _, rfl, by omega, by omega⟩, .inl ⟨rfl, _, rfl, by omega, by omega⟩, .inl ⟨rfl, _, rfl, by omega, by omega⟩, fun lo e => ?_, rfl⟩)) (ih fun i hi => h10 (i + 1) (Nat.succ_lt_succ hi))
      cases e
      exact .inl ⟨rfl, _, rfl, by omega, by omega⟩
  · have := Paired.length h4
    rw [decide_eq_false (by omega)]
    simp
/-- what is told, laid in the heap -/
def TellQ (H : Hp) (t : Told) (Q : VK) : Prop := match t with
  | .wts ws => ∀ pw pt H', H pw = none → Same H H' → H' pw = some (.lst (ws.map V.int)) → H' pt = some (.tup [.str "weights", .ref pw]) → Q (.ref pt) H'
  | .cut over S O => ∀ pS pO pt H', H pS = none → H pO = none → pS ≠ pO → Same H H' → H' pS = some (.lst (S.map V.int)) → H' pO = some (.lst (O.map V.int)) → H' pt = some (.tup [.str "none", .str (if over = true then "over" else "under"), .ref pS, .ref pO]) → Q (.ref pt) H'
/-- what is told, laid anew -/
def TL (H H' : Hp) (pt : Addr) : Told → Prop
  | .wts ws => ∃ pw, H pw = none ∧ H' pw = some (.lst (ws.map V.int)) ∧ H' pt = some (.tup [.str "weights", .ref pw])
  | .cut o S O => ∃ pS pO, H pS = none ∧ H pO = none ∧ pS ≠ pO ∧ H' pS = some (.lst (S.map V.int)) ∧ H' pO = some (.lst (O.map V.int)) ∧ H' pt = some (.tup [.str "none", .str (if o = true then "over" else "under"), .ref pS, .ref pO])
theorem tellQ {H : Hp} {Q : VK} {t : Told} (h : ∀ pt H', Same H H' → TL H H' pt t → Q (.ref pt) H') : TellQ H t Q := by
  cases t with
  | wts ws => exact fun pw pt H' n s e1 e2 => h pt H' s ⟨pw, n, e1, e2⟩
  | cut o S O => exact fun pS pO pt H' n1 n2 n3 s e1 e2 e3 => h pt H' s ⟨pS, pO, n1, n2, n3, e1, e2, e3⟩
theorem L_lstRg {te : L2.St → Hp → (Int → Int → Hp → Prop) → Prop} {σ : L2.St} {H : Hp} {Q : VK} (h : te σ H fun a b H1 => RgOk a b ∧ ∀ q, H1 q = none → Q (.ref q) (upd H1 q (.lst (rgV a b)))) : tLstRg te σ H Q := h
theorem L_rg1 {ta : TE} {σ : L2.St} {H : Hp} {Q : Int → Int → Hp → Prop} (h : ta σ H fun x H1 => ∃ n, x = .int n ∧ Q 0 n H1) : tRg1 ta σ H Q := h
theorem rgV_rng (n : Nat) : rgV 0 (n : Int) = (rng n).map V.int := by
  unfold rgV rng
  rw [List.map_map, Int.sub_zero, Int.toNat_natCast]
  congr 1
  funext i
  rw [Int.zero_add]
  rfl
theorem find_rng {p : Int → Bool} : ∀ {n i : Nat}, i < n → (∀ j < i, p (j : Int) = false) → p (i : Int) = true → (rng n).find? p = some (i : Int) := by
  intro n i hi h1 h2
  refine List.find?_eq_some_iff_append.mpr ⟨h2, rng i, (List.range (n - i - 1)).map fun k : Nat => ((i + 1 + k : Nat) : Int), ?_, fun k hk => ?_⟩
  · unfold rng
    refine List.ext_getElem (by simp; omega) fun k h1 h2 => ?_
    simp at h1
    rw [List.getElem_append]
    split
    · rename_i h
      simp
    · rename_i h
      simp at h
      cases e : k - i with
      | zero => simp [e]; omega
      | succ m => simp [e]; omega
  · obtain ⟨k0, k1⟩ := rng_mem.mp hk
    have := h1 k.toNat (by omega)
    rw [show ((k.toNat : Nat) : Int) = k by omega] at this
    rw [this]; rfl
theorem find_rngN {p : Int → Bool} {n : Nat} (h : ∀ j < n, p (j : Int) = false) : (rng n).find? p = none := by
  refine List.find?_eq_none.mpr fun k hk => ?_
  obtain ⟨k0, k1⟩ := rng_mem.mp hk
  have := h k.toNat (by omega)
  rw [show ((k.toNat : Nat) : Int) = k by omega] at this
  rw [this]; decide
def sp_led (K : PySem.W.Frag) (mg : Str → Option Value) : Sp := fun vs H Q E => match vs with | [r, c, u] => (∃ br bc bu, JL K H r c u br bc bu ∧ (br && bc && bu) = false ∧ ∀ H', Same H H' → E (.ref (cA mg "NoBounds")) none H') ∨ ∃ pr pc pu uv rows cols us, GL K H r c u pr pc pu uv rows cols us ∧ TellQ H (ledF rows cols us) Q | _ => False
theorem q_led {H : Hp} {Q : VK} {E : XK} {r : V} {c : V} {u : V} (q : (∃ br bc bu, JL K H r c u br bc bu ∧ (br && bc && bu) = false ∧ ∀ H', Same H H' → E (.ref (cA mg "NoBounds")) none H') ∨ ∃ pr pc pu uv rows cols us, GL K H r c u pr pc pu uv rows cols us ∧ TellQ H (ledF rows cols us) Q) : sp_led K mg [r, c, u] H Q E := q
local macro_rules | `(tactic| walk_at "op") => `(tactic| with_reducible refine q_led ?_)
theorem c_led (T : Txt K mg) : CalX P w K mg base 4 "led" (sp_led K mg) := by
  refine T.d_led.calX (k := 3) sc_led (by intro vs H Q E h; unfold sp_led at h; split at h <;> first | rfl | exact h.elim) fun f cdv A outer s H vs Q E hr h => ?_
  refine ⟨_, (pss_cons (ps_expr (pe_xS (c_look_led T) hr (by decide) (by rfl) (fun σ => passAt (takes_of rfl rfl rfl rfl) σ) (pa_cons (pv 0) (pa_cons (pv 1) (pa_cons (pv 2) pa_nil)))))
    (pss_cons (ps_set (i := 3) sc_led.nd rfl (.inl rfl) (pe_mk (m_Leading T) hr (by decide) (by rfl) (pa_cons (pe_callTy call_list1A (by rfl) T.n_list (by decide +kernel) (pa_cons (pv 0) pa_nil)) (pa_cons (pe_callTy call_list1A (by rfl) T.n_list (by decide +kernel) (pa_cons (pv 1) pa_nil)) (pa_cons (pe_callTy call_list1A (by rfl) T.n_list (by decide +kernel) (pa_cons (pv 2) pa_nil)) pa_nil)))))
    (Evl.pss_cut (ps_for (passes_of rfl) rfl (pi_range1 (by rfl) T.n_range (pa_cons (pe_callB call_lenA (by rfl) T.n_len (by decide +kernel) (pa_cons (pv 0) pa_nil)) pa_nil)) (pg_name (i := 4) sc_led.nd rfl (.inl rfl))
    (pss_one (ps_if (pt_cmpR op_ltA (pe_mt (c_Leading_row_lack T) hr (by decide) (pv 3) (pa_cons (pv 4) pa_nil)) pe_int (nomark _))
    (pss_one (ps_ret (pe_tup (pa_cons pe_str (pa_cons pe_str (pa_cons (pe_lst (pa_cons (pv 4) pa_nil)) (pa_cons (pe_lst pa_nil) pa_nil)))))))
    pss_nil)))
    (Evl.pss_cut (ps_for (passes_of rfl) rfl (pi_range1 (by rfl) T.n_range (pa_cons (pe_callB call_lenA (by rfl) T.n_len (by decide +kernel) (pa_cons (pv 1) pa_nil)) pa_nil)) (pg_name (i := 5) sc_led.nd rfl (.inl rfl))
    (pss_one (ps_if (pt_cmpR op_ltA (pe_mt (c_Leading_column_lack T) hr (by decide) (pv 3) (pa_cons (pv 5) pa_nil)) pe_int (nomark _))
    (pss_one (ps_ret (pe_tup (pa_cons pe_str (pa_cons pe_str (pa_cons (pe_lst pa_nil) (pa_cons (pe_lst (pa_cons (pv 5) pa_nil)) pa_nil)))))))
    pss_nil)))
    (pss_cons (ps_asg (pe_mt0 (c_Leading_lead T) hr (by decide) (pv 3)) (pg_tup rfl (pgs_cons (pg_name (i := 6) sc_led.nd rfl (.inl rfl)) (pgs_cons (pg_name (i := 7) sc_led.nd rfl (.inl rfl)) pgs_nil))))
    (pss_cons (ps_if (pt_cmpR (op_neA hr) (pv 6) (pe_lst pa_nil) (nomark _))
    (pss_one (ps_ret (pe_tup (pa_cons pe_str (pa_cons pe_str (pa_cons (pv 6) (pa_cons (pv 7) pa_nil)))))))
    pss_nil)
    (pss_cons (ps_if (pt_cmpR op_ltA (pe_callB (cr_sum rfl) (by rfl) T.n_sum (by decide +kernel) (pa_cons (pv 0) pa_nil)) (pe_callB (cr_sum rfl) (by rfl) T.n_sum (by decide +kernel) (pa_cons (pv 1) pa_nil)) (nomark _))
    (pss_one (ps_ret (pe_tup (pa_cons pe_str (pa_cons pe_str (pa_cons (pe_listRg rfl (by rfl) T.n_list (prg_1 (by rfl) T.n_range (pe_callB call_lenA (by rfl) T.n_len (by decide +kernel) (pa_cons (pv 0) pa_nil)))) (pa_cons (pe_listRg rfl (by rfl) T.n_list (prg_1 (by rfl) T.n_range (pe_callB call_lenA (by rfl) T.n_len (by decide +kernel) (pa_cons (pv 1) pa_nil)))) pa_nil)))))))
    pss_nil)
    (pss_one (ps_ret (pe_tup (pa_cons pe_str (pa_cons (pe_fld (pv 3) rfl) pa_nil)))))))))))), ?_⟩
  try simp only [cxOf_K, cxOf_K', cxOf_mg, cxOf_mg']
  unfold sp_led at h
  split at h
  case h_2 => exact h.elim
  rename_i r c u
  rw [show L2.start ["rows", "columns", "units", "leading", "row", "column", "some", "others"] [r, c, u] = [some (r), some (c), some (u), none, none, none, none, none] from rfl]
  rcases h with ⟨br, bc, bu, hJ, hf, e⟩ | ⟨pr, pc, pu, uv, rows, cols, us, hG, q⟩
  · walk_at "sts"
    exact ⟨br, bc, bu, hJ, fun z => by rw [hf] at z; (cases z), fun _ => e⟩
  have hJ := hG.j
  obtain ⟨rfl, rfl, rfl, hr, hc, hu, hup, lr, lc, l24, rr, rc, ok⟩ := hG
  walk_at "sts"
  refine ⟨true, true, true, hJ, fun _ H1 s1 => ?_, fun z => nomatch z⟩
  walk_at "sts"
  refine L_list1 (s1.seq hr) fun qr hqr => ?_
  have s2 := same_newE rfl hqr (o := .lst (rows.map V.int))
  have e2 : (upd H1 qr (.lst (rows.map V.int))) qr = _ := upd_same
  generalize upd H1 qr (.lst (rows.map V.int)) = H2 at s2 e2 ⊢
  have s02 := s1.trans s2
  walk_at "sts"
  refine L_list1 (s02.seq hc) fun qc hqc => ?_
  have s3 := same_newE rfl hqc (o := .lst (cols.map V.int))
  have e3 : (upd H2 qc (.lst (cols.map V.int))) qc = _ := upd_same
  generalize upd H2 qc (.lst (cols.map V.int)) = H3 at s3 e3 ⊢
  have s03 := s02.trans s3
  walk_at "sts"
  refine L_list1 (s03.seq hu) fun qu hqu => ?_
  have s4 := same_newE rfl hqu (o := .lst uv)
  have e4 : (upd H3 qu (.lst uv)) qu = _ := upd_same
  generalize upd H3 qu (.lst uv) = H4 at s4 e4 ⊢
  have s04 := s03.trans s4
  have hup4 : Paired (T4 K H4) uv us := paired_imp2 (fun _ _ h => h.same s04) hup
  walk_at "sts"
  intro x dx hx hdx ndx
  have s5 : Same H4 (upd (upd H4 dx (.own x)) x (.ins (cA mg "Leading") dx [])) := same_upd (same_new hdx) (by rw [upd_ne (Ne.symm ndx)]; exact hx)
  have e5 : (upd (upd H4 dx (.own x)) x (.ins (cA mg "Leading") dx [])) x = _ := upd_same
  generalize upd (upd H4 dx (.own x)) x (.ins (cA mg "Leading") dx []) = H5 at s5 e5 ⊢
  have hup5 : Paired (T4 K H5) uv us := paired_imp2 (fun _ _ h => h.same s5) hup4
  refine ⟨dx, uv, rows, cols, us, e5, s5 _ _ (s4 _ _ (s3 _ _ e2)), s5 _ _ (s4 _ _ e3), s5 _ _ e4, hup5, l24, fun pw H6 hpw k6 e6x e6w => ⟨rfl, ?_⟩⟩
  have ne : ∀ {b o}, H4 b = some o → b ≠ x := fun h z => by rw [z, hx] at h; cases h
  have s46 : Same H4 H6 := fun b o hb => k6 _ _ (s5 _ _ hb) (ne hb)
  have s06 := s04.trans s46
  have f04 : ∀ {b}, H4 b = none → H b = none := fun h => s04.free h
  have hlw : us.length = (lows us).length := by unfold lows; rw [List.length_map]
  have hup6 : Paired (T4 K H6) uv us := paired_imp2 (fun _ _ h => h.same s46) hup4
  have hLd : Ld K mg H6 x dx qr qc qu pw uv rows cols us (lows us) := ⟨e6x, s46 _ _ (s4 _ _ (s3 _ _ e2)), s46 _ _ (s4 _ _ e3), s46 _ _ e4, hup6, e6w, ok, hlw, l24, lr, lc⟩
  have hpw4 : H4 pw = none := by
    cases h : H4 pw with
    | none => rfl
    | some o => rw [s5 _ _ h] at hpw; cases hpw
  have hpw0 := f04 hpw4
  have n1 : pw ≠ qr := fun z => by rw [z, s4 _ _ (s3 _ _ e2)] at hpw4; cases hpw4
  have n2 : pw ≠ qc := fun z => by rw [z, s4 _ _ e3] at hpw4; cases hpw4
  have n3 : pw ≠ qu := fun z => by rw [z, e4] at hpw4; cases hpw4
  have hr6 := s06.seq hr
  have hc6 := s06.seq hc
  clear hup4 hup5 hup6 e4 e3 e2 s2 s3 s4 s02 s03 hqu hqc hqr s5 e5 hdx ndx hpw k6 ne hx hpw4 f04 s04 s46 s1 hJ hup e6x e6w
  walk_at "sts"
  refine L_cut (Mid := fun σ' H' => ∃ (v4 : Option V), σ' = [some (.ref pr), some (.ref pc), some (.ref pu), some (.ref x), v4, none, none, none] ∧ Same H6 H' ∧ ∀ j < rows.length, decide (rlk rows us (lows us) (j : Int) < 0) = false) ?_ ?_
  · walk_at "sts"
    refine L_lenL hr6 ?_
    rw [List.length_map]
    refine L_r1 (by omega) (by omega) ?_
    rw [Int.toNat_natCast]
    refine f_range (fun i σ' H' => ∃ (v4 : Option V), σ' = [some (.ref pr), some (.ref pc), some (.ref pu), some (.ref x), v4, none, none, none] ∧ Same H6 H' ∧ ∀ j < i, decide (rlk rows us (lows us) (j : Int) < 0) = false) ⟨_, rfl, .refl _, fun j hj => absurd hj (Nat.not_lt_zero _)⟩ ?_ ?_
    · rintro i σ' H7 hi ⟨v4, rfl, s7, hz⟩
      rw [Int.zero_add]
      have hL7 := hLd.same s7
      walk_at "sts"
      refine L_methv hL7.x rfl ?_
      walk_at "sts"
      refine ⟨dx, qr, qc, qu, pw, uv, rows, cols, us, lows us, hL7, by omega, by omega, fun H8 s8 => ?_⟩
      walk_at "sts"
      refine L_d (fun cc => ?_) (fun cc => ?_)
      · walk_at "sts"
        walk_at "nw"
        rename_i p9 hp9 H9 s9 e9
        walk_at "sts"
        walk_at "nw"
        rename_i p10 hp10 H10 s10 e10
        walk_at "sts"
        walk_at "nw"
        rename_i p11 hp11 H11 s11 e11
        have sA := (s06.trans s7).trans (s8.trans (s9.trans (s10.trans s11)))
        rw [show ledF rows cols us = .cut false [(i : Int)] [] from by unfold ledF; rw [find_rng hi hz (decide_eq_true cc)]] at q
        exact q p9 p10 p11 _ ((s06.trans (s7.trans s8)).free hp9) ((s06.trans (s7.trans (s8.trans s9))).free hp10) (fun z => by rw [← z, e9] at hp10; cases hp10) sA (s11 _ _ (s10 _ _ e9)) (s11 _ _ e10) e11
      · walk_at "sts"
        refine ⟨_, rfl, s7.trans s8, fun j hj => ?_⟩
        by_cases c : j = i
        · rw [c]; exact decide_eq_false cc
        · exact hz j (by omega)
    · rintro σ' H7 h
      exact h
  rintro σ' H7 ⟨v4, rfl, s7, hz⟩
  have hrow := find_rngN (p := fun r => decide (rlk rows us (lows us) r < 0)) hz
  refine L_cut (Mid := fun σ' H' => ∃ (v4 v5 : Option V), σ' = [some (.ref pr), some (.ref pc), some (.ref pu), some (.ref x), v4, v5, none, none] ∧ Same H6 H' ∧ ∀ j < cols.length, decide (clk cols us (lows us) (j : Int) < 0) = false) ?_ ?_
  · walk_at "sts"
    refine L_lenL (s7.seq hc6) ?_
    rw [List.length_map]
    refine L_r1 (by omega) (by omega) ?_
    rw [Int.toNat_natCast]
    refine f_range (fun i σ' H' => ∃ (v5 : Option V), σ' = [some (.ref pr), some (.ref pc), some (.ref pu), some (.ref x), v4, v5, none, none] ∧ Same H6 H' ∧ ∀ j < i, decide (clk cols us (lows us) (j : Int) < 0) = false) ⟨_, rfl, s7, fun j hj => absurd hj (Nat.not_lt_zero _)⟩ ?_ ?_
    · rintro i σ' H7 hi ⟨v5, rfl, s7, hz⟩
      rw [Int.zero_add]
      have hL7 := hLd.same s7
      walk_at "sts"
      refine L_methv hL7.x rfl ?_
      walk_at "sts"
      refine ⟨dx, qr, qc, qu, pw, uv, rows, cols, us, lows us, hL7, by omega, by omega, fun H8 s8 => ?_⟩
      walk_at "sts"
      refine L_d (fun cc => ?_) (fun cc => ?_)
      · walk_at "sts"
        walk_at "nw"
        rename_i p9 hp9 H9 s9 e9
        walk_at "sts"
        walk_at "nw"
        rename_i p10 hp10 H10 s10 e10
        walk_at "sts"
        walk_at "nw"
        rename_i p11 hp11 H11 s11 e11
        have sA := (s06.trans s7).trans (s8.trans (s9.trans (s10.trans s11)))
        rw [show ledF rows cols us = .cut true [] [(i : Int)] from by unfold ledF; rw [hrow, find_rng hi hz (decide_eq_true cc)]] at q
        exact q p9 p10 p11 _ ((s06.trans (s7.trans s8)).free hp9) ((s06.trans (s7.trans (s8.trans s9))).free hp10) (fun z => by rw [← z, e9] at hp10; cases hp10) sA (s11 _ _ (s10 _ _ e9)) (s11 _ _ e10) e11
      · walk_at "sts"
        refine ⟨_, rfl, s7.trans s8, fun j hj => ?_⟩
        by_cases c : j = i
        · rw [c]; exact decide_eq_false cc
        · exact hz j (by omega)
    · rintro σ' H7 ⟨v5, h1, h2⟩
      exact ⟨_, v5, h1, h2⟩
  rintro σ' H8 ⟨v4, v5, rfl, s8, hzc⟩
  have hcol := find_rngN (p := fun c => decide (clk cols us (lows us) c < 0)) hzc
  have g0 : Good rows cols us (lows us) := ⟨hlw, fun i hi => by rw [lows_at us hi]; exact ⟨Int.le_refl _, (ok i hi).2.2.2.1⟩, fun k k0 k1 => by
    have := of_decide_eq_false (hz k.toNat (by omega))
    rw [show ((k.toNat : Nat) : Int) = k by omega] at this
    omega, fun k k0 k1 => by
    have := of_decide_eq_false (hzc k.toNat (by omega))
    rw [show ((k.toNat : Nat) : Int) = k by omega] at this
    omega⟩
  have hL8 := hLd.same s8
  have s08 := s06.trans s8
  have eF : ledF rows cols us = if (spr rows us (leadF rows cols us (lows us))).1 ≠ [] then .cut true (selL rows.length (spr rows us (leadF rows cols us (lows us))).1) (selL cols.length (spr rows us (leadF rows cols us (lows us))).2) else if rows.sum < cols.sum then .cut false (rng rows.length) (rng cols.length) else .wts (leadF rows cols us (lows us)) := by
    unfold ledF; rw [hrow, hcol]
  rw [eF] at q
  clear eF
  walk_at "sts"
  refine L_methv hL8.x rfl ?_
  walk_at "sts"
  refine ⟨dx, qr, qc, qu, pw, uv, rows, cols, us, lows us, hL8, n1, n2, n3, g0, fun pS pO pt H9 hpS hpO nSO k9 e9w e9S e9O e9t => ?_⟩
  generalize leadF rows cols us (lows us) = wF at *
  have s09 : Same H H9 := fun b o hb => k9 _ _ (s08 _ _ hb) fun z => by rw [z, hpw0] at hb; cases hb
  have bF := sprS_ok (ws := wF) ok rows.length
  have hem : (selL rows.length (spr rows us wF).1).isEmpty = (spr rows us wF).1.isEmpty := by
    cases h : (spr rows us wF).1 with
    | nil => unfold selL; simp [ky]
    | cons p d =>
      have hm : p.1 ∈ selL rows.length (spr rows us wF).1 := (selL_mem bF.rS p.1).mpr (by unfold ky; rw [show (sprS rows us wF rows.length).2.1 = (spr rows us wF).1 from rfl, h]; exact List.mem_cons_self ..)
      rw [h] at hm
      cases h2 : selL rows.length (p :: d) with
      | nil => rw [h2] at hm; cases hm
      | cons a l => rfl
  refine L_gTup (.of e9t) rfl ?_
  walk_at "sts"
  walk_at "nw"
  rename_i pn hpn H10 s10 en
  refine L_neD (d := .list ((selL rows.length (spr rows us wF).1).map .int)) (.lst (.of (s10 _ _ e9S)) (dp_ints _)) (.lst (.of en) .nil) (shp_ints (n := 0)).ok (shp_lst (n := 0) shp_nil).ok ?_
  rw [eqv_nil, List.isEmpty_map, hem]
  have s010 := s09.trans s10
  by_cases hs : (spr rows us wF).1 = []
  · rw [if_neg (fun z => z hs)] at q
    rw [hs, List.isEmpty_nil, Bool.not_true]
    walk_at "sts"
    refine L_sum (s010.seq hr) ?_
    walk_at "sts"
    refine L_sum (s010.seq hc) ?_
    walk_at "sts"
    refine L_d (fun cc => ?_) (fun cc => ?_)
    · rw [if_pos cc] at q
      walk_at "sts"
      refine L_lstRg (L_rg1 ?_)
      walk_at "sts"
      refine L_lenL (s010.seq hr) ?_
      rw [List.length_map]
      refine ⟨_, rfl, .of_le (by decide) (by omega) (by decide) (by omega), fun p11 hp11 => ?_⟩
      rw [rgV_rng]
      have s11 := same_newE rfl hp11 (o := .lst ((rng rows.length).map V.int))
      have e11 : (upd H10 p11 (.lst ((rng rows.length).map V.int))) p11 = _ := upd_same
      generalize upd H10 p11 (.lst ((rng rows.length).map V.int)) = H11 at s11 e11 ⊢
      walk_at "sts"
      refine L_lstRg (L_rg1 ?_)
      walk_at "sts"
      refine L_lenL ((s010.trans s11).seq hc) ?_
      rw [List.length_map]
      refine ⟨_, rfl, .of_le (by decide) (by omega) (by decide) (by omega), fun p12 hp12 => ?_⟩
      rw [rgV_rng]
      have s12 := same_newE rfl hp12 (o := .lst ((rng cols.length).map V.int))
      have e12 : (upd H11 p12 (.lst ((rng cols.length).map V.int))) p12 = _ := upd_same
      generalize upd H11 p12 (.lst ((rng cols.length).map V.int)) = H12 at s12 e12 ⊢
      walk_at "sts"
      walk_at "nw"
      rename_i p13 hp13 H13 s13 e13
      exact q p11 p12 p13 _ (s010.free hp11) ((s010.trans s11).free hp12) (fun z => by rw [← z, e11] at hp12; cases hp12) (s010.trans (s11.trans (s12.trans s13))) (s13 _ _ (s12 _ _ e11)) (s13 _ _ e12) e13
    · rw [if_neg cc] at q
      walk_at "sts"
      refine L_fldv (s10 _ _ (k9 _ _ hL8.x (fun z => by have h := hL8.w; rw [← z, hL8.x] at h; cases h))) T.k_Leading T.na_Leading_weights rfl ?_
      walk_at "sts"
      walk_at "nw"
      rename_i p11 hp11 H11 s11 e11
      exact q pw p11 _ hpw0 (s010.trans s11) (s11 _ _ (s10 _ _ e9w)) e11
  · rw [if_pos hs] at q
    rw [show (spr rows us wF).1.isEmpty = false from by cases h : (spr rows us wF).1 with | nil => exact absurd h hs | cons a l => rfl, Bool.not_false]
    walk_at "sts"
    walk_at "nw"
    rename_i p11 hp11 H11 s11 e11
    exact q pS pO p11 _ (s08.free hpS) (s08.free hpO) nSO (s010.trans s11) (s11 _ _ (s10 _ _ e9S)) (s11 _ _ (s10 _ _ e9O)) e11
/-! ### whether what is told is right -/
theorem eqv_ints : ∀ a b : List Int, PyData.eqvAll (a.map .int) (b.map .int) = decide (a = b)
  | [], [] => by simp [PyData.eqvAll]
  | [], y :: b => by simp [PyData.eqvAll]
  | x :: a, [] => by simp [PyData.eqvAll]
  | x :: a, y :: b => by
    rw [List.map_cons, List.map_cons, PyData.eqvAll, eqv_ints a b, PyData.eqv]
    by_cases h : x = y
    · subst h; simp
    · simp [h]
theorem eqv_intL (a b : List Int) : PyData.eqv (.list (a.map .int)) (.list (b.map .int)) = decide (a = b) := by rw [PyData.eqv, eqv_ints]
/-- the numbers below n that stand in a list -/
def subN (n : Nat) (S : List Int) : List Int := (rng n).filter fun k => decide (k ∈ S)
theorem subN_fm (n : Nat) (S : List Int) : (List.range n).filterMap (fun i : Nat => if decide ((i : Int) ∈ S) = true then some (i : Int) else none) = subN n S := by
  unfold subN rng
  rw [← fm_filter, List.filterMap_map]
  rfl
def sp_are_numbers (K : PySem.W.Frag) (mg : Str → Option Value) : Sp := fun vs H Q _ => match vs with | [.ref a, .int m] => ∃ S : List Int, 0 ≤ m ∧ m ≤ 1000 ∧ SqL K H a (S.map V.int) ∧ ∀ H', Same H H' → Q (.bl (decide (S = subN m.toNat S))) H' | _ => False
theorem q_are_numbers {H : Hp} {Q : VK} {E : XK} {a : Addr} {m : Int} (q : ∃ S : List Int, 0 ≤ m ∧ m ≤ 1000 ∧ SqL K H a (S.map V.int) ∧ ∀ H', Same H H' → Q (.bl (decide (S = subN m.toNat S))) H') : sp_are_numbers K mg [.ref a, .int m] H Q E := q
local macro_rules | `(tactic| walk_at "op") => `(tactic| with_reducible refine q_are_numbers ?_)
theorem c_are_numbers (T : Txt K mg) : Cal P w K mg base 1 "are_numbers" (sp_are_numbers K mg) := by
  refine T.d_are_numbers.cal (k := 0) sc_are_numbers (by intro vs H Q E h; unfold sp_are_numbers at h; split at h <;> first | rfl | exact h.elim) fun f cdv A outer s H vs Q E hr h => ?_
  refine ⟨_, (pss_one (ps_ret (pe_cmpR (op_eqA hr) (pv 0) (pe_lc (own := [("number", 2)]) (g := (gName 2)) (tt := (tTest (tOp (aIn K) (tVar 2) (tVar 0)))) (te := (tVar 2)) rfl sc_are_numbers.nd (pi_range1 (by rfl) T.n_range (pa_cons (pv 1) pa_nil)) (blkOk_by (N := ["some", "many", "number"]) (sc := defScope s_are_numbers) (by decide +kernel)) (fun _ _ _ _ _ => by exact (pg_name (i := 2) sc_are_numbers.nd rfl (.inl rfl))) (fun _ _ _ _ _ => by exact pts_one (pt_cmpR op_inA (pv 2) (pv 0) (by rfl))) (fun _ _ _ _ _ => by exact (pv 2))) (nomark _)))), ?_⟩
  try simp only [cxOf_K, cxOf_K', cxOf_mg, cxOf_mg']
  unfold sp_are_numbers at h
  split at h
  case h_2 => exact h.elim
  rename_i a m
  rw [show L2.start ["some", "many", "number"] [V.ref a, V.int m] = [some (V.ref a), some (V.int m), none] from rfl]
  obtain ⟨S, h0, h1, hS, q⟩ := h
  walk_at "sts"
  refine L_r1 (by omega) (by omega) ?_
  refine lc_fm walk_range (fun i => (if decide ((i : Int) ∈ S) = true then some (i : Int) else none).map V.int) (by omega) (fun _ _ => True.intro) ?_ ?_
  · rintro i x1 H2 H2' R R' hi s2 ⟨rfl, rfl⟩ r1 r2
    change gName _ (V.int (0 + (i : Int))) _ _ _
    rw [Int.zero_add]
    walk_at "sts"
    refine ⟨rfl, ?_⟩
    walk_at "sts"
    refine L_inIs (s2.seq hS) ?_
    walk_at "sts"
    refine L_b (fun cc => ?_) (fun cc => ?_)
    · walk_at "sts"
      exact r1 _ _ (by show (if decide ((i : Int) ∈ S) = true then some (i : Int) else none).map V.int = _; rw [if_pos cc]; rfl) (.refl _)
    · exact r2 _ (by show (if decide ((i : Int) ∈ S) = true then some (i : Int) else none).map V.int = _; rw [if_neg (by rw [cc]; decide)]; rfl) (.refl _)
  · intro p H3 hp s3 e3
    rw [fm_int, subN_fm] at e3
    walk_at "sts"
    refine L_eqD (d := .list (S.map .int)) (e := .list ((subN m.toNat S).map .int)) (.lst (s3.seq hS) (dp_ints _)) (.lst (.of e3) (dp_ints _)) (shp_ints (n := 0)).ok (shp_ints (n := 0)).ok ?_
    rw [eqv_intL]
    exact q _ s3
/-- what is_cut answers -/
def cutB (word : Str) (rows cols : List Int) (us : List UN) (S O : List Int) : Bool := decide (S = subN rows.length S) && (decide (O = subN cols.length O) && if word = ("over" : Str) then cutOK true rows cols us S O else decide (word = ("under" : Str)) && cutOK false rows cols us S O)
theorem paired_flt {F : V → UN → Prop} (p : UN → Bool) : ∀ {uv : List V} {us : List UN}, Paired F uv us → Paired F ((List.range us.length).filterMap fun i => if p (us.getD i nou) = true then uv[i]? else none) (us.filter p)
  | _, _, .nil => .nil
  | v :: uv, u :: us, .cons h t => by
    have ih := paired_flt p t
    rw [List.length_cons, List.range_succ_eq_map, List.filterMap_cons, List.filterMap_map]
    have e : List.filterMap ((fun i => if p ((u :: us).getD i nou) = true then (v :: uv)[i]? else none) ∘ Nat.succ) (List.range us.length) = (List.range us.length).filterMap fun i => if p (us.getD i nou) = true then uv[i]? else none := rfl
    rw [e, List.filter_cons]
    by_cases c : p u = true
    · rw [if_pos c, show (if p ((u :: us).getD 0 nou) = true then (v :: uv)[0]? else none) = some v from if_pos c]
      exact .cons h ih
    · rw [if_neg c, show (if p ((u :: us).getD 0 nou) = true then (v :: uv)[0]? else none) = none from if_neg c]
      exact ih
theorem sumU_flt (p : UN → Bool) (f : UN → Int) : ∀ us : List UN, ((us.filter p).map f).sum = sumU p f us
  | [] => rfl
  | u :: us => by
    rw [List.filter_cons, sumU]
    by_cases c : p u = true
    · rw [if_pos c, if_pos c, List.map_cons, List.sum_cons, sumU_flt p f us]
    · rw [if_neg c, if_neg c, sumU_flt p f us, Int.zero_add]
theorem getD_hit {us : List UN} {i : Nat} {u : UN} (h : us[i]? = some u) : us.getD i nou = u := by rw [List.getD_eq_getElem?_getD, h]; rfl
def sp_is_cut (K : PySem.W.Frag) (mg : Str → Option Value) : Sp := fun vs H Q _ => match vs with | [.ref r, .ref c, .ref u, .ref t] => ∃ rows cols us uv word S O a b, SqL K H r (List.map V.int rows) ∧ SqL K H c (List.map V.int cols) ∧ SqL K H u uv ∧ Paired (T4 K H) uv us ∧ rows.length ≤ 6 ∧ cols.length ≤ 6 ∧ us.length ≤ 24 ∧ S.length ≤ 1000 ∧ O.length ≤ 1000 ∧ SqT K H t [.str word, .ref a, .ref b] ∧ SqL K H a (List.map V.int S) ∧ SqL K H b (List.map V.int O) ∧ ∀ H', Same H H' → Q (.bl (cutB word rows cols us S O)) H' | _ => False
theorem q_is_cut {H : Hp} {Q : VK} {E : XK} {r : Addr} {c : Addr} {u : Addr} {t : Addr} (q : ∃ rows cols us uv word S O a b, SqL K H r (List.map V.int rows) ∧ SqL K H c (List.map V.int cols) ∧ SqL K H u uv ∧ Paired (T4 K H) uv us ∧ rows.length ≤ 6 ∧ cols.length ≤ 6 ∧ us.length ≤ 24 ∧ S.length ≤ 1000 ∧ O.length ≤ 1000 ∧ SqT K H t [.str word, .ref a, .ref b] ∧ SqL K H a (List.map V.int S) ∧ SqL K H b (List.map V.int O) ∧ ∀ H', Same H H' → Q (.bl (cutB word rows cols us S O)) H') : sp_is_cut K mg [.ref r, .ref c, .ref u, .ref t] H Q E := q
local macro_rules | `(tactic| walk_at "op") => `(tactic| with_reducible refine q_is_cut ?_)
theorem c_is_cut (T : Txt K mg) : Cal P w K mg base 2 "is_cut" (sp_is_cut K mg) := by
  refine T.d_is_cut.cal (k := 1) sc_is_cut (by intro vs H Q E h; unfold sp_is_cut at h; split at h <;> first | rfl | exact h.elim) fun f cdv A outer s H vs Q E hr h => ?_
  refine ⟨_, (pss_cons (ps_asg (pv 3) (pg_tup rfl (pgs_cons (pg_name (i := 4) sc_is_cut.nd rfl (.inl rfl)) (pgs_cons (pg_name (i := 5) sc_is_cut.nd rfl (.inr rfl)) (pgs_cons (pg_name (i := 6) sc_is_cut.nd rfl (.inr rfl)) pgs_nil)))))
    (pss_cons (ps_if (PW.pt (pw_or (pt_not (pt_val (pe_c (c_are_numbers T) hr (by decide) (by rfl) (pa_cons (pv 5) (pa_cons (pe_callB call_lenA (by rfl) T.n_len (by decide +kernel) (pa_cons (pv 0) pa_nil)) pa_nil))))) (pw_or1 (pt_not (pt_val (pe_c (c_are_numbers T) hr (by decide) (by rfl) (pa_cons (pv 6) (pa_cons (pe_callB call_lenA (by rfl) T.n_len (by decide +kernel) (pa_cons (pv 1) pa_nil)) pa_nil))))))))
    (pss_one (ps_ret pe_bl))
    pss_nil)
    (pss_cons (ps_setLc (i := 7) (own := [("unit", 10)]) (g := (gName 10)) (tt := (tAnd (tTest (tOp (aIn K) (tOp (rIx K) (tVar 10) (tC (.int 0))) (tVar 5))) (tTest (tOp (aNotIn K) (tOp (rIx K) (tVar 10) (tC (.int 1))) (tVar 6))))) (te := (tVar 10)) rfl sc_is_cut.nd rfl rfl (sw_true rfl rfl rfl (by decide +kernel)) (pi_list (pv 2)) (blkOk_by (N := ["rows", "columns", "units", "told", "word", "some", "others", "outer", "inner", "more", "unit", "row", "column"]) (sc := defScope s_is_cut) (by decide +kernel)) (fun _ _ _ _ _ => by exact (pg_name (i := 10) sc_is_cut.nd rfl (.inl rfl))) (fun _ _ _ _ _ => by exact pts_one (PW.pt (pw_and (pt_cmpR op_inA (pe_ix ix_seq (pv 10) pe_int (fun _ _ => rfl)) (pv 5) (by rfl)) (pw_and1 (pt_cmpR op_notInA (pe_ix ix_seq (pv 10) pe_int (fun _ _ => rfl)) (pv 6) (by rfl)))))) (fun _ _ _ _ _ => by exact (pv 10)))
    (pss_cons (ps_setLc (i := 8) (own := [("unit", 10)]) (g := (gName 10)) (tt := (tAnd (tTest (tOp (aNotIn K) (tOp (rIx K) (tVar 10) (tC (.int 0))) (tVar 5))) (tTest (tOp (aIn K) (tOp (rIx K) (tVar 10) (tC (.int 1))) (tVar 6))))) (te := (tVar 10)) rfl sc_is_cut.nd rfl rfl (sw_true rfl rfl rfl (by decide +kernel)) (pi_list (pv 2)) (blkOk_by (N := ["rows", "columns", "units", "told", "word", "some", "others", "outer", "inner", "more", "unit", "row", "column"]) (sc := defScope s_is_cut) (by decide +kernel)) (fun _ _ _ _ _ => by exact (pg_name (i := 10) sc_is_cut.nd rfl (.inl rfl))) (fun _ _ _ _ _ => by exact pts_one (PW.pt (pw_and (pt_cmpR op_notInA (pe_ix ix_seq (pv 10) pe_int (fun _ _ => rfl)) (pv 5) (by rfl)) (pw_and1 (pt_cmpR op_inA (pe_ix ix_seq (pv 10) pe_int (fun _ _ => rfl)) (pv 6) (by rfl)))))) (fun _ _ _ _ _ => by exact (pv 10)))
    (pss_cons (ps_set (i := 9) sc_is_cut.nd rfl (.inl rfl) (pe_op op_sub (pe_callB (cr_sum rfl) (by rfl) T.n_sum (by decide +kernel) (pa_cons (pe_lc (own := [("row", 11)]) (g := (gName 11)) (tt := tYes) (te := (tOp (rIx K) (tVar 0) (tVar 11))) rfl sc_is_cut.nd (pi_list (pv 5)) (blkOk_by (N := ["rows", "columns", "units", "told", "word", "some", "others", "outer", "inner", "more", "unit", "row", "column"]) (sc := defScope s_is_cut) (by decide +kernel)) (fun _ _ _ _ _ => by exact (pg_name (i := 11) sc_is_cut.nd rfl (.inl rfl))) (fun _ _ _ _ _ => pts_nil) (fun _ _ _ _ _ => by exact (pe_ix ix_seq (pv 0) (pv 11) (fun _ _ => rfl)))) pa_nil)) (pe_callB (cr_sum rfl) (by rfl) T.n_sum (by decide +kernel) (pa_cons (pe_lc (own := [("column", 12)]) (g := (gName 12)) (tt := tYes) (te := (tOp (rIx K) (tVar 1) (tVar 12))) rfl sc_is_cut.nd (pi_list (pv 6)) (blkOk_by (N := ["rows", "columns", "units", "told", "word", "some", "others", "outer", "inner", "more", "unit", "row", "column"]) (sc := defScope s_is_cut) (by decide +kernel)) (fun _ _ _ _ _ => by exact (pg_name (i := 12) sc_is_cut.nd rfl (.inl rfl))) (fun _ _ _ _ _ => pts_nil) (fun _ _ _ _ _ => by exact (pe_ix ix_seq (pv 1) (pv 12) (fun _ _ => rfl)))) pa_nil))))
    (pss_cons (ps_if (pt_cmpR (op_eqA hr) (pv 4) pe_str (nomark _))
    (pss_one (ps_ret (pe_cmpR op_gt (pv 9) (pe_op op_sub (pe_callB (cr_sum rfl) (by rfl) T.n_sum (by decide +kernel) (pa_cons (pe_lc (own := [("unit", 10)]) (g := (gName 10)) (tt := tYes) (te := (tOp (rIx K) (tVar 10) (tC (.int 3)))) rfl sc_is_cut.nd (pi_list (pv 7)) (blkOk_by (N := ["rows", "columns", "units", "told", "word", "some", "others", "outer", "inner", "more", "unit", "row", "column"]) (sc := defScope s_is_cut) (by decide +kernel)) (fun _ _ _ _ _ => by exact (pg_name (i := 10) sc_is_cut.nd rfl (.inl rfl))) (fun _ _ _ _ _ => pts_nil) (fun _ _ _ _ _ => by exact (pe_ix ix_seq (pv 10) pe_int (fun _ _ => rfl)))) pa_nil)) (pe_callB (cr_sum rfl) (by rfl) T.n_sum (by decide +kernel) (pa_cons (pe_lc (own := [("unit", 10)]) (g := (gName 10)) (tt := tYes) (te := (tOp (rIx K) (tVar 10) (tC (.int 2)))) rfl sc_is_cut.nd (pi_list (pv 8)) (blkOk_by (N := ["rows", "columns", "units", "told", "word", "some", "others", "outer", "inner", "more", "unit", "row", "column"]) (sc := defScope s_is_cut) (by decide +kernel)) (fun _ _ _ _ _ => by exact (pg_name (i := 10) sc_is_cut.nd rfl (.inl rfl))) (fun _ _ _ _ _ => pts_nil) (fun _ _ _ _ _ => by exact (pe_ix ix_seq (pv 10) pe_int (fun _ _ => rfl)))) pa_nil))) (nomark _))))
    pss_nil)
    (pss_one (ps_ret (pe_and (pe_cmpR (op_eqA hr) (pv 4) pe_str (nomark _)) (pe_one (pe_cmpR op_gt (pe_op op_sub pe_int (pv 9)) (pe_op op_sub (pe_callB (cr_sum rfl) (by rfl) T.n_sum (by decide +kernel) (pa_cons (pe_lc (own := [("unit", 10)]) (g := (gName 10)) (tt := tYes) (te := (tOp (rIx K) (tVar 10) (tC (.int 3)))) rfl sc_is_cut.nd (pi_list (pv 8)) (blkOk_by (N := ["rows", "columns", "units", "told", "word", "some", "others", "outer", "inner", "more", "unit", "row", "column"]) (sc := defScope s_is_cut) (by decide +kernel)) (fun _ _ _ _ _ => by exact (pg_name (i := 10) sc_is_cut.nd rfl (.inl rfl))) (fun _ _ _ _ _ => pts_nil) (fun _ _ _ _ _ => by exact (pe_ix ix_seq (pv 10) pe_int (fun _ _ => rfl)))) pa_nil)) (pe_callB (cr_sum rfl) (by rfl) T.n_sum (by decide +kernel) (pa_cons (pe_lc (own := [("unit", 10)]) (g := (gName 10)) (tt := tYes) (te := (tOp (rIx K) (tVar 10) (tC (.int 2)))) rfl sc_is_cut.nd (pi_list (pv 7)) (blkOk_by (N := ["rows", "columns", "units", "told", "word", "some", "others", "outer", "inner", "more", "unit", "row", "column"]) (sc := defScope s_is_cut) (by decide +kernel)) (fun _ _ _ _ _ => by exact (pg_name (i := 10) sc_is_cut.nd rfl (.inl rfl))) (fun _ _ _ _ _ => pts_nil) (fun _ _ _ _ _ => by exact (pe_ix ix_seq (pv 10) pe_int (fun _ _ => rfl)))) pa_nil))) (nomark _)))))))))))), ?_⟩
  try simp only [cxOf_K, cxOf_K', cxOf_mg, cxOf_mg']
  unfold sp_is_cut at h
  split at h
  case h_2 => exact h.elim
  rename_i r c u t
  rw [show L2.start ["rows", "columns", "units", "told", "word", "some", "others", "outer", "inner", "more", "unit", "row", "column"] [V.ref r, V.ref c, V.ref u, V.ref t] = [some (V.ref r), some (V.ref c), some (V.ref u), some (V.ref t), none, none, none, none, none, none, none, none, none] from rfl]
  obtain ⟨rows, cols, us, uv, word, S, O, a, b, hr, hc, hu, hup, lr, lc, l24, lS, lO, ht, ha, hb, q⟩ := h
  have hul := Paired.length hup
  walk_at "sts"
  refine L_gTup ht rfl ?_
  walk_at "sts"
  refine L_lenL hr ?_
  rw [List.length_map]
  walk_at "sts"
  refine ⟨S, by omega, by omega, ha, fun H1 s1 => ?_⟩
  rw [Int.toNat_natCast]
  by_cases zS : S = subN rows.length S
  case neg =>
    unfold cutB at q
    rw [decide_eq_false zS] at q ⊢
    walk_at "sts"
    exact q _ s1
  rw [decide_eq_true zS]
  walk_at "sts"
  refine L_lenL (s1.seq hc) ?_
  rw [List.length_map]
  walk_at "sts"
  refine ⟨O, by omega, by omega, s1.seq hb, fun H2 s2 => ?_⟩
  rw [Int.toNat_natCast]
  by_cases zO : O = subN cols.length O
  case neg =>
    unfold cutB at q
    rw [decide_eq_false zO, decide_eq_true zS] at q
    rw [decide_eq_false zO]
    walk_at "sts"
    exact q _ (s1.trans s2)
  unfold cutB at q
  rw [decide_eq_true zO, decide_eq_true zS, Bool.true_and, Bool.true_and] at q
  rw [decide_eq_true zO]
  have s02 := s1.trans s2
  have rS : ∀ k ∈ S, 0 ≤ k ∧ k < (rows.length : Int) := fun k hk => by rw [zS] at hk; exact rng_mem.mp (List.mem_filter.mp hk).1
  have rO : ∀ k ∈ O, 0 ≤ k ∧ k < (cols.length : Int) := fun k hk => by rw [zO] at hk; exact rng_mem.mp (List.mem_filter.mp hk).1
  clear zS zO
  walk_at "sts"
  refine L_rl (s02.seq hu) ?_
  refine lc_fm walk_list (fun i => if outP S O (us.getD i nou) = true then uv[i]? else none) (by omega) (fun H' e => (s02.trans e).seq hu) ?_ ?_
  · rintro i x1 H3 H3' R R' hi s3 ⟨rfl, hx1⟩ r1 r2
    obtain ⟨u0, hu0, t0, rfl, ht0⟩ := paired_at2 hup hx1
    have s03 := s02.trans s3
    rw [show (if outP S O (us.getD i nou) = true then uv[i]? else none) = if (decide (u0.1 ∈ S) && !decide (u0.2.1 ∈ O)) = true then some (V.ref t0) else none from by rw [getD_hit hu0, hx1]; rfl] at r1 r2
    walk_at "sts"
    refine ⟨rfl, ?_⟩
    walk_at "sts"
    refine L_ixT (s03.seqT ht0) (atI_int (by decide) rfl) ?_
    walk_at "sts"
    refine L_inIs (s03.seq ha) ?_
    walk_at "sts"
    refine L_b (fun c1 => ?_) (fun c1 => ?_)
    · rw [c1, Bool.true_and] at r1 r2
      walk_at "sts"
      refine L_ixT (s03.seqT ht0) (atI_int (by decide) rfl) ?_
      walk_at "sts"
      refine L_notInIs (s03.seq hb) ?_
      walk_at "sts"
      refine L_b (fun c2 => ?_) (fun c2 => ?_)
      · walk_at "sts"
        exact r1 _ _ (if_pos c2) (.refl _)
      · exact r2 _ (if_neg (by rw [c2]; decide)) (.refl _)
    · rw [c1, Bool.false_and] at r2
      walk_at "sts"
      exact r2 _ (if_neg (by decide)) (.refl _)
  intro pou H3 hpou s3 e3
  rw [hul] at e3
  have hPo := paired_flt (outP S O) hup
  generalize (List.range us.length).filterMap (fun i => if outP S O (us.getD i nou) = true then uv[i]? else none) = uvo at e3 hPo
  have s03 := s02.trans s3
  walk_at "sts"
  refine L_rl (s03.seq hu) ?_
  refine lc_fm walk_list (fun i => if inP S O (us.getD i nou) = true then uv[i]? else none) (by omega) (fun H' e => (s03.trans e).seq hu) ?_ ?_
  · rintro i x1 H4 H4' R R' hi s4 ⟨rfl, hx1⟩ r1 r2
    obtain ⟨u0, hu0, t0, rfl, ht0⟩ := paired_at2 hup hx1
    have s04 := s03.trans s4
    rw [show (if inP S O (us.getD i nou) = true then uv[i]? else none) = if (!decide (u0.1 ∈ S) && decide (u0.2.1 ∈ O)) = true then some (V.ref t0) else none from by rw [getD_hit hu0, hx1]; rfl] at r1 r2
    walk_at "sts"
    refine ⟨rfl, ?_⟩
    walk_at "sts"
    refine L_ixT (s04.seqT ht0) (atI_int (by decide) rfl) ?_
    walk_at "sts"
    refine L_notInIs (s04.seq ha) ?_
    walk_at "sts"
    refine L_b (fun c1 => ?_) (fun c1 => ?_)
    · rw [c1, Bool.true_and] at r1 r2
      walk_at "sts"
      refine L_ixT (s04.seqT ht0) (atI_int (by decide) rfl) ?_
      walk_at "sts"
      refine L_inIs (s04.seq hb) ?_
      walk_at "sts"
      refine L_b (fun c2 => ?_) (fun c2 => ?_)
      · walk_at "sts"
        exact r1 _ _ (if_pos c2) (.refl _)
      · exact r2 _ (if_neg (by rw [c2]; decide)) (.refl _)
    · rw [c1, Bool.false_and] at r2
      walk_at "sts"
      exact r2 _ (if_neg (by decide)) (.refl _)
  intro pin H4 hpin s4 e4
  rw [hul] at e4
  have hPi := paired_flt (inP S O) hup
  generalize (List.range us.length).filterMap (fun i => if inP S O (us.getD i nou) = true then uv[i]? else none) = uvi at e4 hPi
  have s04 := s03.trans s4
  have e3 := s4 _ _ e3
  walk_at "sts"
  refine L_rl (s04.seq ha) ?_
  refine lc_fm walk_list (fun i => (S[i]?.map fun r => rows.getD r.toNat 0).map V.int) (by rw [List.length_map]; omega) (fun H' e => (s04.trans e).seq ha) ?_ ?_
  · rintro i x1 H5 H5' R R' hi s5 ⟨rfl, hx1⟩ r1 r2
    rw [List.getElem?_map] at hx1
    obtain ⟨k, hk, rfl⟩ := Option.map_eq_some_iff.mp hx1
    have kr := rS k (List.mem_of_getElem? hk)
    walk_at "sts"
    refine ⟨rfl, ?_⟩
    walk_at "sts"
    refine L_ixL ((s04.trans s5).seq hr) (atI_ints kr.1 kr.2) ?_
    exact r1 _ _ (by rw [hk]; rfl) (.refl _)
  intro p5 H5 hp5 s5 e5
  rw [fm_int, List.length_map, fm_get] at e5
  have s05 := s04.trans s5
  walk_at "sts"
  refine L_sum (.of e5) ?_
  walk_at "sts"
  refine L_rl (s05.seq hb) ?_
  refine lc_fm walk_list (fun i => (O[i]?.map fun r => cols.getD r.toNat 0).map V.int) (by rw [List.length_map]; omega) (fun H' e => (s05.trans e).seq hb) ?_ ?_
  · rintro i x1 H6 H6' R R' hi s6 ⟨rfl, hx1⟩ r1 r2
    rw [List.getElem?_map] at hx1
    obtain ⟨k, hk, rfl⟩ := Option.map_eq_some_iff.mp hx1
    have kr := rO k (List.mem_of_getElem? hk)
    walk_at "sts"
    refine ⟨rfl, ?_⟩
    walk_at "sts"
    refine L_ixL ((s05.trans s6).seq hc) (atI_ints kr.1 kr.2) ?_
    exact r1 _ _ (by rw [hk]; rfl) (.refl _)
  intro p6 H6 hp6 s6 e6
  rw [fm_int, List.length_map, fm_get] at e6
  have s06 := s05.trans s6
  walk_at "sts"
  refine L_sum (.of e6) ?_
  walk_at "sts"
  have e3 := s6 _ _ (s5 _ _ e3)
  have e4 := s6 _ _ (s5 _ _ e4)
  have hPo := paired_imp2 (fun _ _ h => h.same s06) hPo
  have hPi := paired_imp2 (fun _ _ h => h.same s06) hPi
  have hlo := Paired.length hPo
  have hli := Paired.length hPi
  have hfo := List.length_filter_le (outP S O) us
  have hfi := List.length_filter_le (inP S O) us
  change ∀ H', Same H H' → Q (.bl (if word = ("over" : Str) then decide (sumU (outP S O) hiU us - sumU (inP S O) loU us < sumL rows S - sumL cols O) else decide (word = ("under" : Str)) && decide (sumU (inP S O) hiU us - sumU (outP S O) loU us < sumL cols O - sumL rows S))) H' at q
  change Paired (T4 K H6) uvo (us.filter (outP S O)) at hPo
  change Paired (T4 K H6) uvi (us.filter (inP S O)) at hPi
  have eR : (S.map fun r => rows.getD r.toNat 0).sum = sumL rows S := rfl
  have eC : (O.map fun r => cols.getD r.toNat 0).sum = sumL cols O := rfl
  rw [eR, eC]
  clear e5 e6 hpou hpin hp5 hp6 s1 s2 s3 s4 s5 s6 s02 s03 s04 s05
  refine L_d (fun cw => ?_) (fun cw => ?_)
  · rw [if_pos cw] at q
    walk_at "sts"
    refine L_rl (.of e3) ?_
    refine lc_fm walk_list (fun i => ((us.filter (outP S O))[i]?.map hiU).map V.int) (by omega) (fun H' e => .of (e _ _ e3)) ?_ ?_
    · rintro i x1 H7 H7' R R' hi s7 ⟨rfl, hx1⟩ r1 r2
      obtain ⟨u0, hu0, t0, rfl, ht0⟩ := paired_at2 hPo hx1
      walk_at "sts"
      refine ⟨rfl, ?_⟩
      walk_at "sts"
      refine L_ixT (s7.seqT ht0) (atI_int (by decide) rfl) ?_
      exact r1 _ _ (by rw [hu0]; rfl) (.refl _)
    intro p7 H7 hp7 s7 e7
    rw [fm_int, hlo, fm_get] at e7
    walk_at "sts"
    refine L_sum (.of e7) ?_
    rw [sumU_flt]
    walk_at "sts"
    refine L_rl (.of (s7 _ _ e4)) ?_
    refine lc_fm walk_list (fun i => ((us.filter (inP S O))[i]?.map loU).map V.int) (by omega) (fun H' e => .of (e _ _ (s7 _ _ e4))) ?_ ?_
    · rintro i x1 H8 H8' R R' hi s8 ⟨rfl, hx1⟩ r1 r2
      obtain ⟨u0, hu0, t0, rfl, ht0⟩ := paired_at2 hPi hx1
      walk_at "sts"
      refine ⟨rfl, ?_⟩
      walk_at "sts"
      refine L_ixT ((s7.trans s8).seqT ht0) (atI_int (by decide) rfl) ?_
      exact r1 _ _ (by rw [hu0]; rfl) (.refl _)
    intro p8 H8 hp8 s8 e8
    rw [fm_int, hli, fm_get] at e8
    walk_at "sts"
    refine L_sum (.of e8) ?_
    rw [sumU_flt]
    walk_at "sts"
    exact q _ (s06.trans (s7.trans s8))
  · rw [if_neg cw] at q
    walk_at "sts"
    by_cases cu : word = ("under" : Str)
    case neg =>
      rw [decide_eq_false cu] at q ⊢
      walk_at "sts"
      exact q _ s06
    rw [decide_eq_true cu, Bool.true_and] at q
    rw [decide_eq_true cu]
    walk_at "sts"
    refine L_rl (.of e4) ?_
    refine lc_fm walk_list (fun i => ((us.filter (inP S O))[i]?.map hiU).map V.int) (by omega) (fun H' e => .of (e _ _ e4)) ?_ ?_
    · rintro i x1 H7 H7' R R' hi s7 ⟨rfl, hx1⟩ r1 r2
      obtain ⟨u0, hu0, t0, rfl, ht0⟩ := paired_at2 hPi hx1
      walk_at "sts"
      refine ⟨rfl, ?_⟩
      walk_at "sts"
      refine L_ixT (s7.seqT ht0) (atI_int (by decide) rfl) ?_
      exact r1 _ _ (by rw [hu0]; rfl) (.refl _)
    intro p7 H7 hp7 s7 e7
    rw [fm_int, hli, fm_get] at e7
    walk_at "sts"
    refine L_sum (.of e7) ?_
    rw [sumU_flt]
    walk_at "sts"
    refine L_rl (.of (s7 _ _ e3)) ?_
    refine lc_fm walk_list (fun i => ((us.filter (outP S O))[i]?.map loU).map V.int) (by omega) (fun H' e => .of (e _ _ (s7 _ _ e3))) ?_ ?_
    · rintro i x1 H8 H8' R R' hi s8 ⟨rfl, hx1⟩ r1 r2
      obtain ⟨u0, hu0, t0, rfl, ht0⟩ := paired_at2 hPo hx1
      walk_at "sts"
      refine ⟨rfl, ?_⟩
      walk_at "sts"
      refine L_ixT ((s7.trans s8).seqT ht0) (atI_int (by decide) rfl) ?_
      exact r1 _ _ (by rw [hu0]; rfl) (.refl _)
    intro p8 H8 hp8 s8 e8
    rw [fm_int, hlo, fm_get] at e8
    walk_at "sts"
    refine L_sum (.of e8) ?_
    rw [sumU_flt]
    walk_at "sts"
    rw [show decide (sumU (inP S O) hiU us - sumU (outP S O) loU us < 0 - (sumL rows S - sumL cols O)) = decide (sumU (inP S O) hiU us - sumU (outP S O) loU us < sumL cols O - sumL rows S) from decide_eq_decide.mpr (by omega)]
    exact q _ (s06.trans (s7.trans s8))
def inB (us : List UN) (ws : List Int) (i : Nat) : Bool := decide ((us.getD i nou).2.2.1 ≤ ws.getD i 0) && decide (ws.getD i 0 ≤ (us.getD i nou).2.2.2)
/-- what are_weights answers -/
def wtsB (rows cols : List Int) (us : List UN) (ws : List Int) : Bool := decide (ws.length = us.length) && ((List.range us.length).all (inB us ws) && !(((rng rows.length).map (rlk rows us ws)) ++ ((rng cols.length).map (clk cols us ws))).any (· != 0))
theorem wtsB_iff {rows cols : List Int} {us : List UN} {ws : List Int} : wtsB rows cols us ws = true ↔ WtsOK rows cols us ws := by
  unfold wtsB
  simp only [Bool.and_eq_true, decide_eq_true_eq, List.all_eq_true, List.mem_range, Bool.not_eq_true', List.any_eq_false, List.mem_append, List.mem_map, bne_iff_ne, ne_eq, Classical.not_not, inB]
  constructor
  · rintro ⟨h1, h2, h3⟩
    exact ⟨h1.symm, fun i hi => h2 i hi, fun k k0 k1 => h3 _ (.inl ⟨k, rng_mem.mpr ⟨k0, k1⟩, rfl⟩), fun k k0 k1 => h3 _ (.inr ⟨k, rng_mem.mpr ⟨k0, k1⟩, rfl⟩)⟩
  · rintro ⟨h1, h2, h3, h4⟩
    refine ⟨h1.symm, fun i hi => h2 i hi, ?_⟩
    rintro x (⟨k, hk, rfl⟩ | ⟨k, hk, rfl⟩)
    · exact h3 k (rng_mem.mp hk).1 (rng_mem.mp hk).2
    · exact h4 k (rng_mem.mp hk).1 (rng_mem.mp hk).2
def sp_are_weights (K : PySem.W.Frag) (mg : Str → Option Value) : Sp := fun vs H Q _ => match vs with | [.ref r, .ref c, .ref u, .ref w] => ∃ rows cols us uv ws, H r = some (.lst (List.map V.int rows)) ∧ H c = some (.lst (List.map V.int cols)) ∧ H u = some (.lst uv) ∧ Paired (T4 K H) uv us ∧ OkUs us rows.length cols.length ∧ rows.length ≤ 6 ∧ cols.length ≤ 6 ∧ us.length ≤ 24 ∧ H w = some (.lst (List.map V.int ws)) ∧ ∀ H', Same H H' → Q (.bl (wtsB rows cols us ws)) H' | _ => False
theorem q_are_weights {H : Hp} {Q : VK} {E : XK} {r : Addr} {c : Addr} {u : Addr} {w : Addr} (q : ∃ rows cols us uv ws, H r = some (.lst (List.map V.int rows)) ∧ H c = some (.lst (List.map V.int cols)) ∧ H u = some (.lst uv) ∧ Paired (T4 K H) uv us ∧ OkUs us rows.length cols.length ∧ rows.length ≤ 6 ∧ cols.length ≤ 6 ∧ us.length ≤ 24 ∧ H w = some (.lst (List.map V.int ws)) ∧ ∀ H', Same H H' → Q (.bl (wtsB rows cols us ws)) H') : sp_are_weights K mg [.ref r, .ref c, .ref u, .ref w] H Q E := q
local macro_rules | `(tactic| walk_at "op") => `(tactic| with_reducible refine q_are_weights ?_)
theorem c_are_weights (T : Txt K mg) : Cal P w K mg base 3 "are_weights" (sp_are_weights K mg) := by
  refine T.d_are_weights.cal (k := 2) sc_are_weights (by intro vs H Q E h; unfold sp_are_weights at h; split at h <;> first | rfl | exact h.elim) fun f cdv A outer s H vs Q E hr h => ?_
  refine ⟨_, (pss_cons (ps_if (pt_cmpR (op_neA hr) (pe_callB call_lenA (by rfl) T.n_len (by decide +kernel) (pa_cons (pv 3) pa_nil)) (pe_callB call_lenA (by rfl) T.n_len (by decide +kernel) (pa_cons (pv 2) pa_nil)) (nomark _))
    (pss_one (ps_ret pe_bl))
    pss_nil)
    (pss_cons (ps_set (i := 4) sc_are_weights.nd rfl (.inr rfl) (pe_mk (m_Leading T) hr (by decide) (by rfl) (pa_cons (pv 0) (pa_cons (pv 1) (pa_cons (pv 2) pa_nil)))))
    (pss_cons (ps_fld (pv 4) (pv 3) rfl)
    (Evl.pss_cut (ps_for PassesOwn.never rfl (pi_zip (by rfl) T.n_zip (pa_cons (pv 2) (pa_cons (pv 3) pa_nil))) (pg_tup rfl (pgs_cons (pg_name (i := 5) sc_are_weights.nd rfl (.inl rfl)) (pgs_cons (pg_name (i := 6) sc_are_weights.nd rfl (.inl rfl)) pgs_nil)))
    (pss_one (ps_if (pt_not (pt_chain op_leA op_leA (pe_ix ix_seq (pv 5) pe_int (fun _ _ => rfl)) (pv 6) (pe_ix ix_seq (pv 5) pe_int (fun _ _ => rfl))))
    (pss_one (ps_ret pe_bl))
    pss_nil)))
    (pss_cons (ps_setLc (i := 7) (own := [("row", 8)]) (g := (gName 8)) (tt := tYes) (te := (tMeth (cA mg "Leading") "row_lack" (sp_Leading_row_lack K mg) [] E0 (tVar 4) (tCons (tVar 8) tNil))) rfl sc_are_weights.nd rfl rfl (sw_true rfl rfl rfl (by decide +kernel)) (pi_range1 (by rfl) T.n_range (pa_cons (pe_callB call_lenA (by rfl) T.n_len (by decide +kernel) (pa_cons (pv 0) pa_nil)) pa_nil)) (blkOk_by (N := ["rows", "columns", "units", "weights", "leading", "unit", "much", "lacks", "row", "column"]) (sc := defScope s_are_weights) (by decide +kernel)) (fun _ _ _ _ _ => by exact (pg_name (i := 8) sc_are_weights.nd rfl (.inl rfl))) (fun _ _ _ _ _ => pts_nil) (fun _ _ _ _ _ => by exact (pe_mt (c_Leading_row_lack T) hr (by decide) (pv 4) (pa_cons (pv 8) pa_nil))))
    (pss_one (ps_ret (pe_not (pe_callB (cr_anyI rfl) (by rfl) T.n_any (by decide +kernel) (pa_cons (pe_op op_addA (pv 7) (pe_lc (own := [("column", 9)]) (g := (gName 9)) (tt := tYes) (te := (tMeth (cA mg "Leading") "column_lack" (sp_Leading_column_lack K mg) [] E0 (tVar 4) (tCons (tVar 9) tNil))) rfl sc_are_weights.nd (pi_range1 (by rfl) T.n_range (pa_cons (pe_callB call_lenA (by rfl) T.n_len (by decide +kernel) (pa_cons (pv 1) pa_nil)) pa_nil)) (blkOk_by (N := ["rows", "columns", "units", "weights", "leading", "unit", "much", "lacks", "row", "column"]) (sc := defScope s_are_weights) (by decide +kernel)) (fun _ _ _ _ _ => by exact (pg_name (i := 9) sc_are_weights.nd rfl (.inl rfl))) (fun _ _ _ _ _ => pts_nil) (fun _ _ _ _ _ => by exact (pe_mt (c_Leading_column_lack T) hr (by decide) (pv 4) (pa_cons (pv 9) pa_nil))))) pa_nil)))))))))), ?_⟩
  try simp only [cxOf_K, cxOf_K', cxOf_mg, cxOf_mg']
  unfold sp_are_weights at h
  split at h
  case h_2 => exact h.elim
  rename_i r c u w
  rw [show L2.start ["rows", "columns", "units", "weights", "leading", "unit", "much", "lacks", "row", "column"] [V.ref r, V.ref c, V.ref u, V.ref w] = [some (V.ref r), some (V.ref c), some (V.ref u), some (V.ref w), none, none, none, none, none, none] from rfl]
  obtain ⟨rows, cols, us, uv, ws, hr, hc, hu, hup, ok, lr, lc, l24, hw, q⟩ := h
  have hul := Paired.length hup
  walk_at "sts"
  refine L_lenL (.of hw) ?_
  rw [List.length_map]
  walk_at "sts"
  refine L_lenL (.of hu) ?_
  walk_at "sts"
  by_cases hlen : ws.length = us.length
  case neg =>
    refine L_ndT (by omega) ?_
    unfold wtsB at q
    rw [decide_eq_false hlen] at q
    walk_at "sts"
    exact q _ (.refl _)
  refine L_ndF (by omega) ?_
  walk_at "sts"
  intro x dx hx hdx ndx
  have s5 : Same H (upd (upd H dx (.own x)) x (.ins (cA mg "Leading") dx [])) := same_upd (same_new hdx) (by rw [upd_ne (Ne.symm ndx)]; exact hx)
  have e5 : (upd (upd H dx (.own x)) x (.ins (cA mg "Leading") dx [])) x = _ := upd_same
  generalize upd (upd H dx (.own x)) x (.ins (cA mg "Leading") dx []) = H5 at s5 e5 ⊢
  have hup5 : Paired (T4 K H5) uv us := paired_imp2 (fun _ _ h => h.same s5) hup
  refine ⟨dx, uv, rows, cols, us, e5, s5 _ _ hr, s5 _ _ hc, s5 _ _ hu, hup5, l24, fun pw H6 hpw k6 e6x e6w => ⟨rfl, ?_⟩⟩
  walk_at "sts"
  refine L_sFldv e6x T.k_Leading T.na_Leading_weights (by show 4 < 1000; decide) ?_
  generalize hg : upd H6 x _ = H7
  have e7x : H7 x = some (.ins (cA mg "Leading") dx (leF r c u w)) := upd_at hg
  have s7 : Same H H7 := fun b o hb => by
    have n : b ≠ x := fun z => by rw [z, hx] at hb; cases hb
    rw [← hg, upd_ne n]
    exact k6 _ _ (s5 _ _ hb) n
  clear hg e6x e6w k6 hpw hup5 e5 s5
  have hLd : Ld K mg H7 x dx r c u w uv rows cols us ws := ⟨e7x, s7 _ _ hr, s7 _ _ hc, s7 _ _ hu, paired_imp2 (fun _ _ h => h.same s7) hup, s7 _ _ hw, ok, hlen.symm, l24, lr, lc⟩
  walk_at "sts"
  refine L_cut (Mid := fun σ' H' => ∃ (v5 v6 : Option V), σ' = [some (.ref r), some (.ref c), some (.ref u), some (.ref w), some (.ref x), v5, v6, none, none, none] ∧ Same H7 H' ∧ ∀ j < us.length, inB us ws j = true) ?_ ?_
  · walk_at "sts"
    refine L_rz (.of hLd.u) (.of hLd.w) ?_
    refine f_it (walk_zip (n := us.length) (by rw [List.length_map]; omega)) (fun i σ' H' => ∃ (v5 v6 : Option V), σ' = [some (.ref r), some (.ref c), some (.ref u), some (.ref w), some (.ref x), v5, v6, none, none, none] ∧ Same H7 H' ∧ ∀ j < i, inB us ws j = true) ⟨_, _, rfl, .refl _, fun j hj => absurd hj (Nat.not_lt_zero _)⟩ (fun _ _ _ _ ⟨_, _, _, s, _⟩ => ⟨.of (s _ _ hLd.u), .of (s _ _ hLd.w)⟩) ?_ ?_
    · rintro i x1 σ' H8 H8' hi ⟨v5, v6, rfl, s8, hz⟩ ⟨T1, v0, w0, rfl, hT1, rfl, hv, hw'⟩
      replace hv : uv[i]? = some v0 := hv
      replace hw' : (ws.map V.int)[i]? = some w0 := hw'
      obtain ⟨u0, hu0, t0, rfl, ht0⟩ := paired_at2 hLd.up hv
      rw [List.getElem?_map] at hw'
      obtain ⟨w1, hw1, rfl⟩ := Option.map_eq_some_iff.mp hw'
      refine L_gTup (.of upd_same) rfl ?_
      have s9 := same_upd (o := HO.tup [V.ref t0, V.int w1]) s8 hT1
      generalize upd H8 T1 (HO.tup [V.ref t0, V.int w1]) = H9 at s9 ⊢
      have eB : inB us ws i = (decide (u0.2.2.1 ≤ w1) && decide (w1 ≤ u0.2.2.2)) := by unfold inB; rw [getD_hit hu0, List.getD_eq_getElem?_getD, hw1]; rfl
      have bad : inB us ws i = false → wtsB rows cols us ws = false := fun z => by
        unfold wtsB
        rw [show (List.range us.length).all (inB us ws) = false from List.all_eq_false.mpr ⟨i, List.mem_range.mpr hi, by rw [z]; decide⟩, Bool.false_and, Bool.and_false]
      walk_at "sts"
      refine L_ixT (s9.seqT ht0) (atI_int (by decide) rfl) ?_
      walk_at "sts"
      refine L_d (fun c1 => ?_) (fun c1 => ?_)
      · walk_at "sts"
        refine L_ixT (s9.seqT ht0) (atI_int (by decide) rfl) ?_
        walk_at "sts"
        refine L_nd (fun c2 => ?_) (fun c2 => ?_)
        · rw [bad (by rw [eB, decide_eq_false c2, Bool.and_false])] at q
          walk_at "sts"
          exact q _ (s7.trans s9)
        · walk_at "sts"
          refine ⟨_, _, rfl, s9, fun j hj => ?_⟩
          by_cases c : j = i
          · rw [c, eB, decide_eq_true c1, decide_eq_true c2]; rfl
          · exact hz j (by omega)
      · rw [bad (by rw [eB, decide_eq_false c1, Bool.false_and])] at q
        walk_at "sts"
        exact q _ (s7.trans s9)
    · rintro σ' H8 h
      exact h
  rintro σ' H8 ⟨v5, v6, rfl, s8, hz⟩
  have s08 := s7.trans s8
  have hL8 := hLd.same s8
  have eW : wtsB rows cols us ws = !(((rng rows.length).map (rlk rows us ws)) ++ ((rng cols.length).map (clk cols us ws))).any (· != 0) := by
    unfold wtsB
    rw [decide_eq_true hlen, show (List.range us.length).all (inB us ws) = true from List.all_eq_true.mpr fun j hj => hz j (List.mem_range.mp hj), Bool.true_and, Bool.true_and]
  rw [eW] at q
  walk_at "sts"
  refine L_lenL (.of hL8.r) ?_
  rw [List.length_map]
  refine L_r1 (by omega) (by omega) ?_
  rw [Int.toNat_natCast]
  refine lc_fm walk_range (fun i => some (V.int (rlk rows us ws (i : Int)))) (by omega) (fun _ _ => True.intro) ?_ ?_
  · rintro i x1 H9 H9' R R' hi s9 ⟨rfl, rfl⟩ r1 r2
    change gName _ (V.int (0 + (i : Int))) _ _ _
    rw [Int.zero_add]
    walk_at "sts"
    refine ⟨rfl, ?_⟩
    walk_at "sts"
    refine L_methv (hL8.same s9).x rfl ?_
    walk_at "sts"
    exact ⟨dx, r, c, u, w, uv, rows, cols, us, ws, hL8.same s9, by omega, by omega, fun H10 s10 => r1 _ _ rfl s10⟩
  intro p9 H9 hp9 s9 e9
  rw [fm_map (fun i : Nat => rlk rows us ws (i : Int)) V.int] at e9
  have hL9 := hL8.same s9
  walk_at "sts"
  refine L_lenL (.of hL9.c) ?_
  rw [List.length_map]
  refine L_r1 (by omega) (by omega) ?_
  rw [Int.toNat_natCast]
  refine lc_fm walk_range (fun i => some (V.int (clk cols us ws (i : Int)))) (by omega) (fun _ _ => True.intro) ?_ ?_
  · rintro i x1 H10 H10' R R' hi s10 ⟨rfl, rfl⟩ r1 r2
    change gName _ (V.int (0 + (i : Int))) _ _ _
    rw [Int.zero_add]
    walk_at "sts"
    refine ⟨rfl, ?_⟩
    walk_at "sts"
    refine L_methv (hL9.same s10).x rfl ?_
    walk_at "sts"
    exact ⟨dx, r, c, u, w, uv, rows, cols, us, ws, hL9.same s10, by omega, by omega, fun H11 s11 => r1 _ _ rfl s11⟩
  intro p10 H10 hp10 s10 e10
  rw [fm_map (fun i : Nat => clk cols us ws (i : Int)) V.int] at e10
  walk_at "sts"
  refine L_addL (s10 _ _ e9) e10 (sz_dec (by simp; omega)) fun p11 hp11 => ?_
  have s11 := same_newE rfl hp11 (o := .lst (((List.range rows.length).map fun i : Nat => rlk rows us ws (i : Int)).map V.int ++ ((List.range cols.length).map fun i : Nat => clk cols us ws (i : Int)).map V.int))
  walk_at "sts"
  refine ⟨p11, ((rng rows.length).map (rlk rows us ws)) ++ ((rng cols.length).map (clk cols us ws)), rfl, .of (by rw [upd_same, List.map_append]; unfold rng; simp only [List.map_map]; rfl), ?_⟩
  walk_at "sts"
  exact q _ (s08.trans (s9.trans (s10.trans s11)))
theorem L_slA {K : PySem.W.Frag} {H : Hp} {a : Addr} {xs : List V} {lo hi : Option Int} {Q : VK} (h : SqT K H a xs) (q : ∀ r H', Same H H' → SqT K H' r (cutV xs lo hi) → Q (.ref r) H') : rSlA K (.ref a) lo hi H Q :=
  ⟨a, xs, rfl, h, fun e => q a H (Same.refl _) (by unfold cutV; rw [e.1, e.2, List.drop_zero, Nat.sub_zero, List.take_of_length_le (Nat.le_refl _)]; exact h), fun _ p hp => q p _ (same_new hp) (.of upd_same)⟩
/-- what is told of sums and units, as handed to is_led -/
def IL (K : PySem.W.Frag) (H : Hp) (t : Addr) (rows cols : List Int) (us : List UN) (b : Bool) : Prop := (∃ w ws, SqT K H t [.str "weights", .ref w] ∧ H w = some (.lst (List.map V.int ws)) ∧ b = wtsB rows cols us ws) ∨ ∃ (w0 word : Str) (p1 p2 : Addr) (S O : List Int), w0 ≠ ("weights" : Str) ∧ SqT K H t [.str w0, .str word, .ref p1, .ref p2] ∧ SqL K H p1 (S.map V.int) ∧ SqL K H p2 (O.map V.int) ∧ S.length ≤ 1000 ∧ O.length ≤ 1000 ∧ b = cutB word rows cols us S O
def sp_is_led (K : PySem.W.Frag) (mg : Str → Option Value) : Sp := fun vs H Q E => match vs with | [r, c, u, t] => (∃ br bc bu, JL K H r c u br bc bu ∧ (br && bc && bu) = false ∧ ∀ H', Same H H' → E (.ref (cA mg "NoBounds")) none H') ∨ ∃ pr pc pu uv rows cols us pt b, GL K H r c u pr pc pu uv rows cols us ∧ H pr = some (.lst (rows.map V.int)) ∧ H pc = some (.lst (cols.map V.int)) ∧ H pu = some (.lst uv) ∧ t = .ref pt ∧ IL K H pt rows cols us b ∧ ∀ H', Same H H' → Q (.bl b) H' | _ => False
theorem q_is_led {H : Hp} {Q : VK} {E : XK} {r : V} {c : V} {u : V} {t : V} (q : (∃ br bc bu, JL K H r c u br bc bu ∧ (br && bc && bu) = false ∧ ∀ H', Same H H' → E (.ref (cA mg "NoBounds")) none H') ∨ ∃ pr pc pu uv rows cols us pt b, GL K H r c u pr pc pu uv rows cols us ∧ H pr = some (.lst (rows.map V.int)) ∧ H pc = some (.lst (cols.map V.int)) ∧ H pu = some (.lst uv) ∧ t = .ref pt ∧ IL K H pt rows cols us b ∧ ∀ H', Same H H' → Q (.bl b) H') : sp_is_led K mg [r, c, u, t] H Q E := q
local macro_rules | `(tactic| walk_at "op") => `(tactic| with_reducible refine q_is_led ?_)
theorem c_is_led (T : Txt K mg) : CalX P w K mg base 4 "is_led" (sp_is_led K mg) := by
  refine T.d_is_led.calX (k := 3) sc_is_led (by intro vs H Q E h; unfold sp_is_led at h; split at h <;> first | rfl | exact h.elim) fun f cdv A outer s H vs Q E hr h => ?_
  refine ⟨_, (pss_cons (ps_expr (pe_xS (c_look_led T) hr (by decide) (by rfl) (fun σ => passAt (takes_of rfl rfl rfl rfl) σ) (pa_cons (pv 0) (pa_cons (pv 1) (pa_cons (pv 2) pa_nil)))))
    (pss_cons (ps_if (pt_cmpR (op_eqA hr) (pe_ix ix_seq (pv 3) pe_int (fun _ _ => rfl)) pe_str (nomark _))
    (pss_one (ps_ret (pe_c (c_are_weights T) hr (by decide) (by rfl) (pa_cons (pv 0) (pa_cons (pv 1) (pa_cons (pv 2) (pa_cons (pe_ix ix_seq (pv 3) pe_int (fun _ _ => rfl)) pa_nil)))))))
    pss_nil)
    (pss_one (ps_ret (pe_c (c_is_cut T) hr (by decide) (by rfl) (pa_cons (pv 0) (pa_cons (pv 1) (pa_cons (pv 2) (pa_cons (pe_slice sl_tupA (pv 3) (po_some pe_int) po_none) pa_nil))))))))), ?_⟩
  try simp only [cxOf_K, cxOf_K', cxOf_mg, cxOf_mg']
  unfold sp_is_led at h
  split at h
  case h_2 => exact h.elim
  rename_i r c u t
  rw [show L2.start ["rows", "columns", "units", "told"] [r, c, u, t] = [some (r), some (c), some (u), some (t)] from rfl]
  rcases h with ⟨br, bc, bu, hJ, hf, e⟩ | ⟨pr, pc, pu, uv, rows, cols, us, pt, b, hG, hr, hc, hu, rfl, hI, q⟩
  · walk_at "sts"
    exact ⟨br, bc, bu, hJ, fun z => by rw [hf] at z; (cases z), fun _ => e⟩
  have hJ := hG.j
  obtain ⟨rfl, rfl, rfl, hr', hc', hu', hup, lr, lc, l24, rr, rc, ok⟩ := hG
  walk_at "sts"
  refine ⟨true, true, true, hJ, fun _ H1 s1 => ?_, fun z => nomatch z⟩
  walk_at "sts"
  have hup1 : Paired (T4 K H1) uv us := paired_imp2 (fun _ _ h => h.same s1) hup
  rcases hI with ⟨w, ws, ht, hw, rfl⟩ | ⟨w0, word, p1, p2, S, O, hn, ht, h1, h2, l1, l2, rfl⟩
  · refine L_ixT (s1.seqT ht) (atI_int (by decide) rfl) ?_
    walk_at "sts"
    refine L_dT rfl ?_
    walk_at "sts"
    refine L_ixT (s1.seqT ht) (atI_int (by decide) rfl) ?_
    walk_at "sts"
    exact ⟨rows, cols, us, uv, ws, s1 _ _ hr, s1 _ _ hc, s1 _ _ hu, hup1, ok, lr, lc, l24, s1 _ _ hw, fun H2 s2 => q _ (s1.trans s2)⟩
  · refine L_ixT (s1.seqT ht) (atI_int (by decide) rfl) ?_
    walk_at "sts"
    refine L_dF hn ?_
    walk_at "sts"
    refine L_slA (s1.seqT ht) fun r5 H2 s2 ht2 => ?_
    walk_at "sts"
    have s12 := s1.trans s2
    exact ⟨rows, cols, us, uv, word, S, O, p1, p2, s12.seq hr', s12.seq hc', s12.seq hu', paired_imp2 (fun _ _ h => h.same s12) hup, lr, lc, l24, l1, l2, ht2, s12.seq h1, s12.seq h2, fun H3 s3 => q _ (s12.trans s3)⟩
def gc (a b : Int) : Int := (Int.gcd a b : Nat)
theorem gc_step {a b : Int} (h : 0 < b) : gc b (a % b) = gc a b := by
  have e : Int.gcd (a % b) b = Int.gcd a b := by
    refine Int.gcd_left_eq_iff.mpr fun c hc => ?_
    have d : c ∣ b * (a / b) := Int.dvd_trans hc (Int.dvd_mul_right b (a / b))
    have e2 : a % b + b * (a / b) = a := Int.emod_add_mul_ediv a b
    constructor
    · intro h; rw [← e2]; exact Int.dvd_add h d
    · intro h
      have : a % b = a - b * (a / b) := by omega
      rw [this]; exact Int.dvd_sub h d
  unfold gc
  rw [Int.gcd_comm, e]
theorem gc_zero {a : Int} : (if a < 0 then -a else a) = gc a 0 := by
  unfold gc
  rw [Int.gcd_zero_right]
  omega
theorem gc_pos {a b : Int} (h : 0 < b) : 0 < gc a b := by
  unfold gc
  have : 0 < Int.gcd a b := Int.gcd_pos_of_ne_zero_right a (by omega)
  omega
theorem gc_le {a b : Int} (h : 0 < b) : gc a b ≤ b := Int.gcd_le_right a h
theorem gc_dl {a b : Int} : gc a b ∣ a := Int.gcd_dvd_left ..
theorem gc_dr {a b : Int} : gc a b ∣ b := Int.gcd_dvd_right ..
/-- lowest terms, for a bottom from 1 on -/
def low (t b : Int) : Int × Int := (t / gc t b, b / gc t b)
theorem low_pos {t b : Int} (h : 0 < b) : 1 ≤ (low t b).2 := by
  have g := gc_pos (a := t) h
  have := Int.ediv_pos_of_pos_of_dvd h (Int.le_of_lt g) (gc_dr (a := t) (b := b))
  show 1 ≤ b / gc t b
  omega
theorem low_gc {t b : Int} (h : 0 < b) : gc (low t b).1 (low t b).2 = 1 := by
  have g := gc_pos (a := t) h
  unfold low gc
  have hh : 0 < Int.gcd t b := Int.gcd_pos_of_ne_zero_right t (by omega)
  have := Int.gcd_ediv_gcd_ediv_gcd (i := t) (j := b) hh
  show ((Int.gcd (t / (Int.gcd t b : Nat)) (b / (Int.gcd t b : Nat)) : Nat) : Int) = 1
  rw [this]; rfl
theorem low_eq {t b : Int} (h : 0 < b) : (low t b).1 * b = t * (low t b).2 := by
  have g := gc_pos (a := t) h
  obtain ⟨u, hu⟩ := gc_dl (a := t) (b := b)
  obtain ⟨v, hv⟩ := gc_dr (a := t) (b := b)
  have e1 : t / gc t b = u := Int.ediv_eq_of_eq_mul_right (by omega) hu
  have e2 : b / gc t b = v := Int.ediv_eq_of_eq_mul_right (by omega) hv
  show t / gc t b * b = t * (b / gc t b)
  rw [e1, e2]
  calc u * b = u * (gc t b * v) := by rw [← hv]
    _ = (gc t b * u) * v := by rw [← Int.mul_assoc, Int.mul_comm u]
    _ = t * v := by rw [← hu]
theorem low_bd {n : Nat} {t b : Int} (h : 0 < b) (ht : Bd n t) (hb : Bd n b) : Bd n (low t b).1 ∧ Bd n (low t b).2 := by
  have g := gc_pos (a := t) h
  constructor
  · exact Nat.lt_of_le_of_lt (Int.natAbs_ediv_le_natAbs t _) ht
  · exact Nat.lt_of_le_of_lt (Int.natAbs_ediv_le_natAbs b _) hb
/-- what share tells -/
def shr (t b : Int) : Int × Int := if b < 0 then low (0 - t) (0 - b) else low t b
theorem shr_ok {t b : Int} (h : b ≠ 0) : 1 ≤ (shr t b).2 ∧ gc (shr t b).1 (shr t b).2 = 1 ∧ (shr t b).1 * b = t * (shr t b).2 := by
  unfold shr
  split
  · have hb : 0 < 0 - b := by omega
    refine ⟨low_pos hb, low_gc hb, ?_⟩
    have e := low_eq (t := 0 - t) hb
    rw [Int.mul_sub, Int.mul_zero, Int.sub_mul, Int.zero_mul] at e
    omega
  · have hb : 0 < b := by omega
    exact ⟨low_pos hb, low_gc hb, low_eq hb⟩
theorem shr_bd {n : Nat} {t b : Int} (h : b ≠ 0) (ht : Bd n t) (hb : Bd n b) : Bd n (shr t b).1 ∧ Bd n (shr t b).2 := by
  have e : ∀ z : Int, 0 - z = -z := fun z => by omega
  unfold shr
  split
  · rw [e, e]; exact low_bd (by omega) ht.neg hb.neg
  · exact low_bd (by omega) ht hb
theorem across {p q t b x y : Int} (hb : b ≠ 0) (e : p * b = t * q) (d : t * y = x * b) : p * y = x * q := by
  refine Int.eq_of_mul_eq_mul_right hb ?_
  calc p * y * b = (p * b) * y := by rw [Int.mul_assoc, Int.mul_comm y b, Int.mul_assoc]
    _ = (t * y) * q := by rw [e, Int.mul_assoc, Int.mul_comm q y, ← Int.mul_assoc]
    _ = x * q * b := by rw [d, Int.mul_assoc, Int.mul_comm b q, ← Int.mul_assoc]
def sp_divisor (K : PySem.W.Frag) (mg : Str → Option Value) : Sp := fun vs H Q _ => match vs with | [.int a, .int b] => 0 ≤ b ∧ Q (.int (gc a b)) H | _ => False
theorem q_divisor {H : Hp} {Q : VK} {E : XK} {a : Int} {b : Int} (q : 0 ≤ b ∧ Q (.int (gc a b)) H) : sp_divisor K mg [.int a, .int b] H Q E := q
local macro_rules | `(tactic| walk_at "op") => `(tactic| with_reducible refine q_divisor ?_)
theorem c_divisor (T : Txt K mg) : Cal P w K mg base 1 "divisor" (sp_divisor K mg) := by
  refine T.d_divisor.cal (k := 0) sc_divisor (by intro vs H Q E h; unfold sp_divisor at h; split at h <;> first | rfl | exact h.elim) fun f cdv A outer s H vs Q E hr h => ?_
  refine ⟨_, (pss_cons (ps_while PassesOwn.never (pt_cmpR (op_neA hr) (pv 1) pe_int (nomark _))
    (pss_one (ps_par (i := 0) (j := 1) rfl sc_divisor.nd rfl rfl (by decide) rfl rfl (pa_cons (pv 1) (pa_cons (pe_op op_mod (pv 0) (pv 1)) pa_nil)) (by rfl))))
    (pss_one (ps_ret (pe_callB call_absA (by rfl) T.n_abs (by decide +kernel) (pa_cons (pv 0) pa_nil))))), ?_⟩
  try simp only [cxOf_K, cxOf_K', cxOf_mg, cxOf_mg']
  unfold sp_divisor at h
  split at h
  case h_2 => exact h.elim
  rename_i a b
  rw [show L2.start ["one", "other"] [V.int a, V.int b] = [some (V.int a), some (V.int b)] from rfl]
  obtain ⟨hb, q⟩ := h
  walk_at "sts"
  refine L_while (fun m σ' H' => ∃ x y : Int, σ' = [some (.int x), some (.int y)] ∧ 0 ≤ y ∧ gc x y = gc a b ∧ m = y.toNat ∧ H' = H) ⟨_, a, b, rfl, hb, rfl, rfl, rfl⟩ ?_
  rintro m σ' H' ⟨x, y, rfl, hy, e, rfl, rfl⟩
  walk_at "sts"
  refine L_nd (fun c => ?_) (fun c => ?_)
  · refine L_N ?_
    walk_at "sts"
    refine L_I (by omega) ?_
    walk_at "sts"
    have h1 := Int.emod_nonneg x c
    have h2 := Int.emod_lt_of_pos x (show 0 < y by omega)
    exact ⟨(x % y).toNat, by omega, y, x % y, rfl, h1, (gc_step (by omega)).trans e, rfl, rfl⟩
  · subst c
    walk_at "sts"
    rw [gc_zero, e]
    exact q
def sp_share (K : PySem.W.Frag) (mg : Str → Option Value) : Sp := fun vs H Q _ => match vs with | [.int t, .int b] => b ≠ 0 ∧ Bd 2000 b ∧ NewT H [.int (shr t b).1, .int (shr t b).2] Q | _ => False
theorem q_share {H : Hp} {Q : VK} {E : XK} {t : Int} {b : Int} (q : b ≠ 0 ∧ Bd 2000 b ∧ NewT H [.int (shr t b).1, .int (shr t b).2] Q) : sp_share K mg [.int t, .int b] H Q E := q
local macro_rules | `(tactic| walk_at "op") => `(tactic| with_reducible refine q_share ?_)
theorem c_share (T : Txt K mg) : Cal P w K mg base 2 "share" (sp_share K mg) := by
  refine T.d_share.cal (k := 1) sc_share (by intro vs H Q E h; unfold sp_share at h; split at h <;> first | rfl | exact h.elim) fun f cdv A outer s H vs Q E hr h => ?_
  refine ⟨_, (pss_cons (ps_if (pt_cmpR op_ltA (pv 1) pe_int (nomark _))
    (pss_one (ps_par (i := 0) (j := 1) rfl sc_share.nd rfl rfl (by decide) rfl rfl (pa_cons (pe_op op_sub pe_int (pv 0)) (pa_cons (pe_op op_sub pe_int (pv 1)) pa_nil)) (by rfl)))
    pss_nil)
    (pss_cons (ps_set (i := 2) sc_share.nd rfl (.inl rfl) (pe_c (c_divisor T) hr (by decide) (by rfl) (pa_cons (pv 0) (pa_cons (pv 1) pa_nil))))
    (pss_one (ps_ret (pe_tup (pa_cons (pe_op op_fdivW (pv 0) (pv 2)) (pa_cons (pe_op op_fdivW (pv 1) (pv 2)) pa_nil))))))), ?_⟩
  try simp only [cxOf_K, cxOf_K', cxOf_mg, cxOf_mg']
  unfold sp_share at h
  split at h
  case h_2 => exact h.elim
  rename_i t b
  rw [show L2.start ["top", "bottom", "many"] [V.int t, V.int b] = [some (V.int t), some (V.int b), none] from rfl]
  obtain ⟨hb, hd, q⟩ := h
  have key : ∀ t' b' : Int, 0 < b' → Bd 2000 b' → low t' b' = shr t b → t / 1 = t → CDivW t' (gc t' b') := fun t' b' h0 h1 _ _ => by
    have g := gc_pos (a := t') h0
    have l := gc_le (a := t') h0
    refine Bd.cdiv (n := 2000) ?_ g
    unfold Bd at *
    omega
  walk_at "sts"
  refine L_d (fun c => ?_) (fun c => ?_)
  · walk_at "sts"
    have e : shr t b = low (0 - t) (0 - b) := if_pos c
    have hd' : Bd 2000 (0 - b) := by unfold Bd at *; omega
    refine ⟨by omega, ?_⟩
    walk_at "sts"
    refine L_I (key _ _ (by omega) hd' e.symm (by simp)) ?_
    walk_at "sts"
    refine L_I (key (0 - t) _ (by omega) hd' e.symm (by simp)) ?_
    walk_at "sts"
    rw [e] at q
    exact L_new (sz_dec (by show 2 ≤ 1000000; decide)) q.at
  · walk_at "sts"
    have e : shr t b = low t b := if_neg c
    refine ⟨by omega, ?_⟩
    walk_at "sts"
    refine L_I (key _ _ (by omega) hd e.symm (by simp)) ?_
    walk_at "sts"
    refine L_I (key t _ (by omega) hd e.symm (by simp)) ?_
    walk_at "sts"
    rw [e] at q
    exact L_new (sz_dec (by show 2 ≤ 1000000; decide)) q.at
/-- a fraction at a -/
def Fr2 (K : PySem.W.Frag) (H : Hp) (a : Addr) (x y : Int) : Prop := SqT K H a [.int x, .int y] ∧ 1 ≤ y ∧ Bd 210 x ∧ Bd 210 y
def sp_below (K : PySem.W.Frag) (mg : Str → Option Value) : Sp := fun vs H Q _ => match vs with | [.ref a, .ref b] => ∃ x y u v, Fr2 K H a x y ∧ Fr2 K H b u v ∧ Q (.bl (decide (x * v < u * y))) H | _ => False
theorem q_below {H : Hp} {Q : VK} {E : XK} {a : Addr} {b : Addr} (q : ∃ x y u v, Fr2 K H a x y ∧ Fr2 K H b u v ∧ Q (.bl (decide (x * v < u * y))) H) : sp_below K mg [.ref a, .ref b] H Q E := q
local macro_rules | `(tactic| walk_at "op") => `(tactic| with_reducible refine q_below ?_)
theorem c_below (T : Txt K mg) : Cal P w K mg base 1 "below" (sp_below K mg) := by
  refine T.d_below.cal (k := 0) sc_below (by intro vs H Q E h; unfold sp_below at h; split at h <;> first | rfl | exact h.elim) fun f cdv A outer s H vs Q E hr h => ?_
  refine ⟨_, (pss_one (ps_ret (pe_cmpR op_ltA (pe_op op_mulA (pe_ix ix_seq (pv 0) pe_int (fun _ _ => rfl)) (pe_ix ix_seq (pv 1) pe_int (fun _ _ => rfl))) (pe_op op_mulA (pe_ix ix_seq (pv 1) pe_int (fun _ _ => rfl)) (pe_ix ix_seq (pv 0) pe_int (fun _ _ => rfl))) (nomark _)))), ?_⟩
  try simp only [cxOf_K, cxOf_K', cxOf_mg, cxOf_mg']
  unfold sp_below at h
  split at h
  case h_2 => exact h.elim
  rename_i a b
  rw [show L2.start ["one", "other"] [V.ref a, V.ref b] = [some (V.ref a), some (V.ref b)] from rfl]
  obtain ⟨x, y, u, v, ⟨ha, h1, bx, by_⟩, ⟨hb, h2, bu, bv⟩, q⟩ := h
  walk_at "sts"
  refine L_ixT ha rfl ?_
  walk_at "sts"
  refine L_ixT hb rfl ?_
  refine L_mulI (bx.cmul bv) ?_
  walk_at "sts"
  refine L_ixT hb rfl ?_
  walk_at "sts"
  refine L_ixT ha rfl ?_
  refine L_mulI (bu.cmul by_) ?_
  walk_at "sts"
  exact q
/-! the greatest mean: weight, value, word -/
abbrev Rv := Int × Int × Str
def isY (r : Rv) : Bool := decide (r.2.2 = ("yes" : Str))
def isO (r : Rv) : Bool := decide (r.2.2 = ("open" : Str))
def OkV (r : Rv) : Prop := 1 ≤ r.1 ∧ r.1 ≤ 1000000 ∧ -1000000000 ≤ r.2.1 ∧ r.2.1 ≤ 1000000000 ∧ (r.2.2 = ("yes" : Str) ∨ r.2.2 = ("no" : Str) ∨ r.2.2 = ("open" : Str))
theorem yes_no : ¬ ("yes" : Str) = ("no" : Str) := by decide +kernel
theorem yes_open : ¬ ("yes" : Str) = ("open" : Str) := by decide +kernel
theorem no_yes : ¬ ("no" : Str) = ("yes" : Str) := by decide +kernel
theorem no_open : ¬ ("no" : Str) = ("open" : Str) := by decide +kernel
theorem open_yes : ¬ ("open" : Str) = ("yes" : Str) := by decide +kernel
theorem open_no : ¬ ("open" : Str) = ("no" : Str) := by decide +kernel
def le2 (a b : Int × Int) : Bool := decide (a.1 < b.1) || (decide (a.1 = b.1) && decide (a.2 ≤ b.2))
def opens (rows : List Rv) : List (Int × Int) := (List.range rows.length).filterMap fun (i : Nat) => (rows[i]?).bind fun r => if isO r = true then some (0 - r.2.1, (i : Int)) else none
def srt (l : List (Int × Int)) : List (Int × Int) := l.mergeSort le2
/-- top, bottom, who counts -/
abbrev Sm := Int × Int × List Bool
def stp (rows : List Rv) (s : Sm) (p : Int × Int) : Sm := match rows[p.2.toNat]? with
  | some r => if s.2.1 = 0 ∨ s.1 < r.2.1 * s.2.1 then (s.1 + r.1 * r.2.1, s.2.1 + r.1, s.2.2.set p.2.toNat true) else s
  | none => s
def st0 (rows : List Rv) : Sm := (((rows.filter isY).map fun r => r.1 * r.2.1).sum, ((rows.filter isY).map (·.1)).sum, rows.map isY)
def gm (rows : List Rv) : Sm := (srt (opens rows)).foldl (stp rows) (st0 rows)
def zs (f : Rv → Int) (rows : List Rv) (c : List Bool) : Int := ((rows.zip c).map fun z => if z.2 = true then f z.1 else 0).sum
theorem zs_set (f : Rv → Int) : ∀ (rows : List Rv) (c : List Bool) (i : Nat) (r : Rv), rows[i]? = some r → c[i]? = some false → zs f rows (c.set i true) = zs f rows c + f r
  | [], _, i, r, h, _ => by simp at h
  | _ :: _, [], i, r, _, h => by simp at h
  | x :: rows, b :: c, 0, r, h1, h2 => by
    simp at h1 h2
    subst h1 h2
    unfold zs
    simp
    omega
  | x :: rows, b :: c, i + 1, r, h1, h2 => by
    have ih := zs_set f rows c i r (by simpa using h1) (by simpa using h2)
    unfold zs at *
    rw [List.set_cons_succ, List.zip_cons_cons, List.zip_cons_cons, List.map_cons, List.map_cons, List.sum_cons, List.sum_cons, ih]
    omega
theorem zs_0 (f : Rv → Int) : ∀ rows : List Rv, zs f rows (rows.map isY) = ((rows.filter isY).map f).sum
  | [] => rfl
  | x :: rows => by
    have ih := zs_0 f rows
    unfold zs at *
    rw [List.map_cons, List.zip_cons_cons, List.map_cons, List.sum_cons, ih, List.filter_cons]
    cases h : isY x <;> simp
theorem zs_nn (f : Rv → Int) : ∀ (rows : List Rv) (c : List Bool), (∀ r ∈ rows, 0 ≤ f r) → 0 ≤ zs f rows c
  | [], _, _ => by simp [zs]
  | _ :: _, [], _ => by simp [zs]
  | x :: rows, b :: c, h => by
    have ih := zs_nn f rows c fun r hr => h r (List.mem_cons_of_mem _ hr)
    have h1 := h x (List.mem_cons_self ..)
    unfold zs at *
    rw [List.zip_cons_cons, List.map_cons, List.sum_cons]
    dsimp only
    split <;> omega
theorem zs_ge (f : Rv → Int) : ∀ (rows : List Rv) (c : List Bool) (i : Nat) (r : Rv), (∀ r ∈ rows, 0 ≤ f r) → rows[i]? = some r → c[i]? = some true → f r ≤ zs f rows c
  | [], _, i, r, _, h, _ => by simp at h
  | _ :: _, [], i, r, _, _, h => by simp at h
  | x :: rows, b :: c, 0, r, h, h1, h2 => by
    simp at h1 h2
    subst h1 h2
    have := zs_nn f rows c fun r hr => h r (List.mem_cons_of_mem _ hr)
    unfold zs at *
    simp
    omega
  | x :: rows, b :: c, i + 1, r, h, h1, h2 => by
    have ih := zs_ge f rows c i r (fun r hr => h r (List.mem_cons_of_mem _ hr)) (by simpa using h1) (by simpa using h2)
    have h3 := h x (List.mem_cons_self ..)
    unfold zs at *
    rw [List.zip_cons_cons, List.map_cons, List.sum_cons]
    dsimp only
    split <;> omega
/-- so far as the opens D are looked at -/
structure GI (rows : List Rv) (D : List (Int × Int)) (s : Sm) : Prop where
  len : s.2.2.length = rows.length
  t : s.1 = zs (fun r => r.1 * r.2.1) rows s.2.2
  b : s.2.1 = zs (fun r => r.1) rows s.2.2
  yes : ∀ (i : Nat) r, rows[i]? = some r → r.2.2 = ("yes" : Str) → s.2.2[i]? = some true
  no : ∀ (i : Nat) r, rows[i]? = some r → r.2.2 = ("no" : Str) → s.2.2[i]? = some false
  up : ∀ (i : Nat) r, rows[i]? = some r → r.2.2 = ("open" : Str) → s.2.2[i]? = some true → s.1 ≤ r.2.1 * s.2.1
  dn : ∀ (i : Nat) r, rows[i]? = some r → (∃ p ∈ D, p.2 = (i : Int)) → s.2.2[i]? = some false → r.2.1 * s.2.1 ≤ s.1
  un : ∀ (i : Nat) r, rows[i]? = some r → r.2.2 = ("open" : Str) → (∀ p ∈ D, p.2 ≠ (i : Int)) → s.2.2[i]? = some false
  pos : D ≠ [] → 0 < s.2.1
theorem gi0 {rows : List Rv} (ok : ∀ r ∈ rows, OkV r) : GI rows [] (st0 rows) where
  len := List.length_map ..
  t := (zs_0 _ rows).symm
  b := (zs_0 _ rows).symm
  yes := fun i r h e => by
    show (rows.map isY)[i]? = _
    rw [List.getElem?_map, h]
    show some (isY r) = _
    unfold isY
    rw [decide_eq_true e]
  no := fun i r h e => by
    show (rows.map isY)[i]? = _
    rw [List.getElem?_map, h]
    show some (isY r) = _
    unfold isY
    rw [e, decide_eq_false no_yes]
  up := fun i r h e c => by
    have : (rows.map isY)[i]? = some true := c
    rw [List.getElem?_map, h] at this
    have : some (isY r) = some true := this
    unfold isY at this
    rw [e, decide_eq_false open_yes] at this
    cases this
  dn := fun i r _ ⟨p, hp, _⟩ => nomatch hp
  un := fun i r h e _ => by
    show (rows.map isY)[i]? = _
    rw [List.getElem?_map, h]
    show some (isY r) = _
    unfold isY
    rw [e, decide_eq_false open_yes]
  pos := fun h => absurd rfl h
theorem GI.step {rows : List Rv} (ok : ∀ r ∈ rows, OkV r) {D : List (Int × Int)} {s : Sm} (g : GI rows D s) {i : Nat} {r : Rv} (hr : rows[i]? = some r) (ho : r.2.2 = ("open" : Str)) (hn : ∀ p ∈ D, p.2 ≠ (i : Int)) (hs : ∀ (j : Nat) r', rows[j]? = some r' → (∃ p ∈ D, p.2 = (j : Int)) → r.2.1 ≤ r'.2.1) (hD : ∀ (j : Nat) r', rows[j]? = some r' → s.2.2[j]? = some true → r'.2.2 = ("open" : Str) → ∃ p ∈ D, p.2 = (j : Int)) :
    GI rows (D ++ [(0 - r.2.1, (i : Int))]) (stp rows s (0 - r.2.1, (i : Int))) := by
  obtain ⟨o1, o2, o3, o4, _⟩ := ok r (List.mem_of_getElem? hr)
  have hf := g.un i r hr ho hn
  have hb0 : 0 ≤ s.2.1 := by rw [g.b]; exact zs_nn _ _ _ fun r' h' => by have := (ok r' h').1; omega
  have hlen := (List.getElem?_eq_some_iff.mp hf).1
  have mem : ∀ (j : Nat), (∃ p ∈ D ++ [(0 - r.2.1, (i : Int))], p.2 = (j : Int)) ↔ (∃ p ∈ D, p.2 = (j : Int)) ∨ j = i := fun j => by
    constructor
    · rintro ⟨p, hp, e⟩
      rcases List.mem_append.mp hp with hp | hp
      · exact .inl ⟨p, hp, e⟩
      · rw [List.mem_singleton.mp hp] at e
        exact .inr (by have : (i : Int) = (j : Int) := e; omega)
    · rintro (⟨p, hp, e⟩ | rfl)
      · exact ⟨p, List.mem_append_left _ hp, e⟩
      · exact ⟨_, List.mem_append_right _ (List.mem_singleton.mpr rfl), rfl⟩
  unfold stp
  rw [show ((0 - r.2.1, (i : Int)) : Int × Int).2.toNat = i from rfl, hr]
  dsimp only
  by_cases hc : s.2.1 = 0 ∨ s.1 < r.2.1 * s.2.1
  · rw [if_pos hc]
    have gd : ∀ j : Nat, j ≠ i → (s.2.2.set i true)[j]? = s.2.2[j]? := fun j hj => List.getElem?_set_ne (Ne.symm hj)
    have gi : (s.2.2.set i true)[i]? = some true := List.getElem?_set_self hlen
    have ne : ∀ (j : Nat) r', rows[j]? = some r' → r'.2.2 ≠ ("open" : Str) → j ≠ i := fun j r' h' e z => by
      rw [z, hr] at h'
      cases h'
      exact e ho
    have hD0 : s.2.1 = 0 → D = [] := fun h => by
      cases D with
      | nil => rfl
      | cons p D => have := g.pos (by simp); omega
    refine ⟨by rw [List.length_set]; exact g.len, ?_, ?_, ?_, ?_, ?_, ?_, ?_, fun _ => by show 0 < s.2.1 + r.1; omega⟩
    · show s.1 + r.1 * r.2.1 = _
      rw [zs_set _ _ _ _ _ hr hf, g.t]
    · show s.2.1 + r.1 = _
      rw [zs_set _ _ _ _ _ hr hf, g.b]
    · intro j r' h' e
      show (s.2.2.set i true)[j]? = _
      rw [gd j (ne j r' h' (by rw [e]; exact yes_open))]
      exact g.yes j r' h' e
    · intro j r' h' e
      show (s.2.2.set i true)[j]? = _
      rw [gd j (ne j r' h' (by rw [e]; exact no_open))]
      exact g.no j r' h' e
    · intro j r' h' e c
      show s.1 + r.1 * r.2.1 ≤ r'.2.1 * (s.2.1 + r.1)
      have c : (s.2.2.set i true)[j]? = some true := c
      by_cases hj : j = i
      · subst hj
        rw [hr] at h'
        cases h'
        rcases hc with hc | hc
        · have hD1 := hD0 hc
          have : s.1 = 0 := by
            have h2 : ∀ (j : Nat), s.2.2[j]? ≠ some true := fun j hj => by
              cases hrj : rows[j]? with
              | none =>
                have := List.getElem?_eq_none_iff.mp hrj
                have := (List.getElem?_eq_some_iff.mp hj).1
                have := g.len
                omega
              | some rj =>
                have h3 := zs_ge (fun r => r.1) rows s.2.2 j rj (fun r' h' => by have := (ok r' h').1; omega) hrj hj
                have h4 := (ok rj (List.mem_of_getElem? hrj)).1
                have h5 := g.b
                have h3 : rj.1 ≤ zs (fun r => r.1) rows s.2.2 := h3
                omega
            rw [g.t]
            have h3 : ∀ (rows : List Rv) (c : List Bool), (∀ j : Nat, c[j]? ≠ some true) → zs (fun r => r.1 * r.2.1) rows c = 0 := fun rows => by
              induction rows with
              | nil => intro c _; simp [zs]
              | cons x rows ih =>
                intro c hc
                cases c with
                | nil => simp [zs]
                | cons b c =>
                  have h1 := ih c fun j hj => hc (j + 1) (by simpa using hj)
                  have h2 : b = false := by
                    cases b with
                    | false => rfl
                    | true => exact absurd rfl (hc 0)
                  unfold zs at *
                  rw [List.zip_cons_cons, List.map_cons, List.sum_cons, h1, h2]
                  rfl
            exact h3 _ _ h2
          rw [hc, this, Int.zero_add, Int.zero_add, Int.mul_comm r.1]
          omega
        · rw [Int.mul_add, Int.mul_comm r.1]
          omega
      · rw [gd j hj] at c
        have h1 := g.up j r' h' e c
        have h2 := hs j r' h' (hD j r' h' c e)
        rw [Int.mul_add, Int.mul_comm r.1]
        have h3 : r.2.1 * r.1 ≤ r'.2.1 * r.1 := Int.mul_le_mul_of_nonneg_right h2 (by omega)
        omega
    · intro j r' h' hm c
      have c : (s.2.2.set i true)[j]? = some false := c
      rcases (mem j).mp hm with hm | rfl
      · by_cases hj : j = i
        · subst hj
          rw [gi] at c
          cases c
        · rw [gd j hj] at c
          have h1 := g.dn j r' h' hm c
          have h2 := hs j r' h' hm
          have hDne : D ≠ [] := by
            obtain ⟨p, hp, _⟩ := hm
            exact List.ne_nil_of_mem hp
          have hp := g.pos hDne
          rcases hc with hc | hc
          · omega
          · have h3 : r.2.1 * s.2.1 ≤ r'.2.1 * s.2.1 := Int.mul_le_mul_of_nonneg_right h2 (by omega)
            omega
      · rw [gi] at c
        cases c
    · intro j r' h' e hj
      show (s.2.2.set i true)[j]? = _
      have hji : j ≠ i := fun z => hj _ (List.mem_append_right _ (List.mem_singleton.mpr rfl)) (by rw [z])
      rw [gd j hji]
      exact g.un j r' h' e fun p hp => hj p (List.mem_append_left _ hp)
  · rw [if_neg hc]
    obtain ⟨h1, h2⟩ := not_or.mp hc
    refine ⟨g.len, g.t, g.b, g.yes, g.no, g.up, fun j r' h' hm c => ?_, fun j r' h' e hj => g.un j r' h' e fun p hp => hj p (List.mem_append_left _ hp), fun _ => by omega⟩
    rcases (mem j).mp hm with hm | rfl
    · exact g.dn j r' h' hm c
    · rw [hr] at h'
      cases h'
      omega
theorem opens_in {rows : List Rv} {p : Int × Int} (h : p ∈ opens rows) : ∃ (i : Nat) (r : Rv), rows[i]? = some r ∧ r.2.2 = ("open" : Str) ∧ p = (0 - r.2.1, (i : Int)) := by
  unfold opens at h
  obtain ⟨i, hi, e⟩ := List.mem_filterMap.mp h
  have hi := List.mem_range.mp hi
  rw [List.getElem?_eq_getElem hi, Option.bind_some] at e
  split at e
  · rename_i ho
    unfold isO at ho
    exact ⟨i, rows[i], List.getElem?_eq_getElem hi, of_decide_eq_true ho, (Option.some.inj e).symm⟩
  · cases e
theorem opens_mem {rows : List Rv} {i : Nat} {r : Rv} (h : rows[i]? = some r) (ho : r.2.2 = ("open" : Str)) : (0 - r.2.1, (i : Int)) ∈ opens rows := by
  unfold opens
  refine List.mem_filterMap.mpr ⟨i, List.mem_range.mpr (List.getElem?_eq_some_iff.mp h).1, ?_⟩
  rw [h, Option.bind_some, if_pos]
  unfold isO
  rw [decide_eq_true ho]
theorem fm_nodup (f : Nat → Option (Int × Int)) (hf : ∀ i p, f i = some p → p.2 = (i : Int)) : ∀ n, (((List.range n).filterMap f).map (·.2)).Nodup
  | 0 => List.nodup_nil
  | n + 1 => by
    have ih := fm_nodup f hf n
    rw [fm_succ', List.map_append, List.nodup_append]
    refine ⟨ih, ?_, fun a ha b hb => ?_⟩
    · cases f n <;> simp
    · cases e : f n with
      | none => rw [e] at hb; simp at hb
      | some p =>
        rw [e] at hb
        have hb : b = p.2 := by simpa using hb
        obtain ⟨q, hq, rfl⟩ := List.mem_map.mp ha
        obtain ⟨i, hi, e2⟩ := List.mem_filterMap.mp hq
        have := List.mem_range.mp hi
        rw [hb, hf n p e, hf i q e2]
        omega
theorem opens_nodup (rows : List Rv) : ((opens rows).map (·.2)).Nodup := fm_nodup _ (fun i p h => by
  cases e : rows[i]? with
  | none => rw [e] at h; cases h
  | some r =>
    rw [e, Option.bind_some] at h
    split at h
    · rw [← Option.some.inj h]
    · cases h) _
theorem le2_tr (a b c : Int × Int) (h1 : le2 a b = true) (h2 : le2 b c = true) : le2 a c = true := by
  unfold le2 at *
  simp only [Bool.or_eq_true, Bool.and_eq_true, decide_eq_true_eq] at *
  omega
theorem le2_tot (a b : Int × Int) : (le2 a b || le2 b a) = true := by
  unfold le2
  simp only [Bool.or_eq_true, Bool.and_eq_true, decide_eq_true_eq]
  omega
theorem srt_perm (l : List (Int × Int)) : (srt l).Perm l := List.mergeSort_perm l le2
theorem srt_sorted (l : List (Int × Int)) : (srt l).Pairwise fun a b => le2 a b = true := List.pairwise_mergeSort le2_tr le2_tot l
theorem srt_eq {l m : List (Int × Int)} (h1 : m.Pairwise fun a b => le2 a b = true) (h2 : m.Perm l) : m = srt l := by
  refine List.Perm.eq_of_pairwise (le := fun a b => le2 a b = true) (fun a b _ _ h3 h4 => ?_) h1 (srt_sorted l) (h2.trans (srt_perm l).symm)
  unfold le2 at h3 h4
  simp only [Bool.or_eq_true, Bool.and_eq_true, decide_eq_true_eq] at h3 h4
  exact Prod.ext (by omega) (by omega)
def sofar (rows : List Rv) (j : Nat) : Sm := ((srt (opens rows)).take j).foldl (stp rows) (st0 rows)
theorem gi_at {rows : List Rv} (ok : ∀ r ∈ rows, OkV r) : ∀ j, j ≤ (srt (opens rows)).length → GI rows ((srt (opens rows)).take j) (sofar rows j)
  | 0, _ => gi0 ok
  | j + 1, hj => by
    have g := gi_at ok j (by omega)
    obtain ⟨p, hp⟩ : ∃ p, (srt (opens rows))[j]? = some p := ⟨_, List.getElem?_eq_getElem (by omega)⟩
    have hform : ∀ q ∈ srt (opens rows), ∃ (i : Nat) (r : Rv), rows[i]? = some r ∧ r.2.2 = ("open" : Str) ∧ q = (0 - r.2.1, (i : Int)) := fun q hq => opens_in ((srt_perm _).mem_iff.mp hq)
    obtain ⟨i, r, hr, ho, rfl⟩ := hform p (List.mem_of_getElem? hp)
    have hnd : ((srt (opens rows)).map (·.2)).Nodup := (srt_perm _).map (·.2) |>.nodup_iff.mpr (opens_nodup rows)
    have hsd := srt_sorted (opens rows)
    have e : (srt (opens rows)).take (j + 1) = (srt (opens rows)).take j ++ [(0 - r.2.1, (i : Int))] := by rw [List.take_add_one, hp]; rfl
    have hsplit : srt (opens rows) = (srt (opens rows)).take (j + 1) ++ (srt (opens rows)).drop (j + 1) := (List.take_append_drop _ _).symm
    rw [e] at hsplit
    have hn : ∀ q ∈ (srt (opens rows)).take j, q.2 ≠ (i : Int) := fun q hq z => by
      rw [hsplit, List.map_append, List.map_append] at hnd
      have h1 := (List.nodup_append.mp (List.nodup_append.mp hnd).1).2.2 q.2 (List.mem_map_of_mem hq) (i : Int) (by simp)
      exact h1 z
    have hle : ∀ q ∈ (srt (opens rows)).take j, le2 q (0 - r.2.1, (i : Int)) = true := fun q hq => by
      rw [hsplit] at hsd
      exact (List.pairwise_append.mp (List.pairwise_append.mp hsd).1).2.2 q hq _ (List.mem_singleton.mpr rfl)
    have hs : ∀ (k : Nat) r', rows[k]? = some r' → (∃ q ∈ (srt (opens rows)).take j, q.2 = (k : Int)) → r.2.1 ≤ r'.2.1 := by
      rintro k r' h' ⟨q, hq, e2⟩
      obtain ⟨i', r'', h1, h2, h3⟩ := hform q (List.mem_of_mem_take hq)
      rw [h3] at e2
      have e2 : (i' : Int) = (k : Int) := e2
      have : i' = k := by omega
      rw [this, h'] at h1
      cases h1
      have h4 := hle q hq
      rw [h3] at h4
      unfold le2 at h4
      simp only [Bool.or_eq_true, Bool.and_eq_true, decide_eq_true_eq] at h4
      omega
    have := g.step ok hr ho hn hs fun k r' h' hc ho' => by
      refine Classical.byContradiction fun hno => ?_
      have := g.un k r' h' ho' fun q hq z => hno ⟨q, hq, z⟩
      rw [this] at hc
      cases hc
    have e3 : sofar rows (j + 1) = stp rows (sofar rows j) (0 - r.2.1, (i : Int)) := by
      unfold sofar
      rw [e, List.foldl_append]
      rfl
    rw [e, e3]
    exact this
theorem zs_none (f : Rv → Int) : ∀ (rows : List Rv) (c : List Bool), (∀ j : Nat, c[j]? ≠ some true) → zs f rows c = 0
  | [], _, _ => by simp [zs]
  | _ :: _, [], _ => by simp [zs]
  | x :: rows, b :: c, hc => by
    have h1 := zs_none f rows c fun j hj => hc (j + 1) (by simpa using hj)
    have h2 : b = false := by
      cases b with
      | false => rfl
      | true => exact absurd rfl (hc 0)
    unfold zs at *
    rw [List.zip_cons_cons, List.map_cons, List.sum_cons, h1, h2]
    rfl
theorem zs_bd (f : Rv → Int) (M : Int) : ∀ (rows : List Rv) (c : List Bool), (∀ r ∈ rows, -M ≤ f r ∧ f r ≤ M) → 0 ≤ M → -(M * rows.length) ≤ zs f rows c ∧ zs f rows c ≤ M * rows.length
  | [], _, _, _ => by simp [zs]
  | x :: rows, [], _, h0 => by
    have h1 := Int.mul_nonneg h0 (show (0 : Int) ≤ ((x :: rows).length : Int) by omega)
    have e : zs f (x :: rows) [] = 0 := by simp [zs]
    rw [e]
    omega
  | x :: rows, b :: c, h, h0 => by
    have ih := zs_bd f M rows c (fun r hr => h r (List.mem_cons_of_mem _ hr)) h0
    have h3 := h x (List.mem_cons_self ..)
    unfold zs at *
    rw [List.zip_cons_cons, List.map_cons, List.sum_cons, List.length_cons, Int.natCast_add, Int.mul_add]
    dsimp only
    split <;> omega
/-- what is told -/
structure GM (rows : List Rv) (s : Sm) : Prop where
  len : s.2.2.length = rows.length
  t : s.1 = zs (fun r => r.1 * r.2.1) rows s.2.2
  b : s.2.1 = zs (fun r => r.1) rows s.2.2
  yes : ∀ (i : Nat) r, rows[i]? = some r → r.2.2 = ("yes" : Str) → s.2.2[i]? = some true
  no : ∀ (i : Nat) r, rows[i]? = some r → r.2.2 = ("no" : Str) → s.2.2[i]? = some false
  up : ∀ (i : Nat) r, rows[i]? = some r → r.2.2 = ("open" : Str) → s.2.2[i]? = some true → s.1 ≤ r.2.1 * s.2.1
  dn : ∀ (i : Nat) r, rows[i]? = some r → r.2.2 = ("open" : Str) → s.2.2[i]? = some false → r.2.1 * s.2.1 ≤ s.1
  nz : (∃ r ∈ rows, r.2.2 ≠ ("no" : Str)) → 0 < s.2.1
  z : (∀ r ∈ rows, r.2.2 = ("no" : Str)) → s.2.1 = 0
theorem gm_ok {rows : List Rv} (ok : ∀ r ∈ rows, OkV r) : GM rows (gm rows) := by
  have g := gi_at ok _ (Nat.le_refl (srt (opens rows)).length)
  have e : sofar rows (srt (opens rows)).length = gm rows := by unfold sofar gm; rw [List.take_length]
  rw [e, List.take_length] at g
  have hw : ∀ r ∈ rows, 0 ≤ (fun r : Rv => r.1) r := fun r h => by have h1 := (ok r h).1; show (0 : Int) ≤ r.1; omega
  refine ⟨g.len, g.t, g.b, g.yes, g.no, g.up, fun i r hr ho c => g.dn i r hr ⟨_, (srt_perm _).mem_iff.mpr (opens_mem hr ho), rfl⟩ c, ?_, fun h => ?_⟩
  · rintro ⟨r, hr, hn⟩
    obtain ⟨i, hi⟩ := List.mem_iff_getElem?.mp hr
    rcases (ok r hr).2.2.2.2 with h | h | h
    · have h1 := zs_ge (fun r => r.1) rows _ i r hw hi (g.yes i r hi h)
      have h2 := (ok r hr).1
      rw [g.b]
      have h1 : r.1 ≤ _ := h1
      omega
    · exact absurd h hn
    · exact g.pos (List.ne_nil_of_mem ((srt_perm _).mem_iff.mpr (opens_mem hi h)))
  · rw [g.b]
    refine zs_none _ _ _ fun j hj => ?_
    have h1 := (List.getElem?_eq_some_iff.mp hj).1
    rw [g.len] at h1
    have h2 := g.no j rows[j] (List.getElem?_eq_getElem h1) (h _ (List.getElem_mem h1))
    rw [hj] at h2
    cases h2
theorem zs_lin (b a : Int) : ∀ (rows : List Rv) (c : List Bool), zs (fun r => (r.2.1 * b - a) * r.1) rows c = zs (fun r => r.1 * r.2.1) rows c * b - a * zs (fun r => r.1) rows c
  | [], _ => by simp [zs]
  | _ :: _, [] => by simp [zs]
  | x :: rows, y :: c => by
    have ih := zs_lin b a rows c
    unfold zs at *
    rw [List.zip_cons_cons, List.map_cons, List.map_cons, List.map_cons, List.sum_cons, List.sum_cons, List.sum_cons, ih]
    dsimp only
    split <;> grind
/-- what those that count, and those that would help, have above the mean -/
def above (m : Int × Int) (r : Rv) : Int := if r.2.2 = ("yes" : Str) ∨ r.2.2 = ("open" : Str) ∧ 0 < (r.2.1 * m.2 - m.1) * r.1 then (r.2.1 * m.2 - m.1) * r.1 else 0
theorem above_zs {a b : Int} : ∀ (rows : List Rv) (c : List Bool), c.length = rows.length → (∀ (i : Nat) r, rows[i]? = some r → above (a, b) r = if c[i]? = some true then (r.2.1 * b - a) * r.1 else 0) → (rows.map (above (a, b))).sum = zs (fun r => (r.2.1 * b - a) * r.1) rows c
  | [], _, _, _ => by simp [zs]
  | _ :: _, [], h, _ => by simp at h
  | x :: rows, y :: c, h, hh => by
    have ih := above_zs (a := a) (b := b) rows c (by simpa using h) fun i r hr => by
      have := hh (i + 1) r (by simpa using hr)
      rwa [List.getElem?_cons_succ] at this
    have h0 := hh 0 x rfl
    rw [List.getElem?_cons_zero] at h0
    unfold zs at *
    rw [List.map_cons, List.sum_cons, ih, h0, List.zip_cons_cons, List.map_cons, List.sum_cons]
    cases y <;> simp
theorem none_above {rows : List Rv} (ok : ∀ r ∈ rows, OkV r) {s : Sm} (g : GM rows s) (hB : 0 < s.2.1) : (rows.map (above (low s.1 s.2.1))).sum = 0 := by
  have hp : 1 ≤ (low s.1 s.2.1).2 := low_pos hB
  have he : (low s.1 s.2.1).1 * s.2.1 = s.1 * (low s.1 s.2.1).2 := low_eq hB
  generalize low s.1 s.2.1 = m at hp he ⊢
  obtain ⟨a, b⟩ := m
  have hp : 1 ≤ b := hp
  have he : a * s.2.1 = s.1 * b := he
  rw [above_zs rows s.2.2 g.len, zs_lin, ← g.t, ← g.b]
  · rw [he]; omega
  · intro i r hr
    have hok := ok r (List.mem_of_getElem? hr)
    have key : (r.2.1 * b - a) * s.2.1 = b * (r.2.1 * s.2.1 - s.1) := by
      calc (r.2.1 * b - a) * s.2.1 = r.2.1 * b * s.2.1 - a * s.2.1 := by grind
        _ = r.2.1 * b * s.2.1 - s.1 * b := by rw [he]
        _ = b * (r.2.1 * s.2.1 - s.1) := by grind
    unfold above
    rcases hok.2.2.2.2 with h | h | h
    · rw [if_pos (.inl h), g.yes i r hr h, if_pos rfl]
    · rw [if_neg (by rw [h]; exact fun z => z.elim no_yes fun z => no_open z.1), g.no i r hr h, if_neg (by simp)]
    · cases hc : s.2.2[i]? with
      | none =>
        have h1 := List.getElem?_eq_none_iff.mp hc
        have h2 := (List.getElem?_eq_some_iff.mp hr).1
        have := g.len
        omega
      | some y =>
        cases y with
        | true =>
          have h1 := g.up i r hr h hc
          have h2 : 0 ≤ (r.2.1 * b - a) * s.2.1 := by rw [key]; exact Int.mul_nonneg (by omega) (by omega)
          have h3 : 0 ≤ r.2.1 * b - a := Int.le_of_mul_le_mul_right (a := s.2.1) (by omega) hB
          have h4 : 0 ≤ (r.2.1 * b - a) * r.1 := Int.mul_nonneg h3 (by have := hok.1; omega)
          rw [if_pos rfl]
          split
          · rfl
          · rename_i hn
            have : ¬ 0 < (r.2.1 * b - a) * r.1 := fun z => hn (.inr ⟨h, z⟩)
            omega
        | false =>
          have h1 := g.dn i r hr h hc
          have h2 : (r.2.1 * b - a) * s.2.1 ≤ 0 := by
            rw [key]
            have := Int.mul_nonneg (show 0 ≤ b by omega) (show 0 ≤ s.1 - r.2.1 * s.2.1 by omega)
            have e : b * (r.2.1 * s.2.1 - s.1) = -(b * (s.1 - r.2.1 * s.2.1)) := by grind
            omega
          have h3 : r.2.1 * b - a ≤ 0 := by
            refine Int.le_of_mul_le_mul_right (a := s.2.1) ?_ hB
            rw [Int.zero_mul]
            exact h2
          have h4 : (r.2.1 * b - a) * r.1 ≤ 0 := Int.mul_nonpos_of_nonpos_of_nonneg h3 (by have := hok.1; omega)
          rw [if_neg, if_neg (by simp)]
          rintro (z | ⟨_, z⟩)
          · rw [h] at z; exact open_yes z
          · have z : 0 < (r.2.1 * b - a) * r.1 := z
            omega
def d3w (r : Rv) : PyData := .tuple [.int r.1, .int r.2.1, .str r.2.2]
theorem hit3w {H : Hp} {us : List V} {c : List Rv} (hA : DpAll K H us (c.map d3w)) {i : Nat} {x : V} (hx : us[i]? = some x) : ∃ m t, c[i]? = some m ∧ x = .ref t ∧ SqT K H t [.int m.1, .int m.2.1, .str m.2.2] := by
  obtain ⟨d, h1, h2⟩ := hA.of hx
  rw [List.getElem?_map] at h1
  obtain ⟨m, h3, rfl⟩ := Option.map_eq_some_iff.mp h1
  obtain ⟨t, x1, x2, x3, rfl, h4, h5, h6, h7⟩ := of_t3 h2
  rw [of_int h5, of_int h6, of_str h7] at h4
  exact ⟨m, t, h3, rfl, h4⟩
/-- the pair at a place -/
def kk (H : Hp) (v : V) : Int × Int := match v with
  | .ref t => match H t with
    | some (.tup [.int i, .int j]) => (i, j)
    | _ => (0, 0)
  | _ => (0, 0)
theorem kk_of {H : Hp} {v : V} {p : Int × Int} (h : T2 H v p) : kk H v = p := by
  obtain ⟨t, rfl, e⟩ := h
  unfold kk
  dsimp only
  rw [e]
theorem kk_map {H : Hp} : ∀ {vs : List V} {ps : List (Int × Int)}, Paired (T2 H) vs ps → vs.map (kk H) = ps
  | [], _, h => by cases h; rfl
  | v :: vs, _, h => by cases h with | cons h1 h2 => rw [List.map_cons, kk_of h1, kk_map h2]
theorem t2_of {H : Hp} {vs : List V} {ps : List (Int × Int)} (h : Paired (T2 H) vs ps) : ∀ v ∈ vs, T2 H v (kk H v) := by
  intro v hv
  obtain ⟨i, hi⟩ := List.mem_iff_getElem?.mp hv
  obtain ⟨p, _, h2⟩ := LiI.paired_get h hi
  rw [kk_of h2]
  exact h2
theorem paired_kk {H : Hp} : ∀ (ys : List V), (∀ v ∈ ys, T2 H v (kk H v)) → Paired (T2 H) ys (ys.map (kk H))
  | [], _ => .nil
  | y :: ys, h => .cons (h y (List.mem_cons_self ..)) (paired_kk ys fun v hv => h v (List.mem_cons_of_mem _ hv))
theorem sorted_kk {H : Hp} {ys vs : List V} {ps : List (Int × Int)} (h : Paired (T2 H) vs ps) (h1 : SrtO.Srtd (ltP (kk H)) ys) (h2 : ys.Perm vs) : Paired (T2 H) ys (srt ps) := by
  have e : ys.map (kk H) = srt ps := by
    refine srt_eq ?_ ?_
    · rw [List.pairwise_map]
      refine h1.imp fun {a b} h => ?_
      have h : ¬ SrtO.lexB (kk H b) (kk H a) = true := by rw [show SrtO.lexB (kk H b) (kk H a) = false from h]; exact Bool.false_ne_true
      rw [SrtO.lexB_iff] at h
      unfold le2
      simp only [Bool.or_eq_true, Bool.and_eq_true, decide_eq_true_eq]
      omega
    · rw [← kk_map h]
      exact h2.map _
  rw [← e]
  exact paired_kk ys fun v hv => t2_of h v (h2.mem_iff.mp hv)
theorem low_lt {T B v : Int} (hB : 0 < B) : (low T B).1 * 1 < v * (low T B).2 ↔ T < v * B := by
  have h1 := low_pos (t := T) hB
  have h2 := low_eq (t := T) hB
  rw [Int.mul_one]
  constructor
  · intro h
    have h3 : (low T B).1 * B < v * (low T B).2 * B := Int.mul_lt_mul_of_pos_right h hB
    rw [h2, Int.mul_right_comm] at h3
    exact Int.lt_of_mul_lt_mul_right h3 (by omega)
  · intro h
    have h3 : T * (low T B).2 < v * B * (low T B).2 := Int.mul_lt_mul_of_pos_right h (by omega)
    rw [← h2, Int.mul_right_comm] at h3
    exact Int.lt_of_mul_lt_mul_right h3 (by omega)
theorem low_shr {T B : Int} (hB : 0 < B) : shr T B = low T B := by unfold shr; rw [if_neg (by omega)]
theorem fr_low {H : Hp} {p : Addr} {T B : Int} (hB : 0 < B) (e : H p = some (.tup [.int (low T B).1, .int (low T B).2])) (b1 : Bd 200 T) (b2 : Bd 200 B) : Fr2 K H p (low T B).1 (low T B).2 :=
  ⟨.of e, low_pos hB, (low_bd hB b1 b2).1.mono (by decide), (low_bd hB b1 b2).2.mono (by decide)⟩
def sp_greatest_mean (K : PySem.W.Frag) (mg : Str → Option Value) : Sp := fun vs H Q _ => match vs with | [.ref a] => ∃ (us : List V) (rows : List Rv), SqL K H a us ∧ DpAll K H us (rows.map d3w) ∧ rows.length ≤ 24 ∧ (∀ r ∈ rows, OkV r) ∧ ((gm rows).2.1 = 0 → ∀ H', Same H H' → Q .non H') ∧ ((gm rows).2.1 ≠ 0 → ∀ pt px pc H', H pt = none → H pc = none → Same H H' → H' pt = some (.tup [.ref px, .ref pc]) → H' px = some (.tup [.int (low (gm rows).1 (gm rows).2.1).1, .int (low (gm rows).1 (gm rows).2.1).2]) → H' pc = some (.lst ((gm rows).2.2.map V.bl)) → Q (.ref pt) H') | _ => False
theorem q_greatest_mean {H : Hp} {Q : VK} {E : XK} {a : Addr} (q : ∃ (us : List V) (rows : List Rv), SqL K H a us ∧ DpAll K H us (rows.map d3w) ∧ rows.length ≤ 24 ∧ (∀ r ∈ rows, OkV r) ∧ ((gm rows).2.1 = 0 → ∀ H', Same H H' → Q .non H') ∧ ((gm rows).2.1 ≠ 0 → ∀ pt px pc H', H pt = none → H pc = none → Same H H' → H' pt = some (.tup [.ref px, .ref pc]) → H' px = some (.tup [.int (low (gm rows).1 (gm rows).2.1).1, .int (low (gm rows).1 (gm rows).2.1).2]) → H' pc = some (.lst ((gm rows).2.2.map V.bl)) → Q (.ref pt) H')) : sp_greatest_mean K mg [.ref a] H Q E := q
local macro_rules | `(tactic| walk_at "op") => `(tactic| with_reducible refine q_greatest_mean ?_)
theorem c_greatest_mean (T : Txt K mg) : Cal P w K mg base 3 "greatest_mean" (sp_greatest_mean K mg) := by
  refine T.d_greatest_mean.cal (k := 2) sc_greatest_mean (by intro vs H Q E h; unfold sp_greatest_mean at h; split at h <;> first | rfl | exact h.elim) fun f cdv A outer s H vs Q E hr h => ?_
  refine ⟨_, (pss_cons (ps_setLc (i := 4) (own := [("weight", 1), ("value", 2), ("word", 3)]) (g := (gTup K 3 (gCons (gName 1) (gCons (gName 2) (gCons (gName 3) gNil))))) (tt := tYes) (te := (tOp (aEq K) (tVar 3) (tC (.str "yes")))) rfl sc_greatest_mean.nd rfl rfl (sw_true rfl rfl rfl (by decide +kernel)) (pi_list (pv 0)) (blkOk_by (N := ["rows", "weight", "value", "word", "counted", "top", "bottom", "at", "falling", "less", "row"]) (sc := defScope s_greatest_mean) (by decide +kernel)) (fun _ _ _ _ _ => by exact (pg_tup rfl (pgs_cons (pg_name (i := 1) sc_greatest_mean.nd rfl (.inl rfl)) (pgs_cons (pg_name (i := 2) sc_greatest_mean.nd rfl (.inl rfl)) (pgs_cons (pg_name (i := 3) sc_greatest_mean.nd rfl (.inl rfl)) pgs_nil))))) (fun _ _ _ _ _ => pts_nil) (fun _ _ _ _ _ => by exact (pe_cmpR (op_eqA hr) (pv 3) pe_str (nomark _))))
    (pss_cons (ps_set (i := 5) sc_greatest_mean.nd rfl (.inl rfl) (pe_callB (cr_sum rfl) (by rfl) T.n_sum (by decide +kernel) (pa_cons (pe_lc (own := [("weight", 1), ("value", 2), ("word", 3)]) (g := (gTup K 3 (gCons (gName 1) (gCons (gName 2) (gCons (gName 3) gNil))))) (tt := (tTest (tOp (aEq K) (tVar 3) (tC (.str "yes"))))) (te := (tOp aMul (tVar 1) (tVar 2))) rfl sc_greatest_mean.nd (pi_list (pv 0)) (blkOk_by (N := ["rows", "weight", "value", "word", "counted", "top", "bottom", "at", "falling", "less", "row"]) (sc := defScope s_greatest_mean) (by decide +kernel)) (fun _ _ _ _ _ => by exact (pg_tup rfl (pgs_cons (pg_name (i := 1) sc_greatest_mean.nd rfl (.inl rfl)) (pgs_cons (pg_name (i := 2) sc_greatest_mean.nd rfl (.inl rfl)) (pgs_cons (pg_name (i := 3) sc_greatest_mean.nd rfl (.inl rfl)) pgs_nil))))) (fun _ _ _ _ _ => by exact pts_one (pt_cmpR (op_eqA hr) (pv 3) pe_str (nomark _))) (fun _ _ _ _ _ => by exact (pe_op op_mulA (pv 1) (pv 2)))) pa_nil)))
    (pss_cons (ps_set (i := 6) sc_greatest_mean.nd rfl (.inl rfl) (pe_callB (cr_sum rfl) (by rfl) T.n_sum (by decide +kernel) (pa_cons (pe_lc (own := [("weight", 1), ("value", 2), ("word", 3)]) (g := (gTup K 3 (gCons (gName 1) (gCons (gName 2) (gCons (gName 3) gNil))))) (tt := (tTest (tOp (aEq K) (tVar 3) (tC (.str "yes"))))) (te := (tVar 1)) rfl sc_greatest_mean.nd (pi_list (pv 0)) (blkOk_by (N := ["rows", "weight", "value", "word", "counted", "top", "bottom", "at", "falling", "less", "row"]) (sc := defScope s_greatest_mean) (by decide +kernel)) (fun _ _ _ _ _ => by exact (pg_tup rfl (pgs_cons (pg_name (i := 1) sc_greatest_mean.nd rfl (.inl rfl)) (pgs_cons (pg_name (i := 2) sc_greatest_mean.nd rfl (.inl rfl)) (pgs_cons (pg_name (i := 3) sc_greatest_mean.nd rfl (.inl rfl)) pgs_nil))))) (fun _ _ _ _ _ => by exact pts_one (pt_cmpR (op_eqA hr) (pv 3) pe_str (nomark _))) (fun _ _ _ _ _ => by exact (pv 1))) pa_nil)))
    (pss_cons (ps_set (i := 8) sc_greatest_mean.nd rfl (.inl rfl) (pe_callB cr_sortedPO (by rfl) T.n_sorted (by decide +kernel) (pa_cons (pe_lc (own := [("at", 7), ("row", 10)]) (g := (gTup K 2 (gCons (gName 7) (gCons (gName 10) gNil)))) (tt := (tTest (tOp (aEq K) (tOp (rIx K) (tVar 10) (tC (.int 2))) (tC (.str "open"))))) (te := (tTup (tCons (tOp (rI0 fun i j => .int (i - j)) (tC (.int 0)) (tOp (rIx K) (tVar 10) (tC (.int 1)))) (tCons (tVar 7) tNil)))) rfl sc_greatest_mean.nd (pi_enum (by rfl) T.n_enumerate (pa_cons (pv 0) pa_nil)) (blkOk_by (N := ["rows", "weight", "value", "word", "counted", "top", "bottom", "at", "falling", "less", "row"]) (sc := defScope s_greatest_mean) (by decide +kernel)) (fun _ _ _ _ _ => by exact (pg_tup rfl (pgs_cons (pg_name (i := 7) sc_greatest_mean.nd rfl (.inl rfl)) (pgs_cons (pg_name (i := 10) sc_greatest_mean.nd rfl (.inl rfl)) pgs_nil)))) (fun _ _ _ _ _ => by exact pts_one (pt_cmpR (op_eqA hr) (pe_ix ix_seq (pv 10) pe_int (fun _ _ => rfl)) pe_str (nomark _))) (fun _ _ _ _ _ => by exact (pe_tup (pa_cons (pe_op op_sub pe_int (pe_ix ix_seq (pv 10) pe_int (fun _ _ => rfl))) (pa_cons (pv 7) pa_nil))))) pa_nil)))
    (Evl.pss_cut (ps_for PassesOwn.never rfl (pi_list (pv 8)) (pg_tup rfl (pgs_cons (pg_name (i := 9) sc_greatest_mean.nd rfl (.inl rfl)) (pgs_cons (pg_name (i := 7) sc_greatest_mean.nd rfl (.inl rfl)) pgs_nil)))
    (pss_cons (ps_asg (pe_ix ix_seq (pv 0) (pv 7) (fun _ _ => rfl)) (pg_tup rfl (pgs_cons (pg_name (i := 1) sc_greatest_mean.nd rfl (.inl rfl)) (pgs_cons (pg_name (i := 2) sc_greatest_mean.nd rfl (.inl rfl)) (pgs_cons (pg_name (i := 3) sc_greatest_mean.nd rfl (.inl rfl)) pgs_nil)))))
    (pss_one (ps_if (PW.pt (pw_or (pt_cmpR (op_eqA hr) (pv 6) pe_int (nomark _)) (pw_or1 (pt_val (pe_c (c_below T) hr (by decide) (by rfl) (pa_cons (pe_c (c_share T) hr (by decide) (by rfl) (pa_cons (pv 5) (pa_cons (pv 6) pa_nil))) (pa_cons (pe_tup (pa_cons (pv 2) (pa_cons pe_int pa_nil))) pa_nil)))))))
    (pss_cons (ps_aug (i := 5) sc_greatest_mean.nd rfl (.inl rfl) (pe_op op_mulA (pv 1) (pv 2)) ip_add)
    (pss_cons (ps_aug (i := 6) sc_greatest_mean.nd rfl (.inl rfl) (pv 1) ip_add)
    (pss_one (ps_asg pe_bl (pg_sub (pv 4) (pv 7) set_list)))))
    pss_nil))))
    (pss_cons (ps_if (pt_cmpR (op_eqA hr) (pv 6) pe_int (nomark _))
    (pss_one (ps_ret pe_non))
    pss_nil)
    (pss_one (ps_ret (pe_tup (pa_cons (pe_c (c_share T) hr (by decide) (by rfl) (pa_cons (pv 5) (pa_cons (pv 6) pa_nil))) (pa_cons (pv 4) pa_nil))))))))))), ?_⟩
  try simp only [cxOf_K, cxOf_K', cxOf_mg, cxOf_mg']
  unfold sp_greatest_mean at h
  split at h
  case h_2 => exact h.elim
  rename_i a
  rw [show L2.start ["rows", "weight", "value", "word", "counted", "top", "bottom", "at", "falling", "less", "row"] [V.ref a] = [some (V.ref a), none, none, none, none, none, none, none, none, none, none] from rfl]
  obtain ⟨us, rows, hL, hA, hl, ok, q1, q2⟩ := h
  have hul := hA.len
  rw [List.length_map] at hul
  walk_at "sts"
  refine L_rl hL ?_
  refine lc_fm walk_list (fun i => (rows[i]?).map fun r => V.bl (isY r)) (by omega) (fun H' e => e.seq hL) ?_ ?_
  · rintro j x2 H3 H3' R1 R2 hj s3 ⟨e, hx⟩ r1 r2
    subst e
    obtain ⟨r, t, hr, rfl, ht⟩ := hit3w hA hx
    refine L_gTup (s3.seqT ht) rfl ?_
    walk_at "sts"
    refine ⟨rfl, ?_⟩
    walk_at "sts"
    exact r1 _ _ (by rw [hr]; rfl) (Same.refl _)
  intro pc H1 hpc s1 e1
  rw [hul, fm_get, show (fun r => V.bl (isY r)) = V.bl ∘ isY from rfl, ← List.map_map] at e1
  walk_at "sts"
  refine L_rl (s1.seq hL) ?_
  refine lc_fm walk_list (fun i => (rows[i]?).bind fun r => if isY r = true then some (V.int (r.1 * r.2.1)) else none) (by omega) (fun H' e => e.seq (s1.seq hL)) ?_ ?_
  · rintro j x2 H3 H3' R1 R2 hj s3 ⟨e, hx⟩ r1 r2
    subst e
    obtain ⟨r, t, hr, rfl, ht⟩ := hit3w hA hx
    have hok := ok r (List.mem_of_getElem? hr)
    refine L_gTup ((s1.trans s3).seqT ht) rfl ?_
    walk_at "sts"
    refine ⟨rfl, ?_⟩
    walk_at "sts"
    refine L_d (fun c => ?_) (fun c => ?_)
    · walk_at "sts"
      refine L_mulI ((bd_64 (by have := hok.1; have := hok.2.1; omega)).cmul (bd_64 (by have := hok.2.2.1; have := hok.2.2.2.1; omega))) ?_
      exact r1 _ _ (by rw [hr, Option.bind_some, if_pos (show isY r = true from decide_eq_true c)]) (Same.refl _)
    · exact r2 _ (by rw [hr, Option.bind_some, if_neg (by unfold isY; rw [decide_eq_false c]; exact Bool.false_ne_true)]) (Same.refl _)
  intro p2 H2 hp2 s2 e2
  rw [hul, fm_flt] at e2
  walk_at "sts"
  refine L_sum (ns := (rows.filter isY).map fun r => r.1 * r.2.1) (.of (by rw [e2, List.map_map]; rfl)) ?_
  have s12 := s1.trans s2
  walk_at "sts"
  refine L_rl (s12.seq hL) ?_
  refine lc_fm walk_list (fun i => (rows[i]?).bind fun r => if isY r = true then some (V.int r.1) else none) (by omega) (fun H' e => e.seq (s12.seq hL)) ?_ ?_
  · rintro j x2 H3 H3' R1 R2 hj s3 ⟨e, hx⟩ r1 r2
    subst e
    obtain ⟨r, t, hr, rfl, ht⟩ := hit3w hA hx
    refine L_gTup ((s12.trans s3).seqT ht) rfl ?_
    walk_at "sts"
    refine ⟨rfl, ?_⟩
    walk_at "sts"
    refine L_d (fun c => ?_) (fun c => ?_)
    · walk_at "sts"
      exact r1 _ _ (by rw [hr, Option.bind_some, if_pos (show isY r = true from decide_eq_true c)]) (Same.refl _)
    · exact r2 _ (by rw [hr, Option.bind_some, if_neg (by unfold isY; rw [decide_eq_false c]; exact Bool.false_ne_true)]) (Same.refl _)
  intro p3 H3 hp3 s3 e3
  rw [hul, fm_flt] at e3
  walk_at "sts"
  refine L_sum (ns := (rows.filter isY).map (·.1)) (.of (by rw [e3, List.map_map]; rfl)) ?_
  have s13 := s12.trans s3
  walk_at "sts"
  refine L_re (s13.seq hL) ?_
  refine lc_pr (walk_enum (K := K)) (fun i => (rows[i]?).bind fun r => if isO r = true then some (0 - r.2.1, (i : Int)) else none) (by omega) (fun H' e => e.seq (s13.seq hL)) ?_ ?_
  · rintro i x1 H4 H4' R R' hi sm ⟨T1, k0, t0, rfl, hT, rfl, hk, ht⟩ r1 r2
    cases hk
    replace ht : us[i]? = some t0 := ht
    obtain ⟨r, t, hr, rfl, hrt⟩ := hit3w hA ht
    refine L_gTup (.of upd_same) rfl ?_
    have s4 := same_upd (o := HO.tup [V.int (i : Int), V.ref t]) (s13.trans sm) hT
    have sT : Same H4 (upd H4 T1 (HO.tup [V.int (i : Int), V.ref t])) := same_new hT
    generalize upd H4 T1 (HO.tup [V.int (i : Int), V.ref t]) = H5 at s4 sT
    walk_at "sts"
    refine ⟨rfl, ?_⟩
    walk_at "sts"
    refine L_ixT (s4.seqT hrt) rfl ?_
    walk_at "sts"
    refine L_d (fun c => ?_) (fun c => ?_)
    · walk_at "sts"
      refine L_ixT (s4.seqT hrt) rfl ?_
      walk_at "sts"
      walk_at "nw"
      rename_i p6 hp6 H6 s6 e6
      exact r1 _ _ _ (by rw [hr, Option.bind_some, if_pos (show isO r = true from decide_eq_true c)]) (sT.trans s6) e6
    · exact r2 _ (by rw [hr, Option.bind_some, if_neg (by unfold isO; rw [decide_eq_false c]; exact Bool.false_ne_true)]) sT
  intro p4 H4 vs4 hp4 s4 e4 pr4
  rw [hul] at pr4
  have pr4 : Paired (T2 H4) vs4 (opens rows) := pr4
  walk_at "sts"
  refine ⟨p4, vs4, kk H4, rfl, .of e4, fun x hx => t2_of pr4 x hx, fun ys p5 h1 h2 np5 => ?_⟩
  have prs := sorted_kk pr4 h1 h2.perm
  have s5 := same_new (o := HO.lst ys) np5
  have e5 : upd H4 p5 (.lst ys) p5 = some (.lst ys) := upd_same
  have prs5 : Paired (T2 (upd H4 p5 (.lst ys))) ys (srt (opens rows)) := paired_imp2 (fun v p ⟨t, h1, h2⟩ => ⟨t, h1, s5 _ _ h2⟩) prs
  generalize upd H4 p5 (.lst ys) = H5 at s5 e5 prs5
  have e15 := (s2.trans (s3.trans (s4.trans s5))) _ _ e1
  have s05 := s13.trans (s4.trans s5)
  have hyl := Paired.length prs5
  have hne5 : p5 ≠ pc := ne_new np5 ⟨_, (s2.trans (s3.trans s4)) _ _ e1⟩
  clear e1 e2 e3 e4 pr4 prs h1 h2 hp2 hp3 hp4 np5
  walk_at "sts"
  refine L_cut (Mid := fun σ' H' => ∃ v1 v2 v3 v7 v8 v9 v10 : Option V, σ' = [some (.ref a), v1, v2, v3, some (.ref pc), some (.int (gm rows).1), some (.int (gm rows).2.1), v7, v8, v9, v10] ∧ Same H H' ∧ H' pc = some (.lst ((gm rows).2.2.map V.bl))) ?_ ?_
  case refine_2 =>
    rintro σ' H6 ⟨v1, v2, v3, v7, v8, v9, v10, rfl, s6, e6⟩
    have hgm := gm_ok ok
    have hb := zs_bd (fun r => r.1) 1000000 rows (gm rows).2.2 (fun r hr => by obtain ⟨h1, h2, _⟩ := ok r hr; first | omega | (dsimp only; omega)) (by decide)
    rw [← hgm.b] at hb
    have hn : 0 ≤ (gm rows).2.1 := by rw [hgm.b]; exact zs_nn _ _ _ fun r hr => by have := (ok r hr).1; first | omega | (dsimp only; omega)
    walk_at "sts"
    refine L_d (fun c => ?_) (fun c => ?_)
    · walk_at "sts"
      exact q1 c _ s6
    · walk_at "sts"
      refine ⟨c, (bd_64 (by omega)).mono (by decide), fun p7 H7 hp7 s7 e7 => ?_⟩
      rw [low_shr (by omega)] at e7
      walk_at "sts"
      walk_at "nw"
      rename_i p8 hp8 H8 s8 e8
      exact q2 c p8 p7 pc H8 ((s6.trans s7).free hp8) hpc (s6.trans (s7.trans s8)) e8 (s8 _ _ e7) ((s7.trans s8) _ _ e6)
  walk_at "sts"
  refine L_rl (.of e5) ?_
  refine f_it walk_list (fun j σ' H' => ∃ v1 v2 v3 v7 v9 v10 : Option V, σ' = [some (.ref a), v1, v2, v3, some (.ref pc), some (.int (sofar rows j).1), some (.int (sofar rows j).2.1), v7, some (.ref p5), v9, v10] ∧ Same H H' ∧ H' pc = some (.lst ((sofar rows j).2.2.map V.bl)) ∧ H' p5 = some (.lst ys) ∧ Paired (T2 H') ys (srt (opens rows))) ⟨_, _, _, _, _, _, rfl, s05, e15, e5, prs5⟩ (fun _ _ _ _ ⟨_, _, _, _, _, _, _, _, _, e, _⟩ => .of e) ?_ ?_
  · rintro j x σ' H6F H6G hj ⟨v1, v2, v3, v7, v9, v10, rfl, s6, e6, e56, pr6⟩ ⟨e, hx⟩
    obtain rfl : H6F = H6G := e.symm
    obtain ⟨p, hp, ⟨t, rfl, et⟩⟩ := LiI.paired_get pr6 hx
    have hjl := (List.getElem?_eq_some_iff.mp hp).1
    obtain ⟨i, r, hr, ho, rfl⟩ := opens_in ((srt_perm _).mem_iff.mp (List.mem_of_getElem? hp))
    have g := gi_at ok j (by omega)
    have hst : sofar rows (j + 1) = stp rows (sofar rows j) (0 - r.2.1, (i : Int)) := by
      unfold sofar
      rw [List.take_add_one, hp, Option.toList_some, List.foldl_append]
      rfl
    obtain ⟨o1, o2, o3, o4, _⟩ := ok r (List.mem_of_getElem? hr)
    have hbT := zs_bd (fun r => r.1 * r.2.1) 1000000000000000 rows (sofar rows j).2.2 (fun r hr => by
      obtain ⟨h1, h2, h3, h4, _⟩ := ok r hr
      have h5 : r.1 * r.2.1 ≤ r.1 * 1000000000 := Int.mul_le_mul_of_nonneg_left h4 (by omega)
      have h6 : r.1 * (-1000000000) ≤ r.1 * r.2.1 := Int.mul_le_mul_of_nonneg_left h3 (by omega)
      first | omega | (dsimp only; omega)) (by decide)
    rw [← g.t] at hbT
    have hbB := zs_bd (fun r => r.1) 1000000 rows (sofar rows j).2.2 (fun r hr => by obtain ⟨h1, h2, _⟩ := ok r hr; first | omega | (dsimp only; omega)) (by decide)
    rw [← g.b] at hbB
    have hB0 : 0 ≤ (sofar rows j).2.1 := by rw [g.b]; exact zs_nn _ _ _ fun r hr => by have := (ok r hr).1; first | omega | (dsimp only; omega)
    have hlen := g.len
    unfold stp at hst
    rw [show ((0 - r.2.1, (i : Int)) : Int × Int).2.toNat = i from rfl, hr] at hst
    dsimp only at hst
    generalize sofar rows j = S at *
    obtain ⟨T0, B0, c0⟩ := S
    dsimp only at *
    have hir := (List.getElem?_eq_some_iff.mp hr).1
    obtain ⟨ux, hux⟩ : ∃ ux, us[i]? = some ux := ⟨_, List.getElem?_eq_getElem (by omega)⟩
    obtain ⟨r', t', hr', rfl, ht'⟩ := hit3w hA hux
    rw [hr] at hr'
    cases hr'
    refine L_gTup (.of et) rfl ?_
    walk_at "sts"
    refine L_ixL (s6.seq hL) (atI_nat hux) ?_
    refine L_gTup (s6.seqT ht') rfl ?_
    walk_at "sts"
    refine L_d (fun c => ?_) (fun c => ?_)
    · walk_at "sts"
      refine L_mulI ((bd_64 (by omega)).cmul (bd_64 (by omega))) ?_
      walk_at "sts"
      refine L_setL e6 (ixN_of (by omega) (by rw [List.length_map]; omega)) ?_
      walk_at "sts"
      have nt : ∀ v p, T2 H6F v p → T2 (upd H6F pc (.lst ((c0.map V.bl).set ((i : Nat) : Int).toNat (.bl true)))) v p := fun v p h => by
        obtain ⟨t', h1, h2⟩ := h
        exact ⟨t', h1, by rw [upd_ne (fun z => by rw [z, e6] at h2; cases h2)]; exact h2⟩
      rw [hst, if_pos (.inl c)]
      exact ⟨_, _, _, _, _, _, rfl, same_mut s6 hpc, by rw [upd_same, Int.toNat_natCast, List.map_set], by rw [upd_ne hne5]; exact e56, paired_imp2 nt pr6⟩
    · walk_at "sts"
      refine ⟨c, (bd_64 (by omega)).mono (by decide), fun p7 H7 hp7 s7 e7 => ?_⟩
      rw [low_shr (by omega)] at e7
      walk_at "sts"
      walk_at "nw"
      rename_i p8 hp8 H8 s8 e8
      have s78 := s7.trans s8
      walk_at "sts"
      refine ⟨_, _, r.2.1, 1, fr_low (by omega) (s8 _ _ e7) ((bd_64 (by omega)).mono (by decide)) ((bd_64 (by omega)).mono (by decide)), ⟨.of e8, by decide, (bd_64 (by omega)).mono (by decide), (bd_64 (by decide)).mono (by decide)⟩, ?_⟩
      rw [show decide ((low T0 B0).1 * 1 < r.2.1 * (low T0 B0).2) = decide (T0 < r.2.1 * B0) from decide_eq_decide.mpr (low_lt (by omega))]
      have e68 := s78 _ _ e6
      have e568 := s78 _ _ e56
      have pr8 : Paired (T2 H8) ys (srt (opens rows)) := paired_imp2 (fun v p h => by obtain ⟨t', h1, h2⟩ := h; exact ⟨t', h1, s78 _ _ h2⟩) pr6
      walk_at "sts"
      refine L_d (fun c2 => ?_) (fun c2 => ?_)
      · walk_at "sts"
        refine L_mulI ((bd_64 (by omega)).cmul (bd_64 (by omega))) ?_
        walk_at "sts"
        refine L_setL e68 (ixN_of (by omega) (by rw [List.length_map]; omega)) ?_
        walk_at "sts"
        have nt : ∀ v p, T2 H8 v p → T2 (upd H8 pc (.lst ((c0.map V.bl).set ((i : Nat) : Int).toNat (.bl true)))) v p := fun v p h => by
          obtain ⟨t', h1, h2⟩ := h
          exact ⟨t', h1, by rw [upd_ne (fun z => by rw [z, e68] at h2; cases h2)]; exact h2⟩
        rw [hst, if_pos (.inr c2)]
        exact ⟨_, _, _, _, _, _, rfl, same_mut (s6.trans s78) hpc, by rw [upd_same, Int.toNat_natCast, List.map_set], by rw [upd_ne hne5]; exact e568, paired_imp2 nt pr8⟩
      · walk_at "sts"
        rw [hst, if_neg (fun z => z.elim c c2)]
        exact ⟨_, _, _, _, _, _, rfl, s6.trans s78, e68, e568, pr8⟩
  · rintro σ' H6 ⟨v1, v2, v3, v7, v9, v10, rfl, s6, e6, e56, pr6⟩
    have e : sofar rows ys.length = gm rows := by unfold sofar gm; rw [hyl, List.take_length]
    rw [e] at e6 ⊢
    exact ⟨_, _, _, _, _, _, _, rfl, s6, e6⟩
abbrev R4 := Int × Int × Int × Str
def d4 (r : R4) : PyData := .tuple [.int r.1, .int r.2.1, .int r.2.2.1, .str r.2.2.2]
def Ok4 (r : R4) : Prop := 1 ≤ r.1 ∧ r.1 ≤ 1000000 ∧ -1000000000 ≤ r.2.1 ∧ r.2.1 ≤ r.2.2.1 ∧ r.2.2.1 ≤ 1000000000 ∧ (r.2.2.2 = ("yes" : Str) ∨ r.2.2.2 = ("no" : Str) ∨ r.2.2.2 = ("open" : Str))
theorem hit4 {H : Hp} {us : List V} {c : List R4} (hA : DpAll K H us (c.map d4)) {i : Nat} {x : V} (hx : us[i]? = some x) : ∃ m t, c[i]? = some m ∧ x = .ref t ∧ SqT K H t [.int m.1, .int m.2.1, .int m.2.2.1, .str m.2.2.2] := by
  obtain ⟨d, h1, h2⟩ := hA.of hx
  rw [List.getElem?_map] at h1
  obtain ⟨m, h3, rfl⟩ := Option.map_eq_some_iff.mp h1
  obtain ⟨t, x1, x2, x3, x4, rfl, h4, h5, h6, h7, h8⟩ := of_t4 h2
  rw [of_int h5, of_int h6, of_int h7, of_str h8] at h4
  exact ⟨m, t, h3, rfl, h4⟩
def hiR (r : R4) : Rv := (r.1, r.2.2.1, r.2.2.2)
def loR (r : R4) : Rv := (r.1, 0 - r.2.1, r.2.2.2)
theorem hi_ok {rows : List R4} (h : ∀ r ∈ rows, Ok4 r) : ∀ r ∈ rows.map hiR, OkV r := fun r hr => by
  obtain ⟨x, hx, rfl⟩ := List.mem_map.mp hr
  obtain ⟨h1, h2, h3, h4, h5, h6⟩ := h x hx
  exact ⟨h1, h2, by show -1000000000 ≤ x.2.2.1; omega, h5, h6⟩
theorem lo_ok {rows : List R4} (h : ∀ r ∈ rows, Ok4 r) : ∀ r ∈ rows.map loR, OkV r := fun r hr => by
  obtain ⟨x, hx, rfl⟩ := List.mem_map.mp hr
  obtain ⟨h1, h2, h3, h4, h5, h6⟩ := h x hx
  exact ⟨h1, h2, by show -1000000000 ≤ 0 - x.2.1; omega, by show 0 - x.2.1 ≤ 1000000000; omega, h6⟩
def fill (g : R4 → Int) (rows : List R4) (c : List Bool) : List V := (rows.zip c).map fun z => if z.2 = true then .int (g z.1) else .non
def AllNo (rows : List R4) : Prop := ∀ r ∈ rows, r.2.2.2 = ("no" : Str)
theorem b_zero {rows : List R4} {h : R4 → Rv} (hw : ∀ r, (h r).2.2 = r.2.2.2) (ok : ∀ r ∈ rows.map h, OkV r) : (AllNo rows → (gm (rows.map h)).2.1 = 0) ∧ (¬ AllNo rows → 0 < (gm (rows.map h)).2.1) := by
  have g := gm_ok ok
  refine ⟨fun hn => g.z fun r hr => ?_, fun hn => g.nz ?_⟩
  · obtain ⟨x, hx, rfl⟩ := List.mem_map.mp hr
    rw [hw]
    exact hn x hx
  · refine Classical.byContradiction fun hno => hn fun r hr => Classical.byContradiction fun hr2 => hno ⟨h r, List.mem_map_of_mem hr, by rw [hw]; exact hr2⟩
def sp_filled (K : PySem.W.Frag) (mg : Str → Option Value) : Sp := fun vs H Q _ => match vs with | [.ref a, .ref b, .int pl] => ∃ (us : List V) (rows : List R4) (c : List Bool) (g : R4 → Int), SqL K H a us ∧ DpAll K H us (rows.map d4) ∧ SqL K H b (c.map V.bl) ∧ c.length = rows.length ∧ rows.length ≤ 24 ∧ ((pl = 1 ∧ g = fun r => r.2.1) ∨ (pl = 2 ∧ g = fun r => r.2.2.1)) ∧ NewL H (fill g rows c) Q | _ => False
theorem q_filled {H : Hp} {Q : VK} {E : XK} {a : Addr} {b : Addr} {pl : Int} (q : ∃ (us : List V) (rows : List R4) (c : List Bool) (g : R4 → Int), SqL K H a us ∧ DpAll K H us (rows.map d4) ∧ SqL K H b (c.map V.bl) ∧ c.length = rows.length ∧ rows.length ≤ 24 ∧ ((pl = 1 ∧ g = fun r => r.2.1) ∨ (pl = 2 ∧ g = fun r => r.2.2.1)) ∧ NewL H (fill g rows c) Q) : sp_filled K mg [.ref a, .ref b, .int pl] H Q E := q
local macro_rules | `(tactic| walk_at "op") => `(tactic| with_reducible refine q_filled ?_)
theorem c_filled (T : Txt K mg) : Cal P w K mg base 1 "filled" (sp_filled K mg) := by
  refine T.d_filled.cal (k := 0) sc_filled (by intro vs H Q E h; unfold sp_filled at h; split at h <;> first | rfl | exact h.elim) fun f cdv A outer s H vs Q E hr h => ?_
  refine ⟨_, (pss_one (ps_ret (pe_lc (own := [("answer", 3), ("counts", 4)]) (g := (gTup K 2 (gCons (gName 3) (gCons (gName 4) gNil)))) (tt := tYes) (te := (tIf (tB (tVar 4)) (tOp (rIx K) (tVar 3) (tVar 2)) (tC .non))) rfl sc_filled.nd (pi_zip (by rfl) T.n_zip (pa_cons (pv 0) (pa_cons (pv 1) pa_nil))) (blkOk_by (N := ["answers", "counted", "place", "answer", "counts"]) (sc := defScope s_filled) (by decide +kernel)) (fun _ _ _ _ _ => by exact (pg_tup rfl (pgs_cons (pg_name (i := 3) sc_filled.nd rfl (.inl rfl)) (pgs_cons (pg_name (i := 4) sc_filled.nd rfl (.inl rfl)) pgs_nil)))) (fun _ _ _ _ _ => pts_nil) (fun _ _ _ _ _ => by exact (pe_ifExp (pt_val (pv 4)) (pe_ix ix_seq (pv 3) (pv 2) (fun _ _ => rfl)) pe_non))))), ?_⟩
  try simp only [cxOf_K, cxOf_K', cxOf_mg, cxOf_mg']
  unfold sp_filled at h
  split at h
  case h_2 => exact h.elim
  rename_i a b pl
  rw [show L2.start ["answers", "counted", "place", "answer", "counts"] [V.ref a, V.ref b, V.int pl] = [some (V.ref a), some (V.ref b), some (V.int pl), none, none] from rfl]
  obtain ⟨us, rows, c, g, ha, hA, hb, hc, hl, hg, q⟩ := h
  have hul := hA.len
  rw [List.length_map] at hul
  walk_at "sts"
  refine L_rz ha hb ?_
  refine lc_fm (walk_zip (n := rows.length) (by rw [List.length_map]; omega)) (fun i => ((rows.zip c)[i]?).map fun z => if z.2 = true then V.int (g z.1) else .non) (by omega) (fun H' e => ⟨e.seq ha, e.seq hb⟩) ?_ ?_
  · rintro i x H2 H' R R' hi sm ⟨T1, y, z, rfl, hT, rfl, hy, hz⟩ r1 r2
    obtain ⟨r, t, hr, rfl, ht⟩ := hit4 hA hy
    replace hz : (c.map V.bl)[i]? = some z := hz
    rw [List.getElem?_map] at hz
    obtain ⟨b0, hb0, rfl⟩ := Option.map_eq_some_iff.mp hz
    have hzip : (rows.zip c)[i]? = some (r, b0) := by rw [List.getElem?_zip_eq_some]; exact ⟨hr, hb0⟩
    have s4 := same_upd (o := HO.tup [V.ref t, V.bl b0]) sm hT
    refine L_gTup (.of upd_same) rfl ?_
    have sT : Same H2 (upd H2 T1 (HO.tup [V.ref t, V.bl b0])) := same_new hT
    generalize upd H2 T1 (HO.tup [V.ref t, V.bl b0]) = H5 at s4 sT
    walk_at "sts"
    refine ⟨rfl, ?_⟩
    walk_at "sts"
    refine L_b (fun cb => ?_) (fun cb => ?_)
    · subst cb
      walk_at "sts"
      rcases hg with ⟨rfl, rfl⟩ | ⟨rfl, rfl⟩
      · refine L_ixT (s4.seqT ht) rfl ?_
        exact r1 _ _ (by rw [hzip]; rfl) sT
      · refine L_ixT (s4.seqT ht) rfl ?_
        exact r1 _ _ (by rw [hzip]; rfl) sT
    · subst cb
      walk_at "sts"
      exact r1 _ _ (by rw [hzip]; rfl) sT
  · intro p H' hp s e
    rw [show rows.length = (rows.zip c).length by rw [List.length_zip]; omega, fm_get] at e
    exact q p H' hp s e
abbrev R3 := Int × Int × Int
/-- an answer as data -/
def d3 (r : R3) : PyData := .tuple [.int r.1, .int r.2.1, .int r.2.2]
def Ok3 (r : R3) : Prop := 1 ≤ r.1 ∧ r.1 ≤ 1000000 ∧ -1000000000 ≤ r.2.1 ∧ r.2.1 ≤ r.2.2 ∧ r.2.2 ≤ 1000000000
theorem of_d3 {H : Hp} {v : V} {r : R3} (h : Dp K H v (d3 r)) : ∃ a, v = .ref a ∧ SqT K H a [.int r.1, .int r.2.1, .int r.2.2] := by
  obtain ⟨a, x, y, z, rfl, h1, h2, h3, h4⟩ := of_t3 h
  rw [of_int h2, of_int h3, of_int h4] at h1
  exact ⟨a, rfl, h1⟩
theorem hit3 {H : Hp} {us : List V} {rows : List R3} (hA : DpAll K H us (rows.map d3)) (ho : ∀ r ∈ rows, Ok3 r) {i : Nat} {x : V} (hx : us[i]? = some x) : ∃ r t, rows[i]? = some r ∧ x = V.ref t ∧ SqT K H t [.int r.1, .int r.2.1, .int r.2.2] ∧ Ok3 r := by
  obtain ⟨d, h1, h2⟩ := hA.of hx
  rw [List.getElem?_map] at h1
  obtain ⟨r, h3, rfl⟩ := Option.map_eq_some_iff.mp h1
  obtain ⟨t, rfl, h4⟩ := of_d3 h2
  exact ⟨r, t, h3, rfl, h4, ho r (List.mem_of_getElem? h3)⟩
/-! ### answers judged -/
/-- a thing judged as an answer of n things -/
def JA (K : PySem.W.Frag) (H : Hp) (n : Int) (v : V) (b : Bool) : Prop := (b = false ∧ NotT K H v) ∨ (b = false ∧ ∃ a xs, v = .ref a ∧ SqT K H a xs ∧ xs.length ≤ 1000 ∧ (xs.length : Int) ≠ n) ∨ ∃ a x y z r b1 b2 b3, v = .ref a ∧ SqT K H a (x :: y :: z :: r) ∧ ((r.length + 3 : Nat) : Int) = n ∧ Jw K H 1 1000000 x b1 ∧ Jw K H (0 - 1000000000) 1000000000 y b2 ∧ (∀ lo, y = .int lo → Jw K H lo 1000000000 z b3) ∧ b = (b1 && b2 && b3)
theorem JA.same {K : PySem.W.Frag} {H H' : Hp} {n : Int} {v : V} {b : Bool} (h : JA K H n v b) (s : Same H H') : JA K H' n v b := by
  rcases h with ⟨h1, h2⟩ | ⟨h1, a, xs, h2, h3, h4⟩ | ⟨a, x, y, z, r, b1, b2, b3, h1, h2, h3, h4, h5, h6, h7⟩
  · exact .inl ⟨h1, h2.same s⟩
  · exact .inr (.inl ⟨h1, a, xs, h2, s.seqT h3, h4⟩)
  · exact .inr (.inr ⟨a, x, y, z, r, b1, b2, b3, h1, s.seqT h2, h3, h4.same s, h5.same s, fun lo e => (h6 lo e).same s, h7⟩)
def sp_is_answer (K : PySem.W.Frag) (mg : Str → Option Value) : Sp := fun vs H Q _ => match vs with | [v, .int n] => ∃ b, JA K H n v b ∧ Q (.bl b) H | _ => False
theorem q_is_answer {H : Hp} {Q : VK} {E : XK} {v : V} {n : Int} (q : ∃ b, JA K H n v b ∧ Q (.bl b) H) : sp_is_answer K mg [v, .int n] H Q E := q
local macro_rules | `(tactic| walk_at "op") => `(tactic| with_reducible refine q_is_answer ?_)
theorem c_is_answer (T : Txt K mg) : Cal P w K mg base 2 "is_answer" (sp_is_answer K mg) := by
  refine T.d_is_answer.cal (k := 1) sc_is_answer (by intro vs H Q E h; unfold sp_is_answer at h; split at h <;> first | rfl | exact h.elim) fun f cdv A outer s H vs Q E hr h => ?_
  refine ⟨_, (pss_cons (ps_if (PW.pt (pw_or (pt_not (pt_val (pe_callB call_isi (by rfl) T.n_isinstance (by decide +kernel) (pa_cons (pv 0) (pa_cons (pe_ty "tuple" (by rfl) T.n_tuple (by decide +kernel)) pa_nil))))) (pw_or (pt_cmpR (op_neA hr) (pe_callB call_lenA (by rfl) T.n_len (by decide +kernel) (pa_cons (pv 0) pa_nil)) (pv 1) (nomark _)) (pw_or1 (pt_not (pt_val (pe_c (c_is_whole T) hr (by decide) (by rfl) (pa_cons (pe_ix ix_seq (pv 0) pe_int (fun _ _ => rfl)) (pa_cons pe_int (pa_cons (pe_gc (by rfl) T.g_MOST_WEIGHT_lacking) pa_nil))))))))))
    (pss_one (ps_ret pe_bl))
    pss_nil)
    (pss_one (ps_ret (pe_and (pe_c (c_is_whole T) hr (by decide) (by rfl) (pa_cons (pe_ix ix_seq (pv 0) pe_int (fun _ _ => rfl)) (pa_cons (pe_op op_sub pe_int (pe_gc (by rfl) T.g_FAR)) (pa_cons (pe_gc (by rfl) T.g_FAR) pa_nil)))) (pe_one (pe_c (c_is_whole T) hr (by decide) (by rfl) (pa_cons (pe_ix ix_seq (pv 0) pe_int (fun _ _ => rfl)) (pa_cons (pe_ix ix_seq (pv 0) pe_int (fun _ _ => rfl)) (pa_cons (pe_gc (by rfl) T.g_FAR) pa_nil))))))))), ?_⟩
  try simp only [cxOf_K, cxOf_K', cxOf_mg, cxOf_mg']
  unfold sp_is_answer at h
  split at h
  case h_2 => exact h.elim
  rename_i v n
  rw [show L2.start ["thing", "many"] [v, V.int n] = [some (v), some (V.int n)] from rfl]
  obtain ⟨b, ⟨rfl, ty, h1, h2⟩ | ⟨rfl, a, zs, rfl, hT, hz, hn⟩ | ⟨a, x, y, z, r, b1, b2, b3, rfl, hT, hn, j1, j2, j3, rfl⟩, q⟩ := h
  · walk_at "sts"
    refine L_isi h1 h2 ?_
    walk_at "sts"
    exact q
  · walk_at "sts"
    refine L_isi (tyx_T hT) (b := true) (by decide +kernel) ?_
    walk_at "sts"
    refine L_lenT hT ?_
    walk_at "sts"
    refine L_ndT hn ?_
    walk_at "sts"
    exact q
  · walk_at "sts"
    refine L_isi (tyx_T hT) (b := true) (by decide +kernel) ?_
    walk_at "sts"
    refine L_lenT hT ?_
    walk_at "sts"
    refine L_ndF (by rw [← hn]; simp; omega) ?_
    walk_at "sts"
    refine L_ixT hT (atI_int (by decide) rfl) ?_
    walk_at "sts"
    refine q_wholeJ j1 ?_
    cases b1 with
    | false =>
      walk_at "sts"
      exact q
    | true =>
      walk_at "sts"
      refine L_ixT hT (atI_int (by decide) rfl) ?_
      walk_at "sts"
      refine q_wholeJ j2 ?_
      cases b2 with
      | false =>
        walk_at "sts"
        exact q
      | true =>
        rcases j2 with ⟨_, t, rfl, _⟩ | ⟨z, _⟩
        · walk_at "sts"
          refine L_ixT hT (atI_int (by decide) rfl) ?_
          walk_at "sts"
          refine L_ixT hT (atI_int (by decide) rfl) ?_
          walk_at "sts"
          refine q_wholeJ (j3 t rfl) ?_
          exact q
        · cases z
/-- a thing judged as a list of answers -/
def JAs (K : PySem.W.Frag) (H : Hp) (n : Int) (v : V) (b : Bool) : Prop := (b = false ∧ NotL K H v) ∨ ∃ a us bs, v = .ref a ∧ SqL K H a us ∧ us.length ≤ 1000 ∧ Paired (JA K H n) us bs ∧ b = (!decide (24 < us.length) && bs.all id)
theorem JAs.same {K : PySem.W.Frag} {H H' : Hp} {n : Int} {v : V} {b : Bool} (h : JAs K H n v b) (s : Same H H') : JAs K H' n v b := by
  rcases h with ⟨h5, h6⟩ | ⟨a, us, bs, h5, h6, h7, h8, h9⟩
  · exact .inl ⟨h5, h6.same s⟩
  · exact .inr ⟨a, us, bs, h5, s.seq h6, h7, paired_imp2 (fun _ _ h => h.same s) h8, h9⟩
def sp_look_lacking (K : PySem.W.Frag) (mg : Str → Option Value) : Sp := fun vs H Q E => match vs with | [v, .int n] => ∃ b, JAs K H n v b ∧ (b = true → Q .non H) ∧ (b = false → E (.ref (cA mg "NoAnswers")) none H) | _ => False
theorem q_look_lacking {H : Hp} {Q : VK} {E : XK} {v : V} {n : Int} (q : ∃ b, JAs K H n v b ∧ (b = true → Q .non H) ∧ (b = false → E (.ref (cA mg "NoAnswers")) none H)) : sp_look_lacking K mg [v, .int n] H Q E := q
local macro_rules | `(tactic| walk_at "op") => `(tactic| with_reducible refine q_look_lacking ?_)
theorem c_look_lacking (T : Txt K mg) : CalX P w K mg base 3 "look_lacking" (sp_look_lacking K mg) := by
  refine T.d_look_lacking.calX (k := 2) sc_look_lacking (by intro vs H Q E h; unfold sp_look_lacking at h; split at h <;> first | rfl | exact h.elim) fun f cdv A outer s H vs Q E hr h => ?_
  refine ⟨_, (pss_cons (ps_if (PW.pt (pw_or (pt_not (pt_val (pe_callB call_isi (by rfl) T.n_isinstance (by decide +kernel) (pa_cons (pv 0) (pa_cons (pe_ty "list" (by rfl) T.n_list (by decide +kernel)) pa_nil))))) (pw_or1 (pt_cmpR op_gt (pe_callB call_lenA (by rfl) T.n_len (by decide +kernel) (pa_cons (pv 0) pa_nil)) (pe_gc (by rfl) T.g_MOST_ANSWERS) (nomark _)))))
    (pss_one (ps_raise rfl (takes_of rfl rfl rfl rfl) (pmk_own0 T.x_NoAnswers T.m_NoAnswers (by rfl))))
    pss_nil)
    (pss_one (ps_for (passes_of rfl) rfl (pi_list (pv 0)) (pg_name (i := 2) sc_look_lacking.nd rfl (.inl rfl))
    (pss_one (ps_if (pt_not (pt_val (pe_c (c_is_answer T) hr (by decide) (by rfl) (pa_cons (pv 2) (pa_cons (pv 1) pa_nil)))))
    (pss_one (ps_raise rfl (takes_of rfl rfl rfl rfl) (pmk_own0 T.x_NoAnswers T.m_NoAnswers (by rfl))))
    pss_nil))))), ?_⟩
  try simp only [cxOf_K, cxOf_K', cxOf_mg, cxOf_mg']
  unfold sp_look_lacking at h
  split at h
  case h_2 => exact h.elim
  rename_i v n
  rw [show L2.start ["answers", "many", "answer"] [v, V.int n] = [some (v), some (V.int n), none] from rfl]
  obtain ⟨b, ⟨rfl, ty, h1, h2⟩ | ⟨a, us, bs, rfl, hu, hl, hP, rfl⟩, q, e⟩ := h
  · walk_at "sts"
    refine L_isi h1 h2 ?_
    walk_at "sts"
    exact e rfl
  walk_at "sts"
  refine L_isi (tyx_L hu) (b := true) (by decide +kernel) ?_
  walk_at "sts"
  refine L_lenL hu ?_
  walk_at "sts"
  by_cases hz : 24 < us.length
  · refine L_dT (by omega) ?_
    walk_at "sts"
    exact e (by rw [decide_eq_true hz]; rfl)
  refine L_dF (by omega) ?_
  walk_at "sts"
  refine L_rl hu ?_
  have hbl := Paired.length hP
  refine f_it walk_list (fun i σ' H' => ∃ v2 : Option V, σ' = [some (.ref a), some (.int n), v2] ∧ H' = H ∧ ∀ j < i, bs[j]? = some true) ⟨_, rfl, rfl, fun j hj => absurd hj (Nat.not_lt_zero _)⟩ (fun _ _ _ _ ⟨_, _, z, _⟩ => z ▸ hu) ?_ ?_
  · rintro i x1 σ' H3 H3' hi ⟨v3, rfl, rfl, hb⟩ ⟨rfl, hx1⟩
    obtain ⟨b, hb1, hj⟩ := paired_at2 hP hx1
    walk_at "sts"
    refine ⟨b, hj, ?_⟩
    cases b with
    | true =>
      walk_at "sts"
      refine ⟨_, rfl, rfl, fun j hj => ?_⟩
      by_cases c : j = i
      · rw [c]; exact hb1
      · exact hb j (by omega)
    | false =>
      walk_at "sts"
      refine e ?_
      rw [show bs.all id = false from List.all_eq_false.mpr ⟨false, List.mem_of_getElem? hb1, by decide⟩, Bool.and_false]
  · rintro σ' H3 ⟨v3, rfl, rfl, hb⟩
    refine q ?_
    rw [decide_eq_false hz, show bs.all id = true from List.all_eq_true.mpr fun b hm => ?_]
    · rfl
    · obtain ⟨j, hj⟩ := List.getElem?_of_mem hm
      have hj' := (List.getElem?_eq_some_iff.mp hj).1
      rw [hb j (by omega)] at hj
      cases hj
      rfl
theorem jas_good {K : PySem.W.Frag} {H : Hp} {n : Int} {a : Addr} {us : List V} (hL : SqL K H a us) (hl : us.length ≤ 24) (ho : ∀ u ∈ us, ∃ (t : Addr) (w l h : Int) (xs : List V), u = .ref t ∧ SqT K H t (.int w :: .int l :: .int h :: xs) ∧ ((xs.length + 3 : Nat) : Int) = n ∧ (1 ≤ w ∧ w ≤ 1000000 ∧ -1000000000 ≤ l ∧ l ≤ h ∧ h ≤ 1000000000)) : JAs K H n (.ref a) true := by
  refine .inr ⟨a, us, us.map fun _ => true, rfl, hL, by omega, ?_, by rw [decide_eq_false (by omega)]; simp⟩
  clear hL hl
  induction us with
  | nil => exact .nil
  | cons u us ih =>
    refine .cons ?_ (ih fun v hv => ho v (List.mem_cons_of_mem _ hv))
    obtain ⟨t, w, l, h, xs, rfl, hT, hn, o1, o2, o3, o4, o5⟩ := ho u (List.mem_cons_self ..)
    refine .inr (.inr ⟨t, _, _, _, xs, true, true, true, rfl, hT, hn, .inl ⟨rfl, w, rfl, o1, o2⟩, .inl ⟨rfl, l, rfl, by omega, by omega⟩, fun lo e => ?_, rfl⟩)
    cases e
    exact .inl ⟨rfl, h, rfl, o4, o5⟩
/-- an answer's word judged -/
def Wd (K : PySem.W.Frag) (H : Hp) (v : V) (b : Bool) : Prop := ∃ t x y z w d, v = .ref t ∧ SqT K H t [x, y, z, w] ∧ Dp K H w d ∧ SeqAt.shaped d = true ∧ b = (PyData.eqv d (.str "yes") || PyData.eqv d (.str "no") || PyData.eqv d (.str "open"))
theorem Wd.same {K : PySem.W.Frag} {H H' : Hp} {v : V} {b : Bool} (h : Wd K H v b) (s : Same H H') : Wd K H' v b := by
  obtain ⟨t, x, y, z, w, d, h1, h2, h3, h4⟩ := h
  exact ⟨t, x, y, z, w, d, h1, s.seqT h2, h3.same s, h4⟩
/-- answers of which one has no word -/
def BadWs (K : PySem.W.Frag) (H : Hp) (v : V) : Prop := JAs K H 4 v true ∧ ∃ a us bs, v = .ref a ∧ SqL K H a us ∧ us.length ≤ 1000 ∧ Paired (Wd K H) us bs ∧ bs.all id = false
theorem BadWs.same {K : PySem.W.Frag} {H H' : Hp} {v : V} (h : BadWs K H v) (s : Same H H') : BadWs K H' v := by
  obtain ⟨h0, a, us, bs, h1, h2, h3, h4, h5⟩ := h
  exact ⟨h0.same s, a, us, bs, h1, s.seq h2, h3, paired_imp2 (fun _ _ h => h.same s) h4, h5⟩
def sp_total_stretch (K : PySem.W.Frag) (mg : Str → Option Value) : Sp := fun vs H Q E => match vs with | [v] => (JAs K H 3 v false ∧ E (.ref (cA mg "NoAnswers")) none H) ∨ ∃ (a : Addr) (rows : List R3), v = .ref a ∧ Dp K H (.ref a) (.list (rows.map d3)) ∧ rows.length ≤ 24 ∧ (∀ r ∈ rows, Ok3 r) ∧ ∀ t l h H', H t = none → H l = none → H h = none → t ≠ l → t ≠ h → l ≠ h → Same H H' → H' l = some (.lst ((rows.map fun r => r.2.1).map V.int)) → H' h = some (.lst ((rows.map fun r => r.2.2).map V.int)) → H' t = some (.tup [.int (rows.map fun r => r.1 * r.2.1).sum, .int (rows.map fun r => r.1 * r.2.2).sum, .ref l, .ref h]) → Q (.ref t) H' | _ => False
theorem q_total_stretch {H : Hp} {Q : VK} {E : XK} {v : V} (q : (JAs K H 3 v false ∧ E (.ref (cA mg "NoAnswers")) none H) ∨ ∃ (a : Addr) (rows : List R3), v = .ref a ∧ Dp K H (.ref a) (.list (rows.map d3)) ∧ rows.length ≤ 24 ∧ (∀ r ∈ rows, Ok3 r) ∧ ∀ t l h H', H t = none → H l = none → H h = none → t ≠ l → t ≠ h → l ≠ h → Same H H' → H' l = some (.lst ((rows.map fun r => r.2.1).map V.int)) → H' h = some (.lst ((rows.map fun r => r.2.2).map V.int)) → H' t = some (.tup [.int (rows.map fun r => r.1 * r.2.1).sum, .int (rows.map fun r => r.1 * r.2.2).sum, .ref l, .ref h]) → Q (.ref t) H') : sp_total_stretch K mg [v] H Q E := q
local macro_rules | `(tactic| walk_at "op") => `(tactic| with_reducible refine q_total_stretch ?_)
theorem c_total_stretch (T : Txt K mg) : CalX P w K mg base 4 "total_stretch" (sp_total_stretch K mg) := by
  refine T.d_total_stretch.calX (k := 3) sc_total_stretch (by intro vs H Q E h; unfold sp_total_stretch at h; split at h <;> first | rfl | exact h.elim) fun f cdv A outer s H vs Q E hr h => ?_
  refine ⟨_, (pss_cons (ps_expr (pe_xS (c_look_lacking T) hr (by decide) (by rfl) (fun σ => passAt (takes_of rfl rfl rfl rfl) σ) (pa_cons (pv 0) (pa_cons pe_int pa_nil))))
    (pss_cons (ps_set (i := 1) sc_total_stretch.nd rfl (.inl rfl) (pe_callB (cr_sum rfl) (by rfl) T.n_sum (by decide +kernel) (pa_cons (pe_lc (own := [("weight", 3), ("low", 4), ("high", 5)]) (g := (gTup K 3 (gCons (gName 3) (gCons (gName 4) (gCons (gName 5) gNil))))) (tt := tYes) (te := (tOp aMul (tVar 3) (tVar 4))) rfl sc_total_stretch.nd (pi_list (pv 0)) (blkOk_by (N := ["answers", "least", "most", "weight", "low", "high"]) (sc := defScope s_total_stretch) (by decide +kernel)) (fun _ _ _ _ _ => by exact (pg_tup rfl (pgs_cons (pg_name (i := 3) sc_total_stretch.nd rfl (.inl rfl)) (pgs_cons (pg_name (i := 4) sc_total_stretch.nd rfl (.inl rfl)) (pgs_cons (pg_name (i := 5) sc_total_stretch.nd rfl (.inl rfl)) pgs_nil))))) (fun _ _ _ _ _ => pts_nil) (fun _ _ _ _ _ => by exact (pe_op op_mulA (pv 3) (pv 4)))) pa_nil)))
    (pss_cons (ps_set (i := 2) sc_total_stretch.nd rfl (.inl rfl) (pe_callB (cr_sum rfl) (by rfl) T.n_sum (by decide +kernel) (pa_cons (pe_lc (own := [("weight", 3), ("low", 4), ("high", 5)]) (g := (gTup K 3 (gCons (gName 3) (gCons (gName 4) (gCons (gName 5) gNil))))) (tt := tYes) (te := (tOp aMul (tVar 3) (tVar 5))) rfl sc_total_stretch.nd (pi_list (pv 0)) (blkOk_by (N := ["answers", "least", "most", "weight", "low", "high"]) (sc := defScope s_total_stretch) (by decide +kernel)) (fun _ _ _ _ _ => by exact (pg_tup rfl (pgs_cons (pg_name (i := 3) sc_total_stretch.nd rfl (.inl rfl)) (pgs_cons (pg_name (i := 4) sc_total_stretch.nd rfl (.inl rfl)) (pgs_cons (pg_name (i := 5) sc_total_stretch.nd rfl (.inl rfl)) pgs_nil))))) (fun _ _ _ _ _ => pts_nil) (fun _ _ _ _ _ => by exact (pe_op op_mulA (pv 3) (pv 5)))) pa_nil)))
    (pss_one (ps_ret (pe_tup (pa_cons (pv 1) (pa_cons (pv 2) (pa_cons (pe_lc (own := [("weight", 3), ("low", 4), ("high", 5)]) (g := (gTup K 3 (gCons (gName 3) (gCons (gName 4) (gCons (gName 5) gNil))))) (tt := tYes) (te := (tVar 4)) rfl sc_total_stretch.nd (pi_list (pv 0)) (blkOk_by (N := ["answers", "least", "most", "weight", "low", "high"]) (sc := defScope s_total_stretch) (by decide +kernel)) (fun _ _ _ _ _ => by exact (pg_tup rfl (pgs_cons (pg_name (i := 3) sc_total_stretch.nd rfl (.inl rfl)) (pgs_cons (pg_name (i := 4) sc_total_stretch.nd rfl (.inl rfl)) (pgs_cons (pg_name (i := 5) sc_total_stretch.nd rfl (.inl rfl)) pgs_nil))))) (fun _ _ _ _ _ => pts_nil) (fun _ _ _ _ _ => by exact (pv 4))) (pa_cons (pe_lc (own := [("weight", 3), ("low", 4), ("high", 5)]) (g := (gTup K 3 (gCons (gName 3) (gCons (gName 4) (gCons (gName 5) gNil))))) (tt := tYes) (te := (tVar 5)) rfl sc_total_stretch.nd (pi_list (pv 0)) (blkOk_by (N := ["answers", "least", "most", "weight", "low", "high"]) (sc := defScope s_total_stretch) (by decide +kernel)) (fun _ _ _ _ _ => by exact (pg_tup rfl (pgs_cons (pg_name (i := 3) sc_total_stretch.nd rfl (.inl rfl)) (pgs_cons (pg_name (i := 4) sc_total_stretch.nd rfl (.inl rfl)) (pgs_cons (pg_name (i := 5) sc_total_stretch.nd rfl (.inl rfl)) pgs_nil))))) (fun _ _ _ _ _ => pts_nil) (fun _ _ _ _ _ => by exact (pv 5))) pa_nil)))))))))), ?_⟩
  try simp only [cxOf_K, cxOf_K', cxOf_mg, cxOf_mg']
  unfold sp_total_stretch at h
  split at h
  case h_2 => exact h.elim
  rename_i v
  rw [show L2.start ["answers", "least", "most", "weight", "low", "high"] [v] = [some (v), none, none, none, none, none] from rfl]
  rcases h with ⟨hJ, e⟩ | ⟨a, rows, rfl, hD, hl, ho, q⟩
  · walk_at "sts"
    exact ⟨false, hJ, (fun z => nomatch z), fun _ => e⟩
  obtain ⟨a', us, e, hL, hA⟩ := of_lst hD
  cases e
  have hul := hA.len
  rw [List.length_map] at hul
  have hit : ∀ (i : Nat) (x : V), us[i]? = some x → ∃ r t, rows[i]? = some r ∧ x = V.ref t ∧ SqT K H t [.int r.1, .int r.2.1, .int r.2.2] ∧ Ok3 r := fun i x hx => hit3 hA ho hx
  walk_at "sts"
  refine ⟨true, jas_good hL (by omega) fun u hu => ?_, fun _ => ?_, fun z => nomatch z⟩
  · obtain ⟨i, hi⟩ := List.mem_iff_getElem?.mp hu
    obtain ⟨r, t, h3, rfl, h4, h5⟩ := hit i u hi
    exact ⟨t, r.1, r.2.1, r.2.2, [], rfl, h4, rfl, h5⟩
  walk_at "sts"
  refine L_rl hL ?_
  have hn : us.length ≤ 1000000 := by omega
  have key : ∀ g : R3 → V, (List.range us.length).filterMap (fun i => rows[i]?.map g) = rows.map g := fun g => by rw [hul]; exact fm_get g rows
  refine lc_fm walk_list (fun i => rows[i]?.map fun r => .int (r.1 * r.2.1)) hn (fun H' e => e.seq hL) ?_ ?_
  · rintro i x H2 H' R R' hi sm ⟨rfl, hx⟩ r1 r2
    obtain ⟨r, t, h3, rfl, h4, o1, o2, o3, o4, o5⟩ := hit i x hx
    refine L_gTup (sm.seqT h4) rfl ?_
    walk_at "sts"
    refine ⟨rfl, ?_⟩
    walk_at "sts"
    refine L_mulI ((bd_64 (by omega)).cmul (bd_64 (by omega))) ?_
    exact r1 _ _ (by rw [h3]; rfl) (Same.refl _)
  rw [key]
  intro p1 H1 hp1 s1 e1
  walk_at "sts"
  refine L_sum (ns := rows.map fun r => r.1 * r.2.1) (.of (by rw [List.map_map]; exact e1)) ?_
  walk_at "sts"
  refine L_rl (s1.seq hL) ?_
  refine lc_fm walk_list (fun i => rows[i]?.map fun r => .int (r.1 * r.2.2)) hn (fun H' e => e.seq (s1.seq hL)) ?_ ?_
  · rintro i x H2 H' R R' hi sm ⟨rfl, hx⟩ r1 r2
    obtain ⟨r, t, h3, rfl, h4, o1, o2, o3, o4, o5⟩ := hit i x hx
    refine L_gTup ((s1.trans sm).seqT h4) rfl ?_
    walk_at "sts"
    refine ⟨rfl, ?_⟩
    walk_at "sts"
    refine L_mulI ((bd_64 (by omega)).cmul (bd_64 (by omega))) ?_
    exact r1 _ _ (by rw [h3]; rfl) (Same.refl _)
  rw [key]
  intro p2 H2 hp2 s2 e2
  walk_at "sts"
  refine L_sum (ns := rows.map fun r => r.1 * r.2.2) (.of (by rw [List.map_map]; exact e2)) ?_
  walk_at "sts"
  have s12 := s1.trans s2
  refine L_rl (s12.seq hL) ?_
  refine lc_fm walk_list (fun i => rows[i]?.map fun r => .int r.2.1) hn (fun H' e => e.seq (s12.seq hL)) ?_ ?_
  · rintro i x H2 H' R R' hi sm ⟨rfl, hx⟩ r1 r2
    obtain ⟨r, t, h3, rfl, h4, o1, o2, o3, o4, o5⟩ := hit i x hx
    refine L_gTup ((s12.trans sm).seqT h4) rfl ?_
    walk_at "sts"
    refine ⟨rfl, ?_⟩
    walk_at "sts"
    exact r1 _ _ (by rw [h3]; rfl) (Same.refl _)
  rw [key]
  intro p3 H3 hp3 s3 e3
  walk_at "sts"
  have s13 := s12.trans s3
  refine L_rl (s13.seq hL) ?_
  refine lc_fm walk_list (fun i => rows[i]?.map fun r => .int r.2.2) hn (fun H' e => e.seq (s13.seq hL)) ?_ ?_
  · rintro i x H2 H' R R' hi sm ⟨rfl, hx⟩ r1 r2
    obtain ⟨r, t, h3, rfl, h4, o1, o2, o3, o4, o5⟩ := hit i x hx
    refine L_gTup ((s13.trans sm).seqT h4) rfl ?_
    walk_at "sts"
    refine ⟨rfl, ?_⟩
    walk_at "sts"
    exact r1 _ _ (by rw [h3]; rfl) (Same.refl _)
  rw [key]
  intro p4 H4 hp4 s4 e4
  walk_at "sts"
  refine L_nw fun p5 hp5 => ?_
  have n53 : p5 ≠ p3 := ne_new hp5 ⟨_, s4 _ _ e3⟩
  have n54 : p5 ≠ p4 := ne_new hp5 ⟨_, e4⟩
  have n43 : p4 ≠ p3 := ne_new hp4 ⟨_, e3⟩
  exact q p5 p3 p4 _ ((s13.trans s4).free hp5) (s12.free hp3) (s13.free hp4) n53 n54 n43.symm (same_upd (s13.trans s4) hp5) (by rw [upd_ne n53.symm, List.map_map]; exact s4 _ _ e3) (by rw [upd_ne n54.symm, List.map_map]; exact e4) upd_same
def sp_mean_stretch (K : PySem.W.Frag) (mg : Str → Option Value) : Sp := fun vs H Q E => match vs with | [v] => (JAs K H 4 v false ∧ E (.ref (cA mg "NoAnswers")) none H) ∨ (BadWs K H v ∧ E (.ref (cA mg "NoAnswers")) none H) ∨ ∃ (a : Addr) (us : List V) (rows : List R4), v = .ref a ∧ SqL K H a us ∧ DpAll K H us (rows.map d4) ∧ rows.length ≤ 24 ∧ (∀ r ∈ rows, Ok4 r) ∧ (AllNo rows → ∀ H', Same H H' → Q .non H') ∧ (¬ AllNo rows → ∀ pt p1 p2 p3 p4 H', H pt = none → H p3 = none → H p4 = none → p3 ≠ p4 → Same H H' → H' pt = some (.tup [.ref p1, .ref p2, .ref p3, .ref p4]) → H' p1 = some (.tup [.int (0 - (low (gm (rows.map loR)).1 (gm (rows.map loR)).2.1).1), .int (low (gm (rows.map loR)).1 (gm (rows.map loR)).2.1).2]) → H' p2 = some (.tup [.int (low (gm (rows.map hiR)).1 (gm (rows.map hiR)).2.1).1, .int (low (gm (rows.map hiR)).1 (gm (rows.map hiR)).2.1).2]) → H' p3 = some (.lst (fill (fun r => r.2.1) rows (gm (rows.map loR)).2.2)) → H' p4 = some (.lst (fill (fun r => r.2.2.1) rows (gm (rows.map hiR)).2.2)) → Q (.ref pt) H') | _ => False
theorem q_mean_stretch {H : Hp} {Q : VK} {E : XK} {v : V} (q : (JAs K H 4 v false ∧ E (.ref (cA mg "NoAnswers")) none H) ∨ (BadWs K H v ∧ E (.ref (cA mg "NoAnswers")) none H) ∨ ∃ (a : Addr) (us : List V) (rows : List R4), v = .ref a ∧ SqL K H a us ∧ DpAll K H us (rows.map d4) ∧ rows.length ≤ 24 ∧ (∀ r ∈ rows, Ok4 r) ∧ (AllNo rows → ∀ H', Same H H' → Q .non H') ∧ (¬ AllNo rows → ∀ pt p1 p2 p3 p4 H', H pt = none → H p3 = none → H p4 = none → p3 ≠ p4 → Same H H' → H' pt = some (.tup [.ref p1, .ref p2, .ref p3, .ref p4]) → H' p1 = some (.tup [.int (0 - (low (gm (rows.map loR)).1 (gm (rows.map loR)).2.1).1), .int (low (gm (rows.map loR)).1 (gm (rows.map loR)).2.1).2]) → H' p2 = some (.tup [.int (low (gm (rows.map hiR)).1 (gm (rows.map hiR)).2.1).1, .int (low (gm (rows.map hiR)).1 (gm (rows.map hiR)).2.1).2]) → H' p3 = some (.lst (fill (fun r => r.2.1) rows (gm (rows.map loR)).2.2)) → H' p4 = some (.lst (fill (fun r => r.2.2.1) rows (gm (rows.map hiR)).2.2)) → Q (.ref pt) H')) : sp_mean_stretch K mg [v] H Q E := q
local macro_rules | `(tactic| walk_at "op") => `(tactic| with_reducible refine q_mean_stretch ?_)
theorem c_mean_stretch (T : Txt K mg) : CalX P w K mg base 4 "mean_stretch" (sp_mean_stretch K mg) := by
  refine T.d_mean_stretch.calX (k := 3) sc_mean_stretch (by intro vs H Q E h; unfold sp_mean_stretch at h; split at h <;> first | rfl | exact h.elim) fun f cdv A outer s H vs Q E hr h => ?_
  refine ⟨_, (pss_cons (ps_expr (pe_xS (c_look_lacking T) hr (by decide) (by rfl) (fun σ => passAt (takes_of rfl rfl rfl rfl) σ) (pa_cons (pv 0) (pa_cons pe_int pa_nil))))
    (pss_cons (ps_for (passes_of rfl) rfl (pi_list (pv 0)) (pg_name (i := 1) sc_mean_stretch.nd rfl (.inl rfl))
    (pss_one (ps_if (PW.pt (pw_and (pt_cmpR (op_neA hr) (pe_ix ix_seq (pv 1) pe_int (fun _ _ => rfl)) pe_str (nomark _)) (pw_and (pt_cmpR (op_neA hr) (pe_ix ix_seq (pv 1) pe_int (fun _ _ => rfl)) pe_str (nomark _)) (pw_and1 (pt_cmpR (op_neA hr) (pe_ix ix_seq (pv 1) pe_int (fun _ _ => rfl)) pe_str (nomark _))))))
    (pss_one (ps_raise rfl (takes_of rfl rfl rfl rfl) (pmk_own0 T.x_NoAnswers T.m_NoAnswers (by rfl))))
    pss_nil)))
    (pss_cons (ps_set (i := 2) sc_mean_stretch.nd rfl (.inl rfl) (pe_c (c_greatest_mean T) hr (by decide) (by rfl) (pa_cons (pe_lc (own := [("weight", 6), ("low", 7), ("high", 8), ("word", 9)]) (g := (gTup K 4 (gCons (gName 6) (gCons (gName 7) (gCons (gName 8) (gCons (gName 9) gNil)))))) (tt := tYes) (te := (tTup (tCons (tVar 6) (tCons (tVar 8) (tCons (tVar 9) tNil))))) rfl sc_mean_stretch.nd (pi_list (pv 0)) (blkOk_by (N := ["answers", "answer", "most", "least", "top", "bottom", "weight", "low", "high", "word"]) (sc := defScope s_mean_stretch) (by decide +kernel)) (fun _ _ _ _ _ => by exact (pg_tup rfl (pgs_cons (pg_name (i := 6) sc_mean_stretch.nd rfl (.inl rfl)) (pgs_cons (pg_name (i := 7) sc_mean_stretch.nd rfl (.inl rfl)) (pgs_cons (pg_name (i := 8) sc_mean_stretch.nd rfl (.inl rfl)) (pgs_cons (pg_name (i := 9) sc_mean_stretch.nd rfl (.inl rfl)) pgs_nil)))))) (fun _ _ _ _ _ => pts_nil) (fun _ _ _ _ _ => by exact (pe_tup (pa_cons (pv 6) (pa_cons (pv 8) (pa_cons (pv 9) pa_nil)))))) pa_nil)))
    (pss_cons (ps_set (i := 3) sc_mean_stretch.nd rfl (.inl rfl) (pe_c (c_greatest_mean T) hr (by decide) (by rfl) (pa_cons (pe_lc (own := [("weight", 6), ("low", 7), ("high", 8), ("word", 9)]) (g := (gTup K 4 (gCons (gName 6) (gCons (gName 7) (gCons (gName 8) (gCons (gName 9) gNil)))))) (tt := tYes) (te := (tTup (tCons (tVar 6) (tCons (tOp (rI0 fun i j => .int (i - j)) (tC (.int 0)) (tVar 7)) (tCons (tVar 9) tNil))))) rfl sc_mean_stretch.nd (pi_list (pv 0)) (blkOk_by (N := ["answers", "answer", "most", "least", "top", "bottom", "weight", "low", "high", "word"]) (sc := defScope s_mean_stretch) (by decide +kernel)) (fun _ _ _ _ _ => by exact (pg_tup rfl (pgs_cons (pg_name (i := 6) sc_mean_stretch.nd rfl (.inl rfl)) (pgs_cons (pg_name (i := 7) sc_mean_stretch.nd rfl (.inl rfl)) (pgs_cons (pg_name (i := 8) sc_mean_stretch.nd rfl (.inl rfl)) (pgs_cons (pg_name (i := 9) sc_mean_stretch.nd rfl (.inl rfl)) pgs_nil)))))) (fun _ _ _ _ _ => pts_nil) (fun _ _ _ _ _ => by exact (pe_tup (pa_cons (pv 6) (pa_cons (pe_op op_sub pe_int (pv 7)) (pa_cons (pv 9) pa_nil)))))) pa_nil)))
    (pss_cons (ps_if (PW.pt (pw_or (pt_cmpR op_isNA (pv 2) pe_non (nomark _)) (pw_or1 (pt_cmpR op_isNA (pv 3) pe_non (nomark _)))))
    (pss_one (ps_ret pe_non))
    pss_nil)
    (pss_cons (ps_asg (pe_ix ix_seq (pv 3) pe_int (fun _ _ => rfl)) (pg_tup rfl (pgs_cons (pg_name (i := 4) sc_mean_stretch.nd rfl (.inl rfl)) (pgs_cons (pg_name (i := 5) sc_mean_stretch.nd rfl (.inl rfl)) pgs_nil))))
    (pss_one (ps_ret (pe_tup (pa_cons (pe_tup (pa_cons (pe_op op_sub pe_int (pv 4)) (pa_cons (pv 5) pa_nil))) (pa_cons (pe_ix ix_seq (pv 2) pe_int (fun _ _ => rfl)) (pa_cons (pe_c (c_filled T) hr (by decide) (by rfl) (pa_cons (pv 0) (pa_cons (pe_ix ix_seq (pv 3) pe_int (fun _ _ => rfl)) (pa_cons pe_int pa_nil)))) (pa_cons (pe_c (c_filled T) hr (by decide) (by rfl) (pa_cons (pv 0) (pa_cons (pe_ix ix_seq (pv 2) pe_int (fun _ _ => rfl)) (pa_cons pe_int pa_nil)))) pa_nil))))))))))))), ?_⟩
  try simp only [cxOf_K, cxOf_K', cxOf_mg, cxOf_mg']
  unfold sp_mean_stretch at h
  split at h
  case h_2 => exact h.elim
  rename_i v
  rw [show L2.start ["answers", "answer", "most", "least", "top", "bottom", "weight", "low", "high", "word"] [v] = [some (v), none, none, none, none, none, none, none, none, none] from rfl]
  rcases h with ⟨hJ, e⟩ | ⟨⟨hJ, a, us, bs, rfl, hL, hl, hP, hb⟩, e⟩ | ⟨a, us, rows, rfl, hL, hA, hl, ok, q1, q2⟩
  · walk_at "sts"
    exact ⟨false, hJ, (fun z => nomatch z), fun _ => e⟩
  · walk_at "sts"
    refine ⟨true, hJ, fun _ => ?_, fun z => nomatch z⟩
    walk_at "sts"
    refine L_rl hL ?_
    refine f_it walk_list (fun i σ' H' => ∃ v1 : Option V, σ' = [some (.ref a), v1, none, none, none, none, none, none, none, none] ∧ H' = H ∧ ∀ j < i, bs[j]? = some true) ⟨_, rfl, rfl, fun j hj => absurd hj (Nat.not_lt_zero _)⟩ (fun i σ' H' _ ⟨_, _, e, _⟩ => e ▸ hL) ?_ ?_
    · rintro i x σ' H' H'' hi ⟨v1, rfl, rfl, hz⟩ ⟨rfl, hx⟩
      obtain ⟨b, hb1, t, x0, y0, z0, w0, d, rfl, hT, hd, sd, hbd⟩ := paired_at2 hP hx
      walk_at "sts"
      refine L_ixT hT (atI_int (by decide) rfl) ?_
      refine L_neD hd (.str _) sd (by decide +kernel) ?_
      generalize PyData.eqv d (.str "yes") = c1 at *
      cases c1
      · walk_at "sts"
        refine L_ixT hT (atI_int (by decide) rfl) ?_
        refine L_neD hd (.str _) sd (by decide +kernel) ?_
        generalize PyData.eqv d (.str "no") = c2 at *
        cases c2
        · walk_at "sts"
          refine L_ixT hT (atI_int (by decide) rfl) ?_
          refine L_neD hd (.str _) sd (by decide +kernel) ?_
          generalize PyData.eqv d (.str "open") = c3 at *
          cases c3
          · walk_at "sts"
            exact e
          · walk_at "sts"
            refine ⟨_, rfl, rfl, fun j hj => ?_⟩
            by_cases c : j = i
            · rw [c, hb1, hbd]; rfl
            · exact hz j (by omega)
        · walk_at "sts"
          refine ⟨_, rfl, rfl, fun j hj => ?_⟩
          by_cases c : j = i
          · rw [c, hb1, hbd]; rfl
          · exact hz j (by omega)
      · walk_at "sts"
        refine ⟨_, rfl, rfl, fun j hj => ?_⟩
        by_cases c : j = i
        · rw [c, hb1, hbd]; rfl
        · exact hz j (by omega)
    · rintro σ' H' ⟨v1, rfl, rfl, hz⟩
      have hbl := Paired.length hP
      refine absurd hb ?_
      rw [show bs.all id = true from List.all_eq_true.mpr fun b hm => ?_]
      · decide
      · obtain ⟨j, hj⟩ := List.getElem?_of_mem hm
        have hj' := (List.getElem?_eq_some_iff.mp hj).1
        rw [hz j (by omega)] at hj
        cases hj
        rfl
  have hul := hA.len
  rw [List.length_map] at hul
  have okH := hi_ok ok
  have okL := lo_ok ok
  obtain ⟨zH1, zH2⟩ := b_zero (h := hiR) (fun _ => rfl) okH
  obtain ⟨zL1, zL2⟩ := b_zero (h := loR) (fun _ => rfl) okL
  have lenH := (gm_ok okH).len
  have lenL := (gm_ok okL).len
  rw [List.length_map] at lenH lenL
  walk_at "sts"
  refine ⟨true, jas_good hL (by omega) fun u hu => ?_, fun _ => ?_, fun z => nomatch z⟩
  · obtain ⟨i, hi⟩ := List.mem_iff_getElem?.mp hu
    obtain ⟨r, t, hr, rfl, ht⟩ := hit4 hA hi
    obtain ⟨h1, h2, h3, h4, h5, h6⟩ := ok r (List.mem_of_getElem? hr)
    exact ⟨t, r.1, r.2.1, r.2.2.1, [_], rfl, ht, rfl, h1, h2, h3, h4, h5⟩
  walk_at "sts"
  refine L_rl hL ?_
  refine f_it walk_list (fun i σ' H' => ∃ v1 : Option V, σ' = [some (.ref a), v1, none, none, none, none, none, none, none, none] ∧ H' = H) ⟨_, rfl, rfl⟩ (fun i σ' H' _ ⟨_, _, e⟩ => e ▸ hL) ?_ ?_
  · rintro i x σ' H' H'' hi ⟨v1, rfl, rfl⟩ ⟨e, hx⟩
    subst e
    obtain ⟨r, t, hr, rfl, ht⟩ := hit4 hA hx
    walk_at "sts"
    refine L_ixT ht rfl ?_
    walk_at "sts"
    refine L_nd (fun c1 => ?_) (fun _ => ?_)
    · walk_at "sts"
      refine L_ixT ht rfl ?_
      walk_at "sts"
      refine L_nd (fun c2 => ?_) (fun _ => ?_)
      · walk_at "sts"
        refine L_ixT ht rfl ?_
        walk_at "sts"
        refine L_ndF ?_ ?_
        · rcases (ok r (List.mem_of_getElem? hr)).2.2.2.2.2 with h | h | h
          · exact absurd h c1
          · exact absurd h c2
          · exact h
        walk_at "sts"
        exact ⟨_, rfl, rfl⟩
      · walk_at "sts"
        exact ⟨_, rfl, rfl⟩
    · walk_at "sts"
      exact ⟨_, rfl, rfl⟩
  rintro σ' H' ⟨v1, rfl, rfl⟩
  walk_at "sts"
  refine L_rl hL ?_
  refine lc_dp (K := K) walk_list (fun i => (rows[i]?).map fun r => d3w (hiR r)) (by omega) (fun H' e => e.seq hL) ?_ ?_
  · rintro j x2 p0 H3 H3' R1 R2 hj np s3 ⟨o, ho⟩ ⟨e, hx⟩ r1 r2
    subst e
    obtain ⟨r, t, hr, rfl, ht⟩ := hit4 hA hx
    refine L_gTup (s3.seqT ht) rfl ?_
    walk_at "sts"
    refine ⟨rfl, ?_⟩
    walk_at "sts"
    walk_at "nw"
    rename_i p6 hp6 H6 s6 e6
    exact r1 _ _ _ (by rw [hr]; rfl) s6 (dp_tupN e6 (ne_new hp6 ⟨_, ho⟩) (.cons (.int _) (.cons (.int _) (.cons (.str _) .nil))))
  intro p1 H1 vs1 hp1 s1 e1 d1
  rw [hul, fm_get] at d1
  walk_at "sts"
  have d1 : DpAll K H1 vs1 ((rows.map hiR).map d3w) := by rw [List.map_map]; exact d1.same rs_sub
  by_cases hno : AllNo rows
  · refine ⟨vs1, rows.map hiR, .of e1, d1, by rw [List.length_map]; exact hl, okH, fun _ H2 s2 => ?_, fun nz => absurd (zH1 hno) nz⟩
    have s12 := s1.trans s2
    walk_at "sts"
    refine L_rl (s12.seq hL) ?_
    refine lc_dp (K := K) walk_list (fun i => (rows[i]?).map fun r => d3w (loR r)) (by omega) (fun H' e => (s12.trans e).seq hL) ?_ ?_
    · rintro j x2 p0 H3 H3' R1 R2 hj np s3 ⟨o, ho⟩ ⟨e, hx⟩ r1 r2
      subst e
      obtain ⟨r, t, hr, rfl, ht⟩ := hit4 hA hx
      refine L_gTup ((s12.trans s3).seqT ht) rfl ?_
      walk_at "sts"
      refine ⟨rfl, ?_⟩
      walk_at "sts"
      walk_at "nw"
      rename_i p6 hp6 H6 s6 e6
      exact r1 _ _ _ (by rw [hr]; rfl) s6 (dp_tupN e6 (ne_new hp6 ⟨_, ho⟩) (.cons (.int _) (.cons (.int _) (.cons (.str _) .nil))))
    intro p3 H3 vs3 hp3 s3 e3 d3
    rw [hul, fm_get] at d3
    walk_at "sts"
    refine ⟨vs3, rows.map loR, .of e3, by rw [List.map_map]; exact d3.same rs_sub, by rw [List.length_map]; exact hl, okL, fun _ H4 s4 => ?_, fun nz => absurd (zL1 hno) nz⟩
    walk_at "sts"
    exact q1 hno _ (s12.trans (s3.trans s4))
  · refine ⟨vs1, rows.map hiR, .of e1, d1, by rw [List.length_map]; exact hl, okH, fun z => absurd z (by have := zH2 hno; omega), fun _ pm px pc H2 npm npc s2 em ex ec => ?_⟩
    have s12 := s1.trans s2
    walk_at "sts"
    refine L_rl (s12.seq hL) ?_
    refine lc_dp (K := K) walk_list (fun i => (rows[i]?).map fun r => d3w (loR r)) (by omega) (fun H' e => (s12.trans e).seq hL) ?_ ?_
    · rintro j x2 p0 H3 H3' R1 R2 hj np s3 ⟨o, ho⟩ ⟨e, hx⟩ r1 r2
      subst e
      obtain ⟨r, t, hr, rfl, ht⟩ := hit4 hA hx
      refine L_gTup ((s12.trans s3).seqT ht) rfl ?_
      walk_at "sts"
      refine ⟨rfl, ?_⟩
      walk_at "sts"
      walk_at "nw"
      rename_i p6 hp6 H6 s6 e6
      exact r1 _ _ _ (by rw [hr]; rfl) s6 (dp_tupN e6 (ne_new hp6 ⟨_, ho⟩) (.cons (.int _) (.cons (.int _) (.cons (.str _) .nil))))
    intro p3 H3 vs3 hp3 s3 e3 d3
    rw [hul, fm_get] at d3
    walk_at "sts"
    refine ⟨vs3, rows.map loR, .of e3, by rw [List.map_map]; exact d3.same rs_sub, by rw [List.length_map]; exact hl, okL, fun z => absurd z (by have := zL2 hno; omega), fun _ pl plx plc H4 npl nplc s4 el elx elc => ?_⟩
    have s14 := s12.trans (s3.trans s4)
    have em4 := (s3.trans s4) _ _ em
    have ex4 := (s3.trans s4) _ _ ex
    have ec4 := (s3.trans s4) _ _ ec
    walk_at "sts"
    refine L_dF (fun z => nomatch z) ?_
    walk_at "sts"
    refine L_dF (fun z => nomatch z) ?_
    walk_at "sts"
    refine L_ixT (.of el) rfl ?_
    refine L_gTup (.of elx) rfl ?_
    walk_at "sts"
    walk_at "nw"
    rename_i p5 hp5 H5 s5 e5
    walk_at "sts"
    refine L_ixT (.of (s5 _ _ em4)) rfl ?_
    walk_at "sts"
    refine L_ixT (.of (s5 _ _ el)) rfl ?_
    walk_at "sts"
    refine ⟨us, rows, _, _, (s14.trans s5).seq hL, hA.same (s14.trans s5), .of (s5 _ _ elc), lenL, hl, .inl ⟨rfl, rfl⟩, fun p6 H6 hp6 s6 e6 => ?_⟩
    walk_at "sts"
    refine L_ixT (.of ((s5.trans s6) _ _ em4)) rfl ?_
    walk_at "sts"
    have s16 := s14.trans (s5.trans s6)
    refine ⟨us, rows, _, _, s16.seq hL, hA.same s16, .of ((s5.trans s6) _ _ ec4), lenH, hl, .inr ⟨rfl, rfl⟩, fun p7 H7 hp7 s7 e7 => ?_⟩
    walk_at "sts"
    walk_at "nw"
    rename_i p8 hp8 H8 s8 e8
    have s68 := s7.trans s8
    exact q2 hno p8 p5 px p6 p7 H8 ((s16.trans s7).free hp8) ((s14.trans s5).free hp6) (s16.free hp7) (ne_new hp7 ⟨_, e6⟩).symm (s16.trans s68) e8 ((s6.trans s68) _ _ e5) ((s5.trans (s6.trans s68)) _ _ ex4) (s68 _ _ e6) (s8 _ _ e7)
/-! the law's mixing of a cell -/
def mixr (c k : Int) : Int :=
  let a := (c % 2147483629 + 7919 * k + 17) * 48271 % 2147483647
  let b := (a * a + 3 * k) % 2147483629
  b * (b + 3) % 2147483587
theorem mixr_b (c k : Int) : 0 ≤ mixr c k ∧ mixr c k < 2147483587 := by
  unfold mixr
  exact ⟨Int.emod_nonneg _ (by decide), Int.emod_lt_of_pos _ (by decide)⟩
def sp__law_cell (K : PySem.W.Frag) (mg : Str → Option Value) : Sp := fun vs H Q _ => match vs with | [.ref a, .int k] => ∃ ns : List Int, SqL K H a (ns.map V.int) ∧ 0 ≤ k ∧ k < 1000000 ∧ Q (.int (cellAt ns k (7919 * k + 13))) H | _ => False
theorem q__law_cell {H : Hp} {Q : VK} {E : XK} {a : Addr} {k : Int} (q : ∃ ns : List Int, SqL K H a (ns.map V.int) ∧ 0 ≤ k ∧ k < 1000000 ∧ Q (.int (cellAt ns k (7919 * k + 13))) H) : sp__law_cell K mg [.ref a, .int k] H Q E := q
local macro_rules | `(tactic| walk_at "op") => `(tactic| with_reducible refine q__law_cell ?_)
theorem c__law_cell (T : Txt K mg) : Cal P w K mg base 1 "_law_cell" (sp__law_cell K mg) := by
  refine T.d__law_cell.cal (k := 0) sc__law_cell (by intro vs H Q E h; unfold sp__law_cell at h; split at h <;> first | rfl | exact h.elim) fun f cdv A outer s H vs Q E hr h => ?_
  refine ⟨_, (pss_cons (ps_if (pt_cmpR op_ltA (pv 1) (pe_callB call_lenA (by rfl) T.n_len (by decide +kernel) (pa_cons (pv 0) pa_nil)) (nomark _))
    (pss_one (ps_ret (pe_ix ix_seq (pv 0) (pv 1) (fun _ _ => rfl))))
    pss_nil)
    (pss_one (ps_ret (pe_op op_addA (pe_op op_mulA pe_int (pv 1)) pe_int)))), ?_⟩
  try simp only [cxOf_K, cxOf_K', cxOf_mg, cxOf_mg']
  unfold sp__law_cell at h
  split at h
  case h_2 => exact h.elim
  rename_i a k
  rw [show L2.start ["_law_script", "_law_k"] [V.ref a, V.int k] = [some (V.ref a), some (V.int k)] from rfl]
  obtain ⟨ns, hS, hk, hk2, q⟩ := h
  walk_at "sa"
  rw [List.length_map]
  refine L_d (fun c => ?_) (fun c => ?_)
  · walk_at "sts"
    exact L_ixL hS (cellAt_in hk c) q
  · walk_at "sa"
    rw [cellAt_out c] at q
    exact q
def sp__law_mix (K : PySem.W.Frag) (mg : Str → Option Value) : Sp := fun vs H Q _ => match vs with | [.int c, .int k] => 0 ≤ k ∧ k < 1000000 ∧ Q (.int (mixr c k)) H | _ => False
theorem q__law_mix {H : Hp} {Q : VK} {E : XK} {c : Int} {k : Int} (q : 0 ≤ k ∧ k < 1000000 ∧ Q (.int (mixr c k)) H) : sp__law_mix K mg [.int c, .int k] H Q E := q
local macro_rules | `(tactic| walk_at "op") => `(tactic| with_reducible refine q__law_mix ?_)
theorem c__law_mix (T : Txt K mg) : Cal P w K mg base 1 "_law_mix" (sp__law_mix K mg) := by
  refine T.d__law_mix.cal (k := 0) sc__law_mix (by intro vs H Q E h; unfold sp__law_mix at h; split at h <;> first | rfl | exact h.elim) fun f cdv A outer s H vs Q E hr h => ?_
  refine ⟨_, (pss_cons (ps_set (i := 2) sc__law_mix.nd rfl (.inl rfl) (pe_op op_mod (pe_op op_mulA (pe_op op_addA (pe_op op_addA (pe_op op_mod (pv 0) pe_int) (pe_op op_mulA pe_int (pv 1))) pe_int) pe_int) pe_int))
    (pss_cons (ps_set (i := 2) sc__law_mix.nd rfl (.inl rfl) (pe_op op_mod (pe_op op_addA (pe_op op_mulA (pv 2) (pv 2)) (pe_op op_mulA pe_int (pv 1))) pe_int))
    (pss_one (ps_ret (pe_op op_mod (pe_op op_mulA (pv 2) (pe_op op_addA (pv 2) pe_int)) pe_int))))), ?_⟩
  try simp only [cxOf_K, cxOf_K', cxOf_mg, cxOf_mg']
  unfold sp__law_mix at h
  split at h
  case h_2 => exact h.elim
  rename_i c k
  rw [show L2.start ["_law_cell_here", "_law_k", "_law_number"] [V.int c, V.int k] = [some (V.int c), some (V.int k), none] from rfl]
  obtain ⟨hk, hk2, q⟩ := h
  walk_at "sa"
  exact q
/-- the parts of a heap that are new -/
noncomputable def nwH (H H' : Hp) : Hp := rs (fun a => H a = none) H'
theorem nw_at {H H' : Hp} {a : Addr} {o : HO} (n : H a = none) (h : H' a = some o) : nwH H H' a = some o := rs_at n h
theorem nw_upd {H H' : Hp} {p : Addr} {o : HO} (n : H p ≠ none) : Same (nwH H H') (upd H' p o) := rs_in fun a u ha h => by rw [upd_ne fun z => n (by rw [← z]; exact ha)]; exact h
theorem nw_sub {H H' : Hp} : Same (nwH H H') H' := rs_sub
def plV : V → Bool
  | .int _ => true
  | .bl _ => true
  | .str _ => true
  | .non => true
  | _ => false
def wJ (lo hi : Int) : V → Bool
  | .int t => decide (lo ≤ t) && decide (t ≤ hi)
  | _ => false
theorem jw_non {K : PySem.W.Frag} {H : Hp} {lo hi : Int} {v : V} (h : NotW K H v) : Jw K H lo hi v false := .inr ⟨rfl, .inl h⟩
theorem jw_pl {K : PySem.W.Frag} {H : Hp} {lo hi : Int} {v : V} (h : plV v = true) : Jw K H lo hi v (wJ lo hi v) := by
  cases v with
  | int t =>
    show Jw K H lo hi (.int t) (decide (lo ≤ t) && decide (t ≤ hi))
    by_cases c : lo ≤ t ∧ t ≤ hi
    · rw [decide_eq_true c.1, decide_eq_true c.2]
      exact .inl ⟨rfl, t, rfl, c⟩
    · rw [show (decide (lo ≤ t) && decide (t ≤ hi)) = false by simp only [Bool.and_eq_false_iff, decide_eq_false_iff_not]; omega]
      exact .inr ⟨rfl, badw_int c⟩
  | bl b => exact jw_non notw_bl
  | str z => exact jw_non notw_str
  | non => exact jw_non notw_non
  | _ => cases h
def lowJ (hi : Int) (y z : V) : Bool := match y with
  | .int lo => wJ lo hi z
  | _ => false
theorem ju_pl {K : PySem.W.Frag} {H : Hp} {nr nc : Nat} {p : Addr} {x y z w : V} {b : Bool} (h : SqT K H p [x, y, z, w]) (h1 : plV x = true) (h2 : plV y = true) (h3 : plV z = true) (h4 : plV w = true) (hb : (wJ 0 ((nr : Int) - 1) x && wJ 0 ((nc : Int) - 1) y && wJ 0 1000000 z && lowJ 1000000 z w) = b := by rfl) : JU K H nr nc (.ref p) b := by
  refine .inr (.inr ⟨p, x, y, z, w, _, _, _, _, rfl, h, jw_pl h1, jw_pl h2, jw_pl h3, fun lo e => ?_, hb.symm⟩)
  subst e
  exact jw_pl h4
theorem ja_pl {K : PySem.W.Frag} {H : Hp} {n : Int} {p : Addr} {x y z : V} {r : List V} {b : Bool} (h : SqT K H p (x :: y :: z :: r)) (hn : ((r.length + 3 : Nat) : Int) = n) (h1 : plV x = true) (h2 : plV y = true) (h3 : plV z = true) (hb : (wJ 1 1000000 x && wJ (0 - 1000000000) 1000000000 y && lowJ 1000000000 y z) = b := by rfl) : JA K H n (.ref p) b := by
  refine .inr (.inr ⟨p, x, y, z, r, _, _, _, rfl, h, hn, jw_pl h1, jw_pl h2, fun lo e => ?_, hb.symm⟩)
  subst e
  exact jw_pl h3
theorem js_l {K : PySem.W.Frag} {H : Hp} {p : Addr} {xs : List V} {bs : List Bool} {b : Bool} (h : SqL K H p xs) (hl : xs.length ≤ 1000) (hP : Paired (Jw K H 0 24000000) xs bs) (hb : (!decide (6 < xs.length) && bs.all id) = b) : JS K H (.ref p) b := .inr ⟨p, xs, bs, rfl, h, hl, hP, hb.symm⟩
def sp__law_bad_list (K : PySem.W.Frag) (mg : Str → Option Value) : Sp := fun vs H Q _ => match vs with | [.int c, .int pl] => ∀ v H', Same H H' → (pl < 2 → JS K (nwH H H') v false) → (¬ pl < 2 → NotL K (nwH H H') v) → Q v H' | _ => False
theorem q__law_bad_list {H : Hp} {Q : VK} {E : XK} {c : Int} {pl : Int} (q : ∀ v H', Same H H' → (pl < 2 → JS K (nwH H H') v false) → (¬ pl < 2 → NotL K (nwH H H') v) → Q v H') : sp__law_bad_list K mg [.int c, .int pl] H Q E := q
local macro_rules | `(tactic| walk_at "op") => `(tactic| with_reducible refine q__law_bad_list ?_)
theorem c__law_bad_list (T : Txt K mg) : Cal P w K mg base 1 "_law_bad_list" (sp__law_bad_list K mg) := by
  refine T.d__law_bad_list.cal (k := 0) sc__law_bad_list (by intro vs H Q E h; unfold sp__law_bad_list at h; split at h <;> first | rfl | exact h.elim) fun f cdv A outer s H vs Q E hr h => ?_
  refine ⟨_, (pss_cons (ps_set (i := 2) sc__law_bad_list.nd rfl (.inl rfl) (pe_lst (pa_cons pe_non (pa_cons pe_int (pa_cons pe_bl (pa_cons pe_str (pa_cons (pe_tup pa_nil) (pa_cons pe_dnewK (pa_cons (pe_tup (pa_cons pe_int (pa_cons pe_int pa_nil))) pa_nil)))))))))
    (pss_cons (ps_if (pt_cmpR op_ltA (pv 1) pe_int (nomark _))
    (pss_cons (ps_set (i := 2) sc__law_bad_list.nd rfl (.inl rfl) (pe_op op_addA (pv 2) (pe_lst (pa_cons (pe_lst (pa_cons pe_int (pa_cons pe_int (pa_cons pe_int (pa_cons pe_int (pa_cons pe_int (pa_cons pe_int (pa_cons pe_int pa_nil)))))))) (pa_cons (pe_lst (pa_cons (pe_un un_neg pe_int) (pa_cons pe_int pa_nil))) (pa_cons (pe_lst (pa_cons pe_int (pa_cons pe_bl pa_nil))) (pa_cons (pe_lst (pa_cons pe_non (pa_cons pe_int pa_nil))) (pa_cons (pe_lst (pa_cons pe_str (pa_cons pe_int pa_nil))) (pa_cons (pe_lst (pa_cons pe_int (pa_cons pe_int pa_nil))) pa_nil)))))))))
    (pss_one (ps_set (i := 2) sc__law_bad_list.nd rfl (.inl rfl) (pe_op op_addA (pv 2) (pe_lst (pa_cons (pe_lst (pa_cons pe_int (pa_cons (pe_lst (pa_cons pe_int pa_nil)) pa_nil))) (pa_cons (pe_lst (pa_cons (pe_tup (pa_cons pe_int (pa_cons pe_int pa_nil))) (pa_cons pe_int pa_nil))) pa_nil)))))))
    pss_nil)
    (pss_one (ps_ret (pe_ix ix_seq (pv 2) (pe_op op_mod (pv 0) (pe_callB call_lenA (by rfl) T.n_len (by decide +kernel) (pa_cons (pv 2) pa_nil))) (fun _ _ => rfl)))))), ?_⟩
  try simp only [cxOf_K, cxOf_K', cxOf_mg, cxOf_mg']
  unfold sp__law_bad_list at h
  split at h
  case h_2 => exact h.elim
  rename_i c pl
  rw [show L2.start ["_law_cell_here", "_law_place", "_law_some"] [V.int c, V.int pl] = [some (V.int c), some (V.int pl), none] from rfl]
  have q := h
  clear h
  walk_at "sts"
  walk_at "nw"
  rename_i p1 hp1 H1 s1 e1
  walk_at "sts"
  intro p2 hp2
  have s2 := same_new (o := HO.dK []) hp2
  have e2 : upd H1 p2 (HO.dK []) p2 = some (HO.dK []) := upd_same
  generalize upd H1 p2 (HO.dK []) = H2 at s2 e2 ⊢
  walk_at "sts"
  walk_at "nw"
  rename_i p3 hp3 H3 s3 e3
  walk_at "sts"
  walk_at "nw"
  rename_i p4 hp4 H4 s4 e4
  walk_at "sts"
  refine L_d (fun cc => ?_) (fun cc => ?_)
  · walk_at "sts"
    walk_at "nw"
    rename_i p5 hp5 H5 s5 e5
    walk_at "sts"
    walk_at "nw"
    rename_i p6 hp6 H6 s6 e6
    walk_at "sts"
    walk_at "nw"
    rename_i p7 hp7 H7 s7 e7
    walk_at "sts"
    walk_at "nw"
    rename_i p8 hp8 H8 s8 e8
    walk_at "sts"
    walk_at "nw"
    rename_i p9 hp9 H9 s9 e9
    walk_at "sts"
    walk_at "nw"
    rename_i p10 hp10 H10 s10 e10
    walk_at "sts"
    walk_at "nw"
    rename_i p11 hp11 H11 s11 e11
    refine L_addL ((s5.trans (s6.trans (s7.trans (s8.trans (s9.trans (s10.trans (s11))))))) _ _ e4) (e11) (sz_dec (by simp)) fun p12 hp12 => ?_
    have s12 := same_newE rfl hp12 (o := .lst ([V.non, V.int 5, V.bl true, V.str "ab", V.ref p1, V.ref p2, V.ref p3] ++ [V.ref p5, V.ref p6, V.ref p7, V.ref p8, V.ref p9, V.ref p10]))
    have e12 : (upd H11 p12 (.lst ([V.non, V.int 5, V.bl true, V.str "ab", V.ref p1, V.ref p2, V.ref p3] ++ [V.ref p5, V.ref p6, V.ref p7, V.ref p8, V.ref p9, V.ref p10]))) p12 = _ := upd_same
    generalize upd H11 p12 (.lst ([V.non, V.int 5, V.bl true, V.str "ab", V.ref p1, V.ref p2, V.ref p3] ++ [V.ref p5, V.ref p6, V.ref p7, V.ref p8, V.ref p9, V.ref p10])) = H12 at s12 e12 ⊢
    walk_at "sts"
    walk_at "nw"
    rename_i p13 hp13 H13 s13 e13
    walk_at "sts"
    walk_at "nw"
    rename_i p14 hp14 H14 s14 e14
    walk_at "sts"
    walk_at "nw"
    rename_i p15 hp15 H15 s15 e15
    walk_at "sts"
    walk_at "nw"
    rename_i p16 hp16 H16 s16 e16
    walk_at "sts"
    walk_at "nw"
    rename_i p17 hp17 H17 s17 e17
    refine L_addL ((s13.trans (s14.trans (s15.trans (s16.trans (s17))))) _ _ e12) (e17) (sz_dec (by simp)) fun p18 hp18 => ?_
    have s18 := same_newE rfl hp18 (o := .lst ([V.non, V.int 5, V.bl true, V.str "ab", V.ref p1, V.ref p2, V.ref p3] ++ [V.ref p5, V.ref p6, V.ref p7, V.ref p8, V.ref p9, V.ref p10] ++ [V.ref p14, V.ref p16]))
    have e18 : (upd H17 p18 (.lst ([V.non, V.int 5, V.bl true, V.str "ab", V.ref p1, V.ref p2, V.ref p3] ++ [V.ref p5, V.ref p6, V.ref p7, V.ref p8, V.ref p9, V.ref p10] ++ [V.ref p14, V.ref p16]))) p18 = _ := upd_same
    generalize upd H17 p18 (.lst ([V.non, V.int 5, V.bl true, V.str "ab", V.ref p1, V.ref p2, V.ref p3] ++ [V.ref p5, V.ref p6, V.ref p7, V.ref p8, V.ref p9, V.ref p10] ++ [V.ref p14, V.ref p16])) = H18 at s18 e18 ⊢
    walk_at "sa"
    refine L_I (show (0 : Int) < 15 by decide) ?_
    have S0 : Same H H := .refl _
    have S1 := S0.trans s1
    have S2 := S1.trans s2
    have S3 := S2.trans s3
    have S4 := S3.trans s4
    have S5 := S4.trans s5
    have S6 := S5.trans s6
    have S7 := S6.trans s7
    have S8 := S7.trans s8
    have S9 := S8.trans s9
    have S10 := S9.trans s10
    have S11 := S10.trans s11
    have S12 := S11.trans s12
    have S13 := S12.trans s13
    have S14 := S13.trans s14
    have S15 := S14.trans s15
    have S16 := S15.trans s16
    have S17 := S16.trans s17
    have S18 := S17.trans s18
    have B18 : Same H18 H18 := .refl _
    have f18 := nw_at (S17.free hp18) (B18 _ _ e18)
    have B17 := s18.trans B18
    have f17 := nw_at (S16.free hp17) (B17 _ _ e17)
    have B16 := s17.trans B17
    have f16 := nw_at (S15.free hp16) (B16 _ _ e16)
    have B15 := s16.trans B16
    have f15 := nw_at (S14.free hp15) (B15 _ _ e15)
    have B14 := s15.trans B15
    have f14 := nw_at (S13.free hp14) (B14 _ _ e14)
    have B13 := s14.trans B14
    have f13 := nw_at (S12.free hp13) (B13 _ _ e13)
    have B12 := s13.trans B13
    have f12 := nw_at (S11.free hp12) (B12 _ _ e12)
    have B11 := s12.trans B12
    have f11 := nw_at (S10.free hp11) (B11 _ _ e11)
    have B10 := s11.trans B11
    have f10 := nw_at (S9.free hp10) (B10 _ _ e10)
    have B9 := s10.trans B10
    have f9 := nw_at (S8.free hp9) (B9 _ _ e9)
    have B8 := s9.trans B9
    have f8 := nw_at (S7.free hp8) (B8 _ _ e8)
    have B7 := s8.trans B8
    have f7 := nw_at (S6.free hp7) (B7 _ _ e7)
    have B6 := s7.trans B7
    have f6 := nw_at (S5.free hp6) (B6 _ _ e6)
    have B5 := s6.trans B6
    have f5 := nw_at (S4.free hp5) (B5 _ _ e5)
    have B4 := s5.trans B5
    have f4 := nw_at (S3.free hp4) (B4 _ _ e4)
    have B3 := s4.trans B4
    have f3 := nw_at (S2.free hp3) (B3 _ _ e3)
    have B2 := s3.trans B3
    have f2 := nw_at (S1.free hp2) (B2 _ _ e2)
    have B1 := s2.trans B2
    have f1 := nw_at (S0.free hp1) (B1 _ _ e1)
    clear B1 B2 B3 B4 B5 B6 B7 B8 B9 B10 B11 B12 B13 B14 B15 B16 B17 B18
    refine L_menuV (.of e18) (by show 0 ≤ c % (15 : Int); omega) (by show c % (15 : Int) < (15 : Int); omega) fun v hv => ?_
    refine q v _ S18 (fun _ => ?_) fun z => absurd cc z
    simp only [List.mem_append, List.mem_cons, List.not_mem_nil, or_false, or_assoc] at hv
    rcases hv with rfl | rfl | rfl | rfl | rfl | rfl | rfl | rfl | rfl | rfl | rfl | rfl | rfl | rfl | rfl
    · exact .inl ⟨notl_non, rfl⟩
    · exact .inl ⟨notl_int, rfl⟩
    · exact .inl ⟨notl_bl, rfl⟩
    · exact .inl ⟨notl_str, rfl⟩
    · exact .inl ⟨notl_tup (.of f1), rfl⟩
    · exact .inl ⟨notl_dK f2, rfl⟩
    · exact .inl ⟨notl_tup (.of f3), rfl⟩
    · exact js_l (.of f5) (by simp) (.cons (jw_pl rfl) (.cons (jw_pl rfl) (.cons (jw_pl rfl) (.cons (jw_pl rfl) (.cons (jw_pl rfl) (.cons (jw_pl rfl) (.cons (jw_pl rfl) .nil))))))) rfl
    · exact js_l (.of f6) (by simp) (.cons (jw_pl rfl) (.cons (jw_pl rfl) .nil)) rfl
    · exact js_l (.of f7) (by simp) (.cons (jw_pl rfl) (.cons (jw_pl rfl) .nil)) rfl
    · exact js_l (.of f8) (by simp) (.cons (jw_pl rfl) (.cons (jw_pl rfl) .nil)) rfl
    · exact js_l (.of f9) (by simp) (.cons (jw_pl rfl) (.cons (jw_pl rfl) .nil)) rfl
    · exact js_l (.of f10) (by simp) (.cons (jw_pl rfl) (.cons (jw_pl rfl) .nil)) rfl
    · exact js_l (.of f14) (by simp) (.cons (jw_pl rfl) (.cons (jw_non (notw_lst f13)) .nil)) rfl
    · exact js_l (.of f16) (by simp) (.cons (jw_non (notw_tup f15)) (.cons (jw_pl rfl) .nil)) rfl
  · walk_at "sa"
    refine L_I (show (0 : Int) < 7 by decide) ?_
    have S0 : Same H H := .refl _
    have S1 := S0.trans s1
    have S2 := S1.trans s2
    have S3 := S2.trans s3
    have S4 := S3.trans s4
    have B4 : Same H4 H4 := .refl _
    have f4 := nw_at (S3.free hp4) (B4 _ _ e4)
    have B3 := s4.trans B4
    have f3 := nw_at (S2.free hp3) (B3 _ _ e3)
    have B2 := s3.trans B3
    have f2 := nw_at (S1.free hp2) (B2 _ _ e2)
    have B1 := s2.trans B2
    have f1 := nw_at (S0.free hp1) (B1 _ _ e1)
    clear B1 B2 B3 B4
    refine L_menuV (.of e4) (by show 0 ≤ c % (7 : Int); omega) (by show c % (7 : Int) < (7 : Int); omega) fun v hv => ?_
    refine q v _ S4 (fun z => absurd z cc) fun _ => ?_
    simp only [List.mem_append, List.mem_cons, List.not_mem_nil, or_false, or_assoc] at hv
    rcases hv with rfl | rfl | rfl | rfl | rfl | rfl | rfl
    · exact notl_non
    · exact notl_int
    · exact notl_bl
    · exact notl_str
    · exact notl_tup (.of f1)
    · exact notl_dK f2
    · exact notl_tup (.of f3)
def sp__law_bad_unit (K : PySem.W.Frag) (mg : Str → Option Value) : Sp := fun vs H Q _ => match vs with | [.int c] => ∀ v H', Same H H' → JU K (nwH H H') 2 2 v false → Q v H' | _ => False
theorem q__law_bad_unit {H : Hp} {Q : VK} {E : XK} {c : Int} (q : ∀ v H', Same H H' → JU K (nwH H H') 2 2 v false → Q v H') : sp__law_bad_unit K mg [.int c] H Q E := q
local macro_rules | `(tactic| walk_at "op") => `(tactic| with_reducible refine q__law_bad_unit ?_)
theorem c__law_bad_unit (T : Txt K mg) : Cal P w K mg base 1 "_law_bad_unit" (sp__law_bad_unit K mg) := by
  refine T.d__law_bad_unit.cal (k := 0) sc__law_bad_unit (by intro vs H Q E h; unfold sp__law_bad_unit at h; split at h <;> first | rfl | exact h.elim) fun f cdv A outer s H vs Q E hr h => ?_
  refine ⟨_, (pss_cons (ps_set (i := 1) sc__law_bad_unit.nd rfl (.inl rfl) (pe_lst (pa_cons pe_non (pa_cons (pe_tup (pa_cons pe_int (pa_cons pe_int (pa_cons pe_int pa_nil)))) (pa_cons (pe_tup (pa_cons pe_int (pa_cons pe_int (pa_cons pe_int (pa_cons pe_int (pa_cons pe_int pa_nil)))))) (pa_cons (pe_lst (pa_cons pe_int (pa_cons pe_int (pa_cons pe_int (pa_cons pe_int pa_nil))))) (pa_cons (pe_tup (pa_cons pe_int (pa_cons pe_int (pa_cons pe_int (pa_cons pe_int pa_nil))))) (pa_cons (pe_tup (pa_cons pe_int (pa_cons pe_int (pa_cons pe_int (pa_cons pe_int pa_nil))))) (pa_cons (pe_tup (pa_cons (pe_un un_neg pe_int) (pa_cons pe_int (pa_cons pe_int (pa_cons pe_int pa_nil))))) (pa_cons (pe_tup (pa_cons pe_int (pa_cons (pe_un un_neg pe_int) (pa_cons pe_int (pa_cons pe_int pa_nil))))) pa_nil))))))))))
    (pss_cons (ps_set (i := 1) sc__law_bad_unit.nd rfl (.inl rfl) (pe_op op_addA (pv 1) (pe_lst (pa_cons (pe_tup (pa_cons pe_int (pa_cons pe_int (pa_cons pe_int (pa_cons pe_int pa_nil))))) (pa_cons (pe_tup (pa_cons pe_int (pa_cons pe_int (pa_cons (pe_un un_neg pe_int) (pa_cons pe_int pa_nil))))) (pa_cons (pe_tup (pa_cons pe_int (pa_cons pe_int (pa_cons pe_int (pa_cons pe_int pa_nil))))) (pa_cons (pe_tup (pa_cons pe_int (pa_cons pe_int (pa_cons pe_bl (pa_cons pe_int pa_nil))))) (pa_cons (pe_tup (pa_cons pe_int (pa_cons pe_int (pa_cons pe_int (pa_cons pe_bl pa_nil))))) (pa_cons (pe_tup (pa_cons pe_bl (pa_cons pe_int (pa_cons pe_int (pa_cons pe_int pa_nil))))) pa_nil)))))))))
    (pss_cons (ps_set (i := 1) sc__law_bad_unit.nd rfl (.inl rfl) (pe_op op_addA (pv 1) (pe_lst (pa_cons (pe_tup (pa_cons pe_int (pa_cons pe_bl (pa_cons pe_int (pa_cons pe_int pa_nil))))) (pa_cons (pe_tup (pa_cons pe_int (pa_cons pe_int (pa_cons pe_non (pa_cons pe_int pa_nil))))) (pa_cons (pe_tup (pa_cons pe_int (pa_cons pe_int (pa_cons pe_str (pa_cons pe_int pa_nil))))) (pa_cons pe_str (pa_cons (pe_tup (pa_cons pe_int (pa_cons pe_int (pa_cons pe_int (pa_cons pe_int pa_nil))))) (pa_cons (pe_tup (pa_cons pe_str (pa_cons pe_int (pa_cons pe_int (pa_cons pe_int pa_nil))))) pa_nil)))))))))
    (pss_one (ps_ret (pe_ix ix_seq (pe_op op_addA (pv 1) (pe_lst (pa_cons (pe_tup (pa_cons pe_int (pa_cons pe_int (pa_cons (pe_un un_neg pe_int) (pa_cons (pe_un un_neg pe_int) pa_nil))))) (pa_cons (pe_tup (pa_cons pe_int (pa_cons pe_non (pa_cons pe_int (pa_cons pe_int pa_nil))))) pa_nil)))) (pe_op op_mod (pv 0) pe_int) (fun _ _ => rfl))))))), ?_⟩
  try simp only [cxOf_K, cxOf_K', cxOf_mg, cxOf_mg']
  unfold sp__law_bad_unit at h
  split at h
  case h_2 => exact h.elim
  rename_i c
  rw [show L2.start ["_law_cell_here", "_law_some"] [V.int c] = [some (V.int c), none] from rfl]
  have q := h
  clear h
  walk_at "sts"
  walk_at "nw"
  rename_i p1 hp1 H1 s1 e1
  walk_at "sts"
  walk_at "nw"
  rename_i p2 hp2 H2 s2 e2
  walk_at "sts"
  walk_at "nw"
  rename_i p3 hp3 H3 s3 e3
  walk_at "sts"
  walk_at "nw"
  rename_i p4 hp4 H4 s4 e4
  walk_at "sts"
  walk_at "nw"
  rename_i p5 hp5 H5 s5 e5
  walk_at "sts"
  walk_at "nw"
  rename_i p6 hp6 H6 s6 e6
  walk_at "sts"
  walk_at "nw"
  rename_i p7 hp7 H7 s7 e7
  walk_at "sts"
  walk_at "nw"
  rename_i p8 hp8 H8 s8 e8
  walk_at "sts"
  walk_at "nw"
  rename_i p9 hp9 H9 s9 e9
  walk_at "sts"
  walk_at "nw"
  rename_i p10 hp10 H10 s10 e10
  walk_at "sts"
  walk_at "nw"
  rename_i p11 hp11 H11 s11 e11
  walk_at "sts"
  walk_at "nw"
  rename_i p12 hp12 H12 s12 e12
  walk_at "sts"
  walk_at "nw"
  rename_i p13 hp13 H13 s13 e13
  walk_at "sts"
  walk_at "nw"
  rename_i p14 hp14 H14 s14 e14
  walk_at "sts"
  walk_at "nw"
  rename_i p15 hp15 H15 s15 e15
  refine L_addL ((s9.trans (s10.trans (s11.trans (s12.trans (s13.trans (s14.trans (s15))))))) _ _ e8) (e15) (sz_dec (by simp)) fun p16 hp16 => ?_
  have s16 := same_newE rfl hp16 (o := .lst ([V.non, V.ref p1, V.ref p2, V.ref p3, V.ref p4, V.ref p5, V.ref p6, V.ref p7] ++ [V.ref p9, V.ref p10, V.ref p11, V.ref p12, V.ref p13, V.ref p14]))
  have e16 : (upd H15 p16 (.lst ([V.non, V.ref p1, V.ref p2, V.ref p3, V.ref p4, V.ref p5, V.ref p6, V.ref p7] ++ [V.ref p9, V.ref p10, V.ref p11, V.ref p12, V.ref p13, V.ref p14]))) p16 = _ := upd_same
  generalize upd H15 p16 (.lst ([V.non, V.ref p1, V.ref p2, V.ref p3, V.ref p4, V.ref p5, V.ref p6, V.ref p7] ++ [V.ref p9, V.ref p10, V.ref p11, V.ref p12, V.ref p13, V.ref p14])) = H16 at s16 e16 ⊢
  walk_at "sts"
  walk_at "nw"
  rename_i p17 hp17 H17 s17 e17
  walk_at "sts"
  walk_at "nw"
  rename_i p18 hp18 H18 s18 e18
  walk_at "sts"
  walk_at "nw"
  rename_i p19 hp19 H19 s19 e19
  walk_at "sts"
  walk_at "nw"
  rename_i p20 hp20 H20 s20 e20
  walk_at "sts"
  walk_at "nw"
  rename_i p21 hp21 H21 s21 e21
  walk_at "sts"
  walk_at "nw"
  rename_i p22 hp22 H22 s22 e22
  refine L_addL ((s17.trans (s18.trans (s19.trans (s20.trans (s21.trans (s22)))))) _ _ e16) (e22) (sz_dec (by simp)) fun p23 hp23 => ?_
  have s23 := same_newE rfl hp23 (o := .lst ([V.non, V.ref p1, V.ref p2, V.ref p3, V.ref p4, V.ref p5, V.ref p6, V.ref p7] ++ [V.ref p9, V.ref p10, V.ref p11, V.ref p12, V.ref p13, V.ref p14] ++ [V.ref p17, V.ref p18, V.ref p19, V.str "0011", V.ref p20, V.ref p21]))
  have e23 : (upd H22 p23 (.lst ([V.non, V.ref p1, V.ref p2, V.ref p3, V.ref p4, V.ref p5, V.ref p6, V.ref p7] ++ [V.ref p9, V.ref p10, V.ref p11, V.ref p12, V.ref p13, V.ref p14] ++ [V.ref p17, V.ref p18, V.ref p19, V.str "0011", V.ref p20, V.ref p21]))) p23 = _ := upd_same
  generalize upd H22 p23 (.lst ([V.non, V.ref p1, V.ref p2, V.ref p3, V.ref p4, V.ref p5, V.ref p6, V.ref p7] ++ [V.ref p9, V.ref p10, V.ref p11, V.ref p12, V.ref p13, V.ref p14] ++ [V.ref p17, V.ref p18, V.ref p19, V.str "0011", V.ref p20, V.ref p21])) = H23 at s23 e23 ⊢
  walk_at "sts"
  walk_at "nw"
  rename_i p24 hp24 H24 s24 e24
  walk_at "sts"
  walk_at "nw"
  rename_i p25 hp25 H25 s25 e25
  walk_at "sts"
  walk_at "nw"
  rename_i p26 hp26 H26 s26 e26
  refine L_addL ((s24.trans (s25.trans (s26))) _ _ e23) (e26) (sz_dec (by simp)) fun p27 hp27 => ?_
  have s27 := same_newE rfl hp27 (o := .lst ([V.non, V.ref p1, V.ref p2, V.ref p3, V.ref p4, V.ref p5, V.ref p6, V.ref p7] ++ [V.ref p9, V.ref p10, V.ref p11, V.ref p12, V.ref p13, V.ref p14] ++ [V.ref p17, V.ref p18, V.ref p19, V.str "0011", V.ref p20, V.ref p21] ++ [V.ref p24, V.ref p25]))
  have e27 : (upd H26 p27 (.lst ([V.non, V.ref p1, V.ref p2, V.ref p3, V.ref p4, V.ref p5, V.ref p6, V.ref p7] ++ [V.ref p9, V.ref p10, V.ref p11, V.ref p12, V.ref p13, V.ref p14] ++ [V.ref p17, V.ref p18, V.ref p19, V.str "0011", V.ref p20, V.ref p21] ++ [V.ref p24, V.ref p25]))) p27 = _ := upd_same
  generalize upd H26 p27 (.lst ([V.non, V.ref p1, V.ref p2, V.ref p3, V.ref p4, V.ref p5, V.ref p6, V.ref p7] ++ [V.ref p9, V.ref p10, V.ref p11, V.ref p12, V.ref p13, V.ref p14] ++ [V.ref p17, V.ref p18, V.ref p19, V.str "0011", V.ref p20, V.ref p21] ++ [V.ref p24, V.ref p25])) = H27 at s27 e27 ⊢
  walk_at "sa"
  have S0 : Same H H := .refl _
  have S1 := S0.trans s1
  have S2 := S1.trans s2
  have S3 := S2.trans s3
  have S4 := S3.trans s4
  have S5 := S4.trans s5
  have S6 := S5.trans s6
  have S7 := S6.trans s7
  have S8 := S7.trans s8
  have S9 := S8.trans s9
  have S10 := S9.trans s10
  have S11 := S10.trans s11
  have S12 := S11.trans s12
  have S13 := S12.trans s13
  have S14 := S13.trans s14
  have S15 := S14.trans s15
  have S16 := S15.trans s16
  have S17 := S16.trans s17
  have S18 := S17.trans s18
  have S19 := S18.trans s19
  have S20 := S19.trans s20
  have S21 := S20.trans s21
  have S22 := S21.trans s22
  have S23 := S22.trans s23
  have S24 := S23.trans s24
  have S25 := S24.trans s25
  have S26 := S25.trans s26
  have S27 := S26.trans s27
  have B27 : Same H27 H27 := .refl _
  have f27 := nw_at (S26.free hp27) (B27 _ _ e27)
  have B26 := s27.trans B27
  have f26 := nw_at (S25.free hp26) (B26 _ _ e26)
  have B25 := s26.trans B26
  have f25 := nw_at (S24.free hp25) (B25 _ _ e25)
  have B24 := s25.trans B25
  have f24 := nw_at (S23.free hp24) (B24 _ _ e24)
  have B23 := s24.trans B24
  have f23 := nw_at (S22.free hp23) (B23 _ _ e23)
  have B22 := s23.trans B23
  have f22 := nw_at (S21.free hp22) (B22 _ _ e22)
  have B21 := s22.trans B22
  have f21 := nw_at (S20.free hp21) (B21 _ _ e21)
  have B20 := s21.trans B21
  have f20 := nw_at (S19.free hp20) (B20 _ _ e20)
  have B19 := s20.trans B20
  have f19 := nw_at (S18.free hp19) (B19 _ _ e19)
  have B18 := s19.trans B19
  have f18 := nw_at (S17.free hp18) (B18 _ _ e18)
  have B17 := s18.trans B18
  have f17 := nw_at (S16.free hp17) (B17 _ _ e17)
  have B16 := s17.trans B17
  have f16 := nw_at (S15.free hp16) (B16 _ _ e16)
  have B15 := s16.trans B16
  have f15 := nw_at (S14.free hp15) (B15 _ _ e15)
  have B14 := s15.trans B15
  have f14 := nw_at (S13.free hp14) (B14 _ _ e14)
  have B13 := s14.trans B14
  have f13 := nw_at (S12.free hp13) (B13 _ _ e13)
  have B12 := s13.trans B13
  have f12 := nw_at (S11.free hp12) (B12 _ _ e12)
  have B11 := s12.trans B12
  have f11 := nw_at (S10.free hp11) (B11 _ _ e11)
  have B10 := s11.trans B11
  have f10 := nw_at (S9.free hp10) (B10 _ _ e10)
  have B9 := s10.trans B10
  have f9 := nw_at (S8.free hp9) (B9 _ _ e9)
  have B8 := s9.trans B9
  have f8 := nw_at (S7.free hp8) (B8 _ _ e8)
  have B7 := s8.trans B8
  have f7 := nw_at (S6.free hp7) (B7 _ _ e7)
  have B6 := s7.trans B7
  have f6 := nw_at (S5.free hp6) (B6 _ _ e6)
  have B5 := s6.trans B6
  have f5 := nw_at (S4.free hp5) (B5 _ _ e5)
  have B4 := s5.trans B5
  have f4 := nw_at (S3.free hp4) (B4 _ _ e4)
  have B3 := s4.trans B4
  have f3 := nw_at (S2.free hp3) (B3 _ _ e3)
  have B2 := s3.trans B3
  have f2 := nw_at (S1.free hp2) (B2 _ _ e2)
  have B1 := s2.trans B2
  have f1 := nw_at (S0.free hp1) (B1 _ _ e1)
  clear B1 B2 B3 B4 B5 B6 B7 B8 B9 B10 B11 B12 B13 B14 B15 B16 B17 B18 B19 B20 B21 B22 B23 B24 B25 B26 B27
  refine L_menuV (.of e27) (by omega) (by show _ < (22 : Int); omega) fun v hv => ?_
  refine q v _ S27 ?_
  simp only [List.mem_append, List.mem_cons, List.not_mem_nil, or_false, or_assoc] at hv
  rcases hv with rfl | rfl | rfl | rfl | rfl | rfl | rfl | rfl | rfl | rfl | rfl | rfl | rfl | rfl | rfl | rfl | rfl | rfl | rfl | rfl | rfl | rfl
  · exact .inl ⟨rfl, _, .base .non, by decide +kernel⟩
  · exact .inr (.inl ⟨rfl, p1, _, rfl, .of f1, by simp, by simp⟩)
  · exact .inr (.inl ⟨rfl, p2, _, rfl, .of f2, by simp, by simp⟩)
  · exact .inl ⟨rfl, _, tyx_L (.of f3), by decide +kernel⟩
  · exact ju_pl (.of f4) rfl rfl rfl rfl
  · exact ju_pl (.of f5) rfl rfl rfl rfl
  · exact ju_pl (.of f6) rfl rfl rfl rfl
  · exact ju_pl (.of f7) rfl rfl rfl rfl
  · exact ju_pl (.of f9) rfl rfl rfl rfl
  · exact ju_pl (.of f10) rfl rfl rfl rfl
  · exact ju_pl (.of f11) rfl rfl rfl rfl
  · exact ju_pl (.of f12) rfl rfl rfl rfl
  · exact ju_pl (.of f13) rfl rfl rfl rfl
  · exact ju_pl (.of f14) rfl rfl rfl rfl
  · exact ju_pl (.of f17) rfl rfl rfl rfl
  · exact ju_pl (.of f18) rfl rfl rfl rfl
  · exact ju_pl (.of f19) rfl rfl rfl rfl
  · exact .inl ⟨rfl, _, .base (.str _), by decide +kernel⟩
  · exact ju_pl (.of f20) rfl rfl rfl rfl
  · exact ju_pl (.of f21) rfl rfl rfl rfl
  · exact ju_pl (.of f24) rfl rfl rfl rfl
  · exact ju_pl (.of f25) rfl rfl rfl rfl
/-- one of the things that are no answers of three -/
def OneA (H : Hp) (v : V) : Prop := v = .non ∨ (∃ p xs, v = .ref p ∧ H p = some (.lst xs)) ∨ (∃ p x y, v = .ref p ∧ H p = some (.tup [x, y])) ∨ ∃ p x y z, v = .ref p ∧ H p = some (.tup [x, y, z]) ∧ plV x = true ∧ plV y = true ∧ plV z = true ∧ (wJ 1 1000000 x && wJ (0 - 1000000000) 1000000000 y && lowJ 1000000000 y z) = false
theorem OneA.same {H H' : Hp} {v : V} (h : OneA H v) (s : Same H H') : OneA H' v := by
  rcases h with h | ⟨p, xs, h1, h2⟩ | ⟨p, x, y, h1, h2⟩ | ⟨p, x, y, z, h1, h2, h3⟩
  · exact .inl h
  · exact .inr (.inl ⟨p, xs, h1, s _ _ h2⟩)
  · exact .inr (.inr (.inl ⟨p, x, y, h1, s _ _ h2⟩))
  · exact .inr (.inr (.inr ⟨p, x, y, z, h1, s _ _ h2, h3⟩))
theorem OneA.j3 {K : PySem.W.Frag} {H : Hp} {v : V} (h : OneA H v) : JA K H 3 v false := by
  rcases h with rfl | ⟨p, xs, rfl, h2⟩ | ⟨p, x, y, rfl, h2⟩ | ⟨p, x, y, z, rfl, h2, h3, h4, h5, h6⟩
  · exact .inl ⟨rfl, _, .base .non, by decide +kernel⟩
  · exact .inl ⟨rfl, _, tyx_L (.of h2), by decide +kernel⟩
  · exact .inr (.inl ⟨rfl, p, _, rfl, .of h2, by simp, by simp⟩)
  · exact ja_pl (.of h2) rfl h3 h4 h5 h6
theorem OneA.j4 {K : PySem.W.Frag} {H : Hp} {v : V} (h : OneA H v) : JA K H 4 v false := by
  rcases h with rfl | ⟨p, xs, rfl, h2⟩ | ⟨p, x, y, rfl, h2⟩ | ⟨p, x, y, z, rfl, h2, h3, h4, h5, h6⟩
  · exact .inl ⟨rfl, _, .base .non, by decide +kernel⟩
  · exact .inl ⟨rfl, _, tyx_L (.of h2), by decide +kernel⟩
  · exact .inr (.inl ⟨rfl, p, _, rfl, .of h2, by simp, by simp⟩)
  · exact .inr (.inl ⟨rfl, p, _, rfl, .of h2, by simp, by simp⟩)
/-- a bad answer -/
def BadAn (K : PySem.W.Frag) (H : Hp) (way : Int) (v : V) : Prop := (way = 2 → JA K H 3 v false) ∧ (way = 3 → JA K H 4 v false ∨ (JA K H 4 v true ∧ Wd K H v false))
theorem BadAn.same {K : PySem.W.Frag} {H H' : Hp} {way : Int} {v : V} (h : BadAn K H way v) (s : Same H H') : BadAn K H' way v := ⟨fun e => (h.1 e).same s, fun e => (h.2 e).imp (fun h => h.same s) fun h => ⟨h.1.same s, h.2.same s⟩⟩
theorem wd_pl {K : PySem.W.Frag} {H : Hp} {p : Addr} {x y z w : V} {d : PyData} {b : Bool} (h : SqT K H p [x, y, z, w]) (hd : Dp K H w d) (sd : SeqAt.shaped d = true) (hb : (PyData.eqv d (.str "yes") || PyData.eqv d (.str "no") || PyData.eqv d (.str "open")) = b) : Wd K H (.ref p) b := ⟨p, x, y, z, w, d, rfl, h, hd, sd, hb.symm⟩
def sp__law_bad_answer (K : PySem.W.Frag) (mg : Str → Option Value) : Sp := fun vs H Q _ => match vs with | [.int c, .int way] => (way = 2 ∨ way = 3) ∧ ∀ v H', Same H H' → BadAn K (nwH H H') way v → Q v H' | _ => False
theorem q__law_bad_answer {H : Hp} {Q : VK} {E : XK} {c : Int} {way : Int} (q : (way = 2 ∨ way = 3) ∧ ∀ v H', Same H H' → BadAn K (nwH H H') way v → Q v H') : sp__law_bad_answer K mg [.int c, .int way] H Q E := q
local macro_rules | `(tactic| walk_at "op") => `(tactic| with_reducible refine q__law_bad_answer ?_)
theorem c__law_bad_answer (T : Txt K mg) : Cal P w K mg base 1 "_law_bad_answer" (sp__law_bad_answer K mg) := by
  refine T.d__law_bad_answer.cal (k := 0) sc__law_bad_answer (by intro vs H Q E h; unfold sp__law_bad_answer at h; split at h <;> first | rfl | exact h.elim) fun f cdv A outer s H vs Q E hr h => ?_
  refine ⟨_, (pss_cons (ps_set (i := 2) sc__law_bad_answer.nd rfl (.inl rfl) (pe_lst (pa_cons pe_non (pa_cons (pe_tup (pa_cons pe_int (pa_cons pe_int pa_nil))) (pa_cons (pe_tup (pa_cons pe_int (pa_cons pe_int (pa_cons pe_int pa_nil)))) (pa_cons (pe_tup (pa_cons pe_int (pa_cons pe_int (pa_cons pe_int pa_nil)))) (pa_cons (pe_tup (pa_cons pe_int (pa_cons pe_int (pa_cons pe_int pa_nil)))) (pa_cons (pe_tup (pa_cons pe_bl (pa_cons pe_int (pa_cons pe_int pa_nil)))) (pa_cons (pe_tup (pa_cons pe_int (pa_cons pe_bl (pa_cons pe_int pa_nil)))) (pa_cons (pe_tup (pa_cons pe_int (pa_cons pe_int (pa_cons pe_bl pa_nil)))) (pa_cons (pe_tup (pa_cons pe_int (pa_cons pe_non (pa_cons pe_int pa_nil)))) pa_nil)))))))))))
    (pss_cons (ps_set (i := 2) sc__law_bad_answer.nd rfl (.inl rfl) (pe_op op_addA (pv 2) (pe_lst (pa_cons (pe_tup (pa_cons pe_int (pa_cons (pe_un un_neg pe_int) (pa_cons pe_int pa_nil)))) (pa_cons (pe_tup (pa_cons pe_int (pa_cons pe_int (pa_cons pe_int pa_nil)))) (pa_cons (pe_tup (pa_cons pe_str (pa_cons pe_int (pa_cons pe_int pa_nil)))) (pa_cons (pe_tup (pa_cons pe_int (pa_cons pe_str (pa_cons pe_int pa_nil)))) (pa_cons (pe_tup (pa_cons pe_int (pa_cons pe_int (pa_cons pe_str pa_nil)))) (pa_cons (pe_tup (pa_cons (pe_un un_neg pe_int) (pa_cons pe_int (pa_cons pe_int pa_nil)))) pa_nil)))))))))
    (pss_cons (ps_set (i := 2) sc__law_bad_answer.nd rfl (.inl rfl) (pe_op op_addA (pv 2) (pe_lst (pa_cons (pe_lst (pa_cons pe_int (pa_cons pe_int (pa_cons pe_int pa_nil)))) (pa_cons (pe_tup (pa_cons pe_int (pa_cons pe_int (pa_cons pe_int pa_nil)))) (pa_cons (pe_tup (pa_cons pe_int (pa_cons (pe_un un_neg pe_int) (pa_cons (pe_un un_neg pe_int) pa_nil)))) pa_nil))))))
    (pss_cons (ps_set (i := 3) sc__law_bad_answer.nd rfl (.inl rfl) (pe_ix ix_seq (pv 2) (pe_op op_mod (pv 0) pe_int) (fun _ _ => rfl)))
    (pss_cons (ps_if (pt_cmpR (op_eqA hr) (pv 1) pe_int (nomark _))
    (pss_one (ps_ret (pe_ix ix_seq (pe_lst (pa_cons (pv 3) (pa_cons (pe_tup (pa_cons pe_int (pa_cons pe_int (pa_cons pe_int (pa_cons pe_str pa_nil))))) pa_nil))) (pe_callTy call_int1A (by rfl) T.n_int (by decide +kernel) (pa_cons (pe_cmpR (op_eqA hr) (pe_op op_mod (pv 0) pe_int) pe_int (nomark _)) pa_nil)) (fun _ _ => rfl))))
    pss_nil)
    (Evl.pss_cut (ps_if (PW.pt (pw_and (pt_val (pe_callB call_isi (by rfl) T.n_isinstance (by decide +kernel) (pa_cons (pv 3) (pa_cons (pe_ty "tuple" (by rfl) T.n_tuple (by decide +kernel)) pa_nil)))) (pw_and1 (pt_cmpR op_gt (pe_op op_mod (pe_op op_fdivW (pv 0) pe_int) pe_int) pe_int (nomark _)))))
    (pss_one (ps_ret (pe_op op_addA (pv 3) (pe_tup (pa_cons (pe_ix ix_seq (pe_lst (pa_cons pe_str (pa_cons pe_str (pa_cons pe_str pa_nil)))) (pe_op op_mod (pe_op op_fdivW (pv 0) pe_int) pe_int) (fun _ _ => rfl)) pa_nil)))))
    pss_nil)
    (pss_one (ps_ret (pe_ix ix_seq (pe_lst (pa_cons (pv 3) (pa_cons (pe_tup (pa_cons pe_int (pa_cons pe_int (pa_cons pe_int (pa_cons pe_str pa_nil))))) (pa_cons (pe_tup (pa_cons pe_int (pa_cons pe_int (pa_cons pe_int (pa_cons pe_str pa_nil))))) (pa_cons (pe_tup (pa_cons pe_int (pa_cons pe_int (pa_cons pe_int (pa_cons pe_non pa_nil))))) (pa_cons (pe_tup (pa_cons pe_int (pa_cons pe_int (pa_cons pe_int (pa_cons pe_bl pa_nil))))) (pa_cons (pe_tup (pa_cons pe_int (pa_cons pe_int (pa_cons pe_int (pa_cons (pe_lst (pa_cons pe_str pa_nil)) pa_nil))))) pa_nil))))))) (pe_op op_mod (pe_op op_fdivW (pv 0) pe_int) pe_int) (fun _ _ => rfl)))))))))), ?_⟩
  try simp only [cxOf_K, cxOf_K', cxOf_mg, cxOf_mg']
  unfold sp__law_bad_answer at h
  split at h
  case h_2 => exact h.elim
  rename_i c way
  rw [show L2.start ["_law_cell_here", "_law_way", "_law_some", "_law_one"] [V.int c, V.int way] = [some (V.int c), some (V.int way), none, none] from rfl]
  obtain ⟨hway, q⟩ := h
  walk_at "sts"
  walk_at "nw"
  rename_i p1 hp1 H1 s1 e1
  walk_at "sts"
  walk_at "nw"
  rename_i p2 hp2 H2 s2 e2
  walk_at "sts"
  walk_at "nw"
  rename_i p3 hp3 H3 s3 e3
  walk_at "sts"
  walk_at "nw"
  rename_i p4 hp4 H4 s4 e4
  walk_at "sts"
  walk_at "nw"
  rename_i p5 hp5 H5 s5 e5
  walk_at "sts"
  walk_at "nw"
  rename_i p6 hp6 H6 s6 e6
  walk_at "sts"
  walk_at "nw"
  rename_i p7 hp7 H7 s7 e7
  walk_at "sts"
  walk_at "nw"
  rename_i p8 hp8 H8 s8 e8
  walk_at "sts"
  walk_at "nw"
  rename_i p9 hp9 H9 s9 e9
  walk_at "sts"
  walk_at "nw"
  rename_i p10 hp10 H10 s10 e10
  walk_at "sts"
  walk_at "nw"
  rename_i p11 hp11 H11 s11 e11
  walk_at "sts"
  walk_at "nw"
  rename_i p12 hp12 H12 s12 e12
  walk_at "sts"
  walk_at "nw"
  rename_i p13 hp13 H13 s13 e13
  walk_at "sts"
  walk_at "nw"
  rename_i p14 hp14 H14 s14 e14
  walk_at "sts"
  walk_at "nw"
  rename_i p15 hp15 H15 s15 e15
  walk_at "sts"
  walk_at "nw"
  rename_i p16 hp16 H16 s16 e16
  refine L_addL ((s10.trans (s11.trans (s12.trans (s13.trans (s14.trans (s15.trans (s16))))))) _ _ e9) (e16) (sz_dec (by simp)) fun p17 hp17 => ?_
  have s17 := same_newE rfl hp17 (o := .lst ([V.non, V.ref p1, V.ref p2, V.ref p3, V.ref p4, V.ref p5, V.ref p6, V.ref p7, V.ref p8] ++ [V.ref p10, V.ref p11, V.ref p12, V.ref p13, V.ref p14, V.ref p15]))
  have e17 : (upd H16 p17 (.lst ([V.non, V.ref p1, V.ref p2, V.ref p3, V.ref p4, V.ref p5, V.ref p6, V.ref p7, V.ref p8] ++ [V.ref p10, V.ref p11, V.ref p12, V.ref p13, V.ref p14, V.ref p15]))) p17 = _ := upd_same
  generalize upd H16 p17 (.lst ([V.non, V.ref p1, V.ref p2, V.ref p3, V.ref p4, V.ref p5, V.ref p6, V.ref p7, V.ref p8] ++ [V.ref p10, V.ref p11, V.ref p12, V.ref p13, V.ref p14, V.ref p15])) = H17 at s17 e17 ⊢
  walk_at "sts"
  walk_at "nw"
  rename_i p18 hp18 H18 s18 e18
  walk_at "sts"
  walk_at "nw"
  rename_i p19 hp19 H19 s19 e19
  walk_at "sts"
  walk_at "nw"
  rename_i p20 hp20 H20 s20 e20
  walk_at "sts"
  walk_at "nw"
  rename_i p21 hp21 H21 s21 e21
  refine L_addL ((s18.trans (s19.trans (s20.trans (s21)))) _ _ e17) (e21) (sz_dec (by simp)) fun p22 hp22 => ?_
  have s22 := same_newE rfl hp22 (o := .lst ([V.non, V.ref p1, V.ref p2, V.ref p3, V.ref p4, V.ref p5, V.ref p6, V.ref p7, V.ref p8] ++ [V.ref p10, V.ref p11, V.ref p12, V.ref p13, V.ref p14, V.ref p15] ++ [V.ref p18, V.ref p19, V.ref p20]))
  have e22 : (upd H21 p22 (.lst ([V.non, V.ref p1, V.ref p2, V.ref p3, V.ref p4, V.ref p5, V.ref p6, V.ref p7, V.ref p8] ++ [V.ref p10, V.ref p11, V.ref p12, V.ref p13, V.ref p14, V.ref p15] ++ [V.ref p18, V.ref p19, V.ref p20]))) p22 = _ := upd_same
  generalize upd H21 p22 (.lst ([V.non, V.ref p1, V.ref p2, V.ref p3, V.ref p4, V.ref p5, V.ref p6, V.ref p7, V.ref p8] ++ [V.ref p10, V.ref p11, V.ref p12, V.ref p13, V.ref p14, V.ref p15] ++ [V.ref p18, V.ref p19, V.ref p20])) = H22 at s22 e22 ⊢
  walk_at "sa"
  have S0 : Same H H := .refl _
  have S1 := S0.trans s1
  have S2 := S1.trans s2
  have S3 := S2.trans s3
  have S4 := S3.trans s4
  have S5 := S4.trans s5
  have S6 := S5.trans s6
  have S7 := S6.trans s7
  have S8 := S7.trans s8
  have S9 := S8.trans s9
  have S10 := S9.trans s10
  have S11 := S10.trans s11
  have S12 := S11.trans s12
  have S13 := S12.trans s13
  have S14 := S13.trans s14
  have S15 := S14.trans s15
  have S16 := S15.trans s16
  have S17 := S16.trans s17
  have S18 := S17.trans s18
  have S19 := S18.trans s19
  have S20 := S19.trans s20
  have S21 := S20.trans s21
  have S22 := S21.trans s22
  have B22 : Same H22 H22 := .refl _
  have f22 := nw_at (S21.free hp22) (B22 _ _ e22)
  have B21 := s22.trans B22
  have f21 := nw_at (S20.free hp21) (B21 _ _ e21)
  have B20 := s21.trans B21
  have f20 := nw_at (S19.free hp20) (B20 _ _ e20)
  have B19 := s20.trans B20
  have f19 := nw_at (S18.free hp19) (B19 _ _ e19)
  have B18 := s19.trans B19
  have f18 := nw_at (S17.free hp18) (B18 _ _ e18)
  have B17 := s18.trans B18
  have f17 := nw_at (S16.free hp17) (B17 _ _ e17)
  have B16 := s17.trans B17
  have f16 := nw_at (S15.free hp16) (B16 _ _ e16)
  have B15 := s16.trans B16
  have f15 := nw_at (S14.free hp15) (B15 _ _ e15)
  have B14 := s15.trans B15
  have f14 := nw_at (S13.free hp14) (B14 _ _ e14)
  have B13 := s14.trans B14
  have f13 := nw_at (S12.free hp13) (B13 _ _ e13)
  have B12 := s13.trans B13
  have f12 := nw_at (S11.free hp12) (B12 _ _ e12)
  have B11 := s12.trans B12
  have f11 := nw_at (S10.free hp11) (B11 _ _ e11)
  have B10 := s11.trans B11
  have f10 := nw_at (S9.free hp10) (B10 _ _ e10)
  have B9 := s10.trans B10
  have f9 := nw_at (S8.free hp9) (B9 _ _ e9)
  have B8 := s9.trans B9
  have f8 := nw_at (S7.free hp8) (B8 _ _ e8)
  have B7 := s8.trans B8
  have f7 := nw_at (S6.free hp7) (B7 _ _ e7)
  have B6 := s7.trans B7
  have f6 := nw_at (S5.free hp6) (B6 _ _ e6)
  have B5 := s6.trans B6
  have f5 := nw_at (S4.free hp5) (B5 _ _ e5)
  have B4 := s5.trans B5
  have f4 := nw_at (S3.free hp4) (B4 _ _ e4)
  have B3 := s4.trans B4
  have f3 := nw_at (S2.free hp3) (B3 _ _ e3)
  have B2 := s3.trans B3
  have f2 := nw_at (S1.free hp2) (B2 _ _ e2)
  have B1 := s2.trans B2
  have f1 := nw_at (S0.free hp1) (B1 _ _ e1)
  clear B1 B2 B3 B4 B5 B6 B7 B8 B9 B10 B11 B12 B13 B14 B15 B16 B17 B18 B19 B20 B21 B22
  refine L_menuV (.of e22) (by omega) (by show _ < (18 : Int); omega) fun v hv => ?_
  have hA : OneA (nwH H H22) v := by
    simp only [List.mem_append, List.mem_cons, List.not_mem_nil, or_false, or_assoc] at hv
    rcases hv with rfl | rfl | rfl | rfl | rfl | rfl | rfl | rfl | rfl | rfl | rfl | rfl | rfl | rfl | rfl | rfl | rfl | rfl
    · exact .inl rfl
    · exact .inr (.inr (.inl ⟨p1, _, _, rfl, f1⟩))
    · exact .inr (.inr (.inr ⟨p2, _, _, _, rfl, f2, rfl, rfl, rfl, rfl⟩))
    · exact .inr (.inr (.inr ⟨p3, _, _, _, rfl, f3, rfl, rfl, rfl, rfl⟩))
    · exact .inr (.inr (.inr ⟨p4, _, _, _, rfl, f4, rfl, rfl, rfl, rfl⟩))
    · exact .inr (.inr (.inr ⟨p5, _, _, _, rfl, f5, rfl, rfl, rfl, rfl⟩))
    · exact .inr (.inr (.inr ⟨p6, _, _, _, rfl, f6, rfl, rfl, rfl, rfl⟩))
    · exact .inr (.inr (.inr ⟨p7, _, _, _, rfl, f7, rfl, rfl, rfl, rfl⟩))
    · exact .inr (.inr (.inr ⟨p8, _, _, _, rfl, f8, rfl, rfl, rfl, rfl⟩))
    · exact .inr (.inr (.inr ⟨p10, _, _, _, rfl, f10, rfl, rfl, rfl, rfl⟩))
    · exact .inr (.inr (.inr ⟨p11, _, _, _, rfl, f11, rfl, rfl, rfl, rfl⟩))
    · exact .inr (.inr (.inr ⟨p12, _, _, _, rfl, f12, rfl, rfl, rfl, rfl⟩))
    · exact .inr (.inr (.inr ⟨p13, _, _, _, rfl, f13, rfl, rfl, rfl, rfl⟩))
    · exact .inr (.inr (.inr ⟨p14, _, _, _, rfl, f14, rfl, rfl, rfl, rfl⟩))
    · exact .inr (.inr (.inr ⟨p15, _, _, _, rfl, f15, rfl, rfl, rfl, rfl⟩))
    · exact .inr (.inl ⟨p18, _, rfl, f18⟩)
    · exact .inr (.inr (.inr ⟨p19, _, _, _, rfl, f19, rfl, rfl, rfl, rfl⟩))
    · exact .inr (.inr (.inr ⟨p20, _, _, _, rfl, f20, rfl, rfl, rfl, rfl⟩))
  clear hv f1 e1 s1 f2 e2 s2 f3 e3 s3 f4 e4 s4 f5 e5 s5 f6 e6 s6 f7 e7 s7 f8 e8 s8 f9 e9 s9 f10 e10 s10 f11 e11 s11 f12 e12 s12 f13 e13 s13 f14 e14 s14 f15 e15 s15 f16 e16 s16 f17 e17 s17 f18 e18 s18 f19 e19 s19 f20 e20 s20 f21 e21 s21 f22 e22 s22
  walk_at "sts"
  refine L_d (fun cw => ?_) (fun cw => ?_)
  · walk_at "sts"
    walk_at "nw"
    rename_i p31 hp31 H31 s31 e31
    walk_at "sts"
    walk_at "nw"
    rename_i p32 hp32 H32 s32 e32
    walk_at "sa"
    have s02 := S22.trans (s31.trans s32)
    have hA2 : OneA (nwH H H32) v := hA.same (rs_same fun a o n h => ⟨n, s32 _ _ (s31 _ _ h)⟩)
    have f31 := nw_at (S22.free hp31) (s32 _ _ e31)
    refine L_menuV (.of e32) (by split <;> decide) (by split <;> (show _ < (2 : Int); decide)) fun v' hv' => ?_
    refine q v' _ s02 ⟨fun _ => ?_, fun z => absurd z (by omega)⟩
    simp only [List.mem_cons, List.not_mem_nil, or_false] at hv'
    rcases hv' with rfl | rfl
    · exact hA2.j3
    · exact .inr (.inl ⟨rfl, p31, _, rfl, .of f31, by simp, by simp⟩)
  have h3 : way = 3 := by omega
  subst h3
  have fin : (∃ p xs, v = .ref p ∧ H22 p = some (.tup xs) ∧ xs ≠ [] ∧ xs.length ≤ 3 ∧ ∀ w : Str, PyData.strOk w = true → ∀ p' H', nwH H H' p' = some (.tup (xs ++ [.str w])) → JA K (nwH H H') 4 (.ref p') false) ∨ ∃ ty, TyX K H22 v (.type ty) ∧ kitB ty "tuple" = some false := by
    rcases hA with rfl | ⟨p, xs, rfl, h2⟩ | ⟨p, x, y, rfl, h2⟩ | ⟨p, x, y, z, rfl, h2, h3, h4, h5, h6⟩
    · exact .inr ⟨_, .base .non, by decide +kernel⟩
    · exact .inr ⟨_, tyx_L (.of (rs_of h2).2), by decide +kernel⟩
    · exact .inl ⟨p, _, rfl, (rs_of h2).2, by simp, by simp, fun w hw p' H' h => .inr (.inl ⟨rfl, p', _, rfl, .of h, by simp, by simp⟩)⟩
    · exact .inl ⟨p, _, rfl, (rs_of h2).2, by simp, by simp, fun w hw p' H' h => ja_pl (r := [.str w]) (.of h) rfl h3 h4 h5 h6⟩
  refine L_cut (Mid := fun σ' H' => σ' = [some (.int c), some (.int 3), some (.ref p22), some v] ∧ H' = H22) ?_ ?_
  · walk_at "sts"
    rcases fin with ⟨p, xs, rfl, hp, nx, lx, hj⟩ | ⟨ty, h1, h2⟩
    · refine L_isi (tyx_T (.of hp)) (b := true) (by decide +kernel) ?_
      walk_at "sa"
      refine L_d (fun c1 => ?_) (fun c1 => ?_)
      · walk_at "sts"
        walk_at "nw"
        rename_i p31 hp31 H31 s31 e31
        walk_at "sa"
        refine L_menuV (.of e31) (by omega) (by show _ < (3 : Int); omega) fun v' hv' => ?_
        obtain ⟨wd, rfl, hwd⟩ : ∃ wd : Str, v' = .str wd ∧ PyData.strOk wd = true := by
          simp only [List.mem_cons, List.not_mem_nil, or_false] at hv'
          rcases hv' with rfl | rfl | rfl
          · exact ⟨_, rfl, by decide +kernel⟩
          · exact ⟨_, rfl, by decide +kernel⟩
          · exact ⟨_, rfl, by decide +kernel⟩
        walk_at "sts"
        walk_at "nw"
        rename_i p32 hp32 H32 s32 e32
        have s02 := S22.trans (s31.trans s32)
        refine L_catA (.of (s32 _ _ (s31 _ _ hp))) (.of e32) nx (by simp) (sz_dec (by simp; omega)) fun p33 hp33 => ?_
        exact q _ _ (same_upd s02 hp33) ⟨fun z => absurd z (by decide), fun _ => .inl (hj wd hwd p33 _ (nw_at (s02.free hp33) upd_same))⟩
      · walk_at "sts"
        exact ⟨rfl, rfl⟩
    · refine L_isi h1 h2 ?_
      walk_at "sts"
      exact ⟨rfl, rfl⟩
  rintro σ' H' ⟨rfl, rfl⟩
  walk_at "sts"
  walk_at "nw"
  rename_i p31 hp31 H31 s31 e31
  walk_at "sts"
  walk_at "nw"
  rename_i p32 hp32 H32 s32 e32
  walk_at "sts"
  walk_at "nw"
  rename_i p33 hp33 H33 s33 e33
  walk_at "sts"
  walk_at "nw"
  rename_i p34 hp34 H34 s34 e34
  walk_at "sts"
  walk_at "nw"
  rename_i p35 hp35 H35 s35 e35
  walk_at "sts"
  walk_at "nw"
  rename_i p36 hp36 H36 s36 e36
  walk_at "sts"
  walk_at "nw"
  rename_i p37 hp37 H37 s37 e37
  walk_at "sa"
  have t36 := s37
  have t35 := s36.trans t36
  have t34 := s35.trans t35
  have t33 := s34.trans t34
  have t32 := s33.trans t33
  have t31 := s32.trans t32
  have S31 := S22.trans s31
  have S32 := S31.trans s32
  have S33 := S32.trans s33
  have S34 := S33.trans s34
  have S35 := S34.trans s35
  have S36 := S35.trans s36
  have S37 := S36.trans s37
  have f31 := nw_at (S22.free hp31) (t31 _ _ e31)
  have f32 := nw_at (S31.free hp32) (t32 _ _ e32)
  have f33 := nw_at (S32.free hp33) (t33 _ _ e33)
  have f34 := nw_at (S33.free hp34) (t34 _ _ e34)
  have f35 := nw_at (S34.free hp35) (t35 _ _ e35)
  have f36 := nw_at (S35.free hp36) (t36 _ _ e36)
  have hA2 : OneA (nwH H H37) v := hA.same (rs_same fun a o n h => ⟨n, (s31.trans t31) _ _ h⟩)
  refine L_menuV (.of e37) (by omega) (by show _ < (6 : Int); omega) fun v' hv' => ?_
  refine q v' _ S37 ⟨fun z => absurd z (by decide), fun _ => ?_⟩
  simp only [List.mem_cons, List.not_mem_nil, or_false] at hv'
  rcases hv' with rfl | rfl | rfl | rfl | rfl | rfl
  · exact .inl hA2.j4
  · exact .inr ⟨ja_pl (.of f31) rfl rfl rfl rfl, wd_pl (.of f31) (.str _) (by decide +kernel) (by decide +kernel)⟩
  · exact .inr ⟨ja_pl (.of f32) rfl rfl rfl rfl, wd_pl (.of f32) (.str _) (by decide +kernel) (by decide +kernel)⟩
  · exact .inr ⟨ja_pl (.of f33) rfl rfl rfl rfl, wd_pl (.of f33) .non (by decide +kernel) (by decide +kernel)⟩
  · exact .inr ⟨ja_pl (.of f34) rfl rfl rfl rfl, wd_pl (.of f34) (.bl _) (by decide +kernel) (by decide +kernel)⟩
  · exact .inr ⟨ja_pl (.of f36) rfl rfl rfl rfl, wd_pl (.of f36) (.lst (.of f35) (.cons (.str _) .nil)) (by decide +kernel) (by decide +kernel)⟩
theorem pr_ex {F : V → Bool → Prop} : ∀ {xs : List V}, (∀ x ∈ xs, ∃ b, F x b) → ∃ bs, Paired F xs bs
  | [], _ => ⟨[], .nil⟩
  | x :: xs, h => by
    obtain ⟨b, hb⟩ := h x (List.mem_cons_self ..)
    obtain ⟨bs, hbs⟩ := pr_ex (xs := xs) fun y hy => h y (List.mem_cons_of_mem _ hy)
    exact ⟨b :: bs, .cons hb hbs⟩
theorem ins_pr {F : V → Bool → Prop} {xs : List V} {v : V} (i : Nat) (hx : ∀ x ∈ xs, ∃ b, F x b) (hv : F v false) : ∃ bs, Paired F (xs.take i ++ [v] ++ xs.drop i) bs ∧ bs.all id = false := by
  obtain ⟨b1, h1⟩ := pr_ex (xs := xs.take i) fun x hm => hx x (List.mem_of_mem_take hm)
  obtain ⟨b2, h2⟩ := pr_ex (xs := xs.drop i) fun x hm => hx x (List.mem_of_mem_drop hm)
  exact ⟨b1 ++ [false] ++ b2, paired_app (paired_app h1 (.cons hv .nil)) h2, by simp⟩
theorem pr_all {F : V → Bool → Prop} : ∀ {xs : List V}, (∀ x ∈ xs, F x true) → Paired F xs (xs.map fun _ => true)
  | [], _ => .nil
  | x :: xs, h => .cons (h x (List.mem_cons_self ..)) (pr_all fun y hy => h y (List.mem_cons_of_mem _ hy))
theorem ins_len {xs : List V} {v : V} (i : Nat) : (xs.take i ++ [v] ++ xs.drop i).length = xs.length + 1 := by
  simp only [List.length_append, List.length_take, List.length_drop, List.length_singleton]
  omega
theorem ins_mem {xs : List V} {v x : V} {i : Nat} (h : x ∈ xs.take i ++ [v] ++ xs.drop i) : x ∈ xs ∨ x = v := by
  rcases List.mem_append.mp h with h | h
  · rcases List.mem_append.mp h with h | h
    · exact .inl (List.mem_of_mem_take h)
    · exact .inr (List.mem_singleton.mp h)
  · exact .inl (List.mem_of_mem_drop h)
def BadT (K : PySem.W.Frag) (H : Hp) (way : Int) (xs : List V) : Prop := (way < 2 ∧ ∃ r c u br bc bu, xs = [r, c, u] ∧ JL K H r c u br bc bu ∧ (br && bc && bu) = false) ∨ (way = 2 ∧ ∃ v, xs = [v] ∧ JAs K H 3 v false) ∨ (way = 3 ∧ ∃ v, xs = [v] ∧ (JAs K H 4 v false ∨ BadWs K H v))
def GoodT (K : PySem.W.Frag) (H : Hp) (way : Int) (xs : List V) : Prop := (way < 2 ∧ ∃ pr pc pu uv rows cols us, xs = [.ref pr, .ref pc, .ref pu] ∧ GL K H (.ref pr) (.ref pc) (.ref pu) pr pc pu uv rows cols us ∧ H pr = some (.lst (rows.map V.int)) ∧ H pc = some (.lst (cols.map V.int)) ∧ H pu = some (.lst uv)) ∨ (way = 2 ∧ ∃ (a : Addr) (rows : List R3), xs = [.ref a] ∧ Dp K H (.ref a) (.list (rows.map d3)) ∧ rows.length ≤ 24 ∧ ∀ r ∈ rows, Ok3 r) ∨ (way = 3 ∧ ∃ (a : Addr) (us : List V) (rows : List R4), xs = [.ref a] ∧ SqL K H a us ∧ DpAll K H us (rows.map d4) ∧ rows.length ≤ 24 ∧ ∀ r ∈ rows, Ok4 r)
theorem j34 {K : PySem.W.Frag} {H : Hp} {p : Addr} {x y : Int} (h : H p = some (.lst [V.int x, V.int y])) (hx : 0 ≤ x ∧ x ≤ 24000000) (hy : 0 ≤ y ∧ y ≤ 24000000) : JS K H (.ref p) true := js_l (.of h) (by simp) (.cons (.inl ⟨rfl, x, rfl, hx⟩) (.cons (.inl ⟨rfl, y, rfl, hy⟩) .nil)) rfl
def sp__law_spoilt (K : PySem.W.Frag) (mg : Str → Option Value) : Sp := fun vs H Q _ => match vs with | [.int way, .int c] => 0 ≤ way ∧ way ≤ 3 ∧ ∀ t xs H', Same H H' → H' t = some (.lst xs) → BadT K H' way xs → Q (.ref t) H' | _ => False
theorem q__law_spoilt {H : Hp} {Q : VK} {E : XK} {way : Int} {c : Int} (q : 0 ≤ way ∧ way ≤ 3 ∧ ∀ t xs H', Same H H' → H' t = some (.lst xs) → BadT K H' way xs → Q (.ref t) H') : sp__law_spoilt K mg [.int way, .int c] H Q E := q
local macro_rules | `(tactic| walk_at "op") => `(tactic| with_reducible refine q__law_spoilt ?_)
theorem c__law_spoilt (T : Txt K mg) : Cal P w K mg base 2 "_law_spoilt" (sp__law_spoilt K mg) := by
  refine T.d__law_spoilt.cal (k := 1) sc__law_spoilt (by intro vs H Q E h; unfold sp__law_spoilt at h; split at h <;> first | rfl | exact h.elim) fun f cdv A outer s H vs Q E hr h => ?_
  refine ⟨_, (pss_cons (ps_if (pt_cmpR op_ltA (pv 0) pe_int (nomark _))
    (pss_cons (ps_set (i := 2) sc__law_spoilt.nd rfl (.inl rfl) (pe_lst (pa_cons (pe_lst (pa_cons pe_int (pa_cons pe_int pa_nil))) (pa_cons (pe_lst (pa_cons pe_int (pa_cons pe_int pa_nil))) (pa_cons (pe_lst (pa_cons (pe_tup (pa_cons pe_int (pa_cons pe_int (pa_cons pe_int (pa_cons pe_int pa_nil))))) (pa_cons (pe_tup (pa_cons pe_int (pa_cons pe_int (pa_cons pe_int (pa_cons pe_int pa_nil))))) (pa_cons (pe_tup (pa_cons pe_int (pa_cons pe_int (pa_cons pe_int (pa_cons pe_int pa_nil))))) pa_nil)))) pa_nil)))))
    (pss_cons (ps_set (i := 3) sc__law_spoilt.nd rfl (.inl rfl) (pe_op op_mod (pv 1) pe_int))
    (pss_cons (ps_if (pt_cmpR op_ltA (pv 3) pe_int (nomark _))
    (pss_one (ps_asg (pe_c (c__law_bad_list T) hr (by decide) (by rfl) (pa_cons (pe_op op_fdivW (pv 1) pe_int) (pa_cons (pv 3) pa_nil))) (pg_sub (pv 2) (pv 3) set_list)))
    (pss_one (ps_if (pt_cmpR (op_eqA hr) (pe_op op_mod (pe_op op_fdivW (pv 1) pe_int) pe_int) pe_int (nomark _))
    (pss_one (ps_asg (pe_op op_mulA (pe_lst (pa_cons (pe_tup (pa_cons pe_int (pa_cons pe_int (pa_cons pe_int (pa_cons pe_int pa_nil))))) pa_nil)) pe_int) (pg_sub (pv 2) pe_int set_list)))
    (pss_one (ps_expr (pe_bm PySem.F.plainAttrs_list PySem.F.slot_list_insert PySem.F.type_list_insert mt_insert (pe_ix ix_seq (pv 2) pe_int (fun _ _ => rfl)) (pa_cons (pe_op op_mod (pe_op op_fdivW (pv 1) pe_int) pe_int) (pa_cons (pe_c (c__law_bad_unit T) hr (by decide) (by rfl) (pa_cons (pe_op op_fdivW (pv 1) pe_int) pa_nil)) pa_nil))))))))
    (pss_one (ps_ret (pv 2))))))
    pss_nil)
    (pss_cons (ps_set (i := 4) sc__law_spoilt.nd rfl (.inl rfl) (pe_ix ix_seq (pe_lst (pa_cons (pe_lst (pa_cons (pe_tup (pa_cons pe_int (pa_cons (pe_un un_neg pe_int) (pa_cons pe_int pa_nil)))) (pa_cons (pe_tup (pa_cons pe_int (pa_cons pe_int (pa_cons pe_int pa_nil)))) pa_nil))) (pa_cons (pe_lst (pa_cons (pe_tup (pa_cons pe_int (pa_cons (pe_un un_neg pe_int) (pa_cons pe_int (pa_cons pe_str pa_nil))))) (pa_cons (pe_tup (pa_cons pe_int (pa_cons pe_int (pa_cons pe_int (pa_cons pe_str pa_nil))))) pa_nil))) pa_nil))) (pe_op op_sub (pv 0) pe_int) (fun _ _ => rfl)))
    (pss_cons (ps_if (pt_cmpR (op_eqA hr) (pe_op op_mod (pv 1) pe_int) pe_int (nomark _))
    (pss_one (ps_ret (pe_lst (pa_cons (pe_c (c__law_bad_list T) hr (by decide) (by rfl) (pa_cons (pe_op op_fdivW (pv 1) pe_int) (pa_cons pe_int pa_nil))) pa_nil))))
    pss_nil)
    (pss_cons (ps_if (pt_cmpR (op_eqA hr) (pe_op op_mod (pv 1) pe_int) pe_int (nomark _))
    (pss_one (ps_ret (pe_lst (pa_cons (pe_op op_mulA (pe_slice sl_list (pv 4) po_none (po_some pe_int)) pe_int) pa_nil))))
    pss_nil)
    (pss_cons (ps_expr (pe_bm PySem.F.plainAttrs_list PySem.F.slot_list_insert PySem.F.type_list_insert mt_insert (pv 4) (pa_cons (pe_op op_mod (pe_op op_fdivW (pv 1) pe_int) pe_int) (pa_cons (pe_c (c__law_bad_answer T) hr (by decide) (by rfl) (pa_cons (pe_op op_fdivW (pv 1) pe_int) (pa_cons (pv 0) pa_nil))) pa_nil))))
    (pss_one (ps_ret (pe_lst (pa_cons (pv 4) pa_nil))))))))), ?_⟩
  try simp only [cxOf_K, cxOf_K', cxOf_mg, cxOf_mg']
  unfold sp__law_spoilt at h
  split at h
  case h_2 => exact h.elim
  rename_i way c
  rw [show L2.start ["_law_way", "_law_cell_here", "_law_things", "_law_place", "_law_good_here"] [V.int way, V.int c] = [some (V.int way), some (V.int c), none, none, none] from rfl]
  obtain ⟨w0, w3, q⟩ := h
  walk_at "sts"
  refine L_d (fun cw => ?_) (fun cw => ?_)
  · walk_at "sts"
    walk_at "nw"
    rename_i p1 hp1 H1 s1 e1
    walk_at "sts"
    walk_at "nw"
    rename_i p2 hp2 H2 s2 e2
    walk_at "sts"
    walk_at "nw"
    rename_i p3 hp3 H3 s3 e3
    walk_at "sts"
    walk_at "nw"
    rename_i p4 hp4 H4 s4 e4
    walk_at "sts"
    walk_at "nw"
    rename_i p5 hp5 H5 s5 e5
    walk_at "sts"
    walk_at "nw"
    rename_i p6 hp6 H6 s6 e6
    walk_at "sts"
    walk_at "nw"
    rename_i p7 hp7 H7 s7 e7
    have x5 := s6.trans s7
    have x4 := s5.trans x5
    have x3 := s4.trans x4
    have x2 := s3.trans x3
    have x1 := s2.trans x2
    have S06 := s1.trans (s2.trans (s3.trans (s4.trans (s5.trans s6))))
    have S07 := S06.trans s7
    have hp70 := S06.free hp7
    have hp60 := (s1.trans (s2.trans (s3.trans (s4.trans s5)))).free hp6
    have f1 := x1 _ _ e1
    have f2 := x2 _ _ e2
    have f3 := x3 _ _ e3
    have f4 := x4 _ _ e4
    have f5 := x5 _ _ e5
    have f6 := s7 _ _ e6
    have n77 : p7 ≠ p6 := fun z => by rw [z, e6] at hp7; cases hp7
    have n17 : p1 ≠ p7 := fun z => by rw [z, e7] at f1; cases f1
    have n27 : p2 ≠ p7 := fun z => by rw [z, e7] at f2; cases f2
    clear x1 x2 x3 x4 x5 s1 s2 s3 s4 s5 s6 s7 hp1 hp2 hp3 hp4 hp5 hp6 hp7 e1 e2 e3 e4 e5 e6 S06
    walk_at "sa"
    have pl0 : 0 ≤ c % 4 ∧ c % 4 < 4 := by omega
    generalize c % 4 = pl at *
    refine L_d (fun c1 => ?_) (fun c1 => ?_)
    · walk_at "sa"
      refine fun v H8 s8 hj hn => ?_
      walk_at "sts"
      refine L_setL (s8 _ _ e7) (ixN_of pl0.1 (by show pl < (3 : Int); exact c1)) ?_
      have k9 : ∀ b o, H7 b = some o → b ≠ p7 → (upd H8 p7 (.lst ([V.ref p1, .ref p2, .ref p6].set pl.toNat v))) b = some o := fun b o hb n => by rw [upd_ne n]; exact s8 _ _ hb
      have nw9 : Same (nwH H7 H8) (upd H8 p7 (.lst ([V.ref p1, .ref p2, .ref p6].set pl.toNat v))) := nw_upd (by rw [e7]; exact fun z => nomatch z)
      have e9 : (upd H8 p7 (.lst ([V.ref p1, .ref p2, .ref p6].set pl.toNat v))) p7 = _ := upd_same
      have s9 : Same H (upd H8 p7 (.lst ([V.ref p1, .ref p2, .ref p6].set pl.toNat v))) := same_mut (S07.trans s8) hp70
      generalize upd H8 p7 (.lst ([V.ref p1, .ref p2, .ref p6].set pl.toNat v)) = H9 at k9 nw9 e9 s9 ⊢
      have g1 : JS K H9 (.ref p1) true := j34 (k9 _ _ f1 n17) (by decide) (by decide)
      have g2 : JS K H9 (.ref p2) true := j34 (k9 _ _ f2 n27) (by decide) (by decide)
      walk_at "sts"
      refine q p7 _ H9 s9 e9 (.inl ⟨cw, ?_⟩)
      obtain rfl | rfl | rfl : pl = 0 ∨ pl = 1 ∨ pl = 2 := by omega
      · exact ⟨v, _, _, false, true, true, rfl, ⟨(hj (by decide)).same nw9, fun z => (nomatch z), fun z => nomatch z⟩, rfl⟩
      · exact ⟨_, v, _, true, false, true, rfl, ⟨g1, fun _ => (hj (by decide)).same nw9, fun _ z => nomatch z⟩, rfl⟩
      · exact ⟨_, _, v, true, true, false, rfl, ⟨g1, fun _ => g2, fun _ _ => ⟨p1, p2, _, _, rfl, rfl, .of (k9 _ _ f1 n17), .of (k9 _ _ f2 n27), .inl ⟨rfl, (hn (by decide)).same nw9⟩⟩⟩, rfl⟩
    walk_at "sa"
    refine L_d (fun c2 => ?_) (fun c2 => ?_)
    · walk_at "sts"
      walk_at "nw"
      rename_i p8 hp8 H8 s8 e8
      walk_at "sts"
      walk_at "nw"
      rename_i p9 hp9 H9 s9 e9
      walk_at "sts"
      refine L_repL e9 (by decide) (by decide) (sz_dec (by simp)) fun p10 hp10 => ?_
      have s10 := same_newE rfl hp10 (o := .lst (List.replicate (25 : Int).toNat [V.ref p8]).flatten)
      have e10 : (upd H9 p10 (.lst (List.replicate (25 : Int).toNat [V.ref p8]).flatten)) p10 = _ := upd_same
      generalize upd H9 p10 (.lst (List.replicate (25 : Int).toNat [V.ref p8]).flatten) = H10 at s10 e10 ⊢
      have s710 := s8.trans (s9.trans s10)
      have f8 := (s9.trans s10) _ _ e8
      walk_at "sts"
      refine L_setL (k := 2) (s710 _ _ e7) (j := 2) rfl ?_
      have n107 : p10 ≠ p7 := fun z => by rw [z, (s8.trans s9) _ _ e7] at hp10; cases hp10
      have n87 : p8 ≠ p7 := fun z => by rw [z, e7] at hp8; cases hp8
      have k11 : ∀ b o, H10 b = some o → b ≠ p7 → (upd H10 p7 (.lst ([V.ref p1, .ref p2, .ref p6].set 2 (.ref p10)))) b = some o := fun b o hb n => by rw [upd_ne n]; exact hb
      have g1 := k11 _ _ (s710 _ _ f1) n17
      have g2 := k11 _ _ (s710 _ _ f2) n27
      have g8 := k11 _ _ f8 n87
      have g10 := k11 _ _ e10 n107
      walk_at "sts"
      refine q p7 _ _ (same_mut (S07.trans s710) hp70) upd_same (.inl ⟨cw, _, _, _, true, true, false, rfl, ⟨j34 g1 (by decide) (by decide), fun _ => j34 g2 (by decide) (by decide), fun _ _ => ⟨p1, p2, _, _, rfl, rfl, .of g1, .of g2, .inr ?_⟩⟩, rfl⟩)
      obtain ⟨bs, hbs⟩ := pr_ex (F := JU K (upd H10 p7 (.lst ([V.ref p1, .ref p2, .ref p6].set 2 (.ref p10)))) [V.int 3, V.int 4].length [V.int 5, V.int 2].length) (xs := (List.replicate (25 : Int).toNat [V.ref p8]).flatten) fun x hx => by
        obtain ⟨l, hl, hxl⟩ := List.mem_flatten.mp hx
        rw [(List.mem_replicate.mp hl).2, List.mem_singleton] at hxl
        subst hxl
        exact ⟨true, ju_pl (.of g8) rfl rfl rfl rfl⟩
      exact ⟨p10, _, bs, rfl, .of g10, by simp, hbs, rfl⟩
    walk_at "sts"
    refine L_ixL (.of e7) (atI_int (by decide) rfl) ?_
    walk_at "sts"
    refine L_tyL (.of f6) ?_
    walk_at "sa"
    refine fun v H8 s8 hj => ?_
    have i0 : 0 ≤ c / 32 % 4 ∧ c / 32 % 4 < 4 := by omega
    generalize c / 32 % 4 = ii at *
    refine ⟨p6, _, ii, v, rfl, rfl, s8 _ _ f6, sz_lt (by simp), i0.1, by omega, ?_⟩
    have n17' : p1 ≠ p6 := fun z => by rw [z, f6] at f1; cases f1
    have n27' : p2 ≠ p6 := fun z => by rw [z, f6] at f2; cases f2
    have n37 : p3 ≠ p6 := fun z => by rw [z, f6] at f3; cases f3
    have n47 : p4 ≠ p6 := fun z => by rw [z, f6] at f4; cases f4
    have n57 : p5 ≠ p6 := fun z => by rw [z, f6] at f5; cases f5
    have k9 : ∀ b o, H7 b = some o → b ≠ p6 → (upd H8 p6 (.lst ([V.ref p3, .ref p4, .ref p5].take ii.toNat ++ [v] ++ [V.ref p3, .ref p4, .ref p5].drop ii.toNat))) b = some o := fun b o hb n => by rw [upd_ne n]; exact s8 _ _ hb
    have nw9 : Same (nwH H7 H8) (upd H8 p6 (.lst ([V.ref p3, .ref p4, .ref p5].take ii.toNat ++ [v] ++ [V.ref p3, .ref p4, .ref p5].drop ii.toNat))) := nw_upd (by rw [f6]; exact fun z => nomatch z)
    have e9 : (upd H8 p6 (.lst ([V.ref p3, .ref p4, .ref p5].take ii.toNat ++ [v] ++ [V.ref p3, .ref p4, .ref p5].drop ii.toNat))) p6 = _ := upd_same
    have s9 : Same H (upd H8 p6 (.lst ([V.ref p3, .ref p4, .ref p5].take ii.toNat ++ [v] ++ [V.ref p3, .ref p4, .ref p5].drop ii.toNat))) := same_mut (S07.trans s8) hp60
    generalize upd H8 p6 (.lst ([V.ref p3, .ref p4, .ref p5].take ii.toNat ++ [v] ++ [V.ref p3, .ref p4, .ref p5].drop ii.toNat)) = H9 at k9 nw9 e9 s9 ⊢
    have g1 := k9 _ _ f1 n17'
    have g2 := k9 _ _ f2 n27'
    walk_at "sts"
    refine q p7 _ H9 s9 (k9 _ _ e7 n77) (.inl ⟨cw, _, _, _, true, true, false, rfl, ⟨j34 g1 (by decide) (by decide), fun _ => j34 g2 (by decide) (by decide), fun _ _ => ⟨p1, p2, _, _, rfl, rfl, .of g1, .of g2, .inr ?_⟩⟩, rfl⟩)
    obtain ⟨bs, hbs, hb⟩ := ins_pr (F := JU K H9 [V.int 3, V.int 4].length [V.int 5, V.int 2].length) (xs := [V.ref p3, .ref p4, .ref p5]) (v := v) ii.toNat (fun x hx => by
      simp only [List.mem_cons, List.not_mem_nil, or_false] at hx
      rcases hx with rfl | rfl | rfl
      · exact ⟨true, ju_pl (.of (k9 _ _ f3 n37)) rfl rfl rfl rfl⟩
      · exact ⟨true, ju_pl (.of (k9 _ _ f4 n47)) rfl rfl rfl rfl⟩
      · exact ⟨true, ju_pl (.of (k9 _ _ f5 n57)) rfl rfl rfl rfl⟩) (hj.same nw9)
    exact ⟨p6, _, bs, rfl, .of e9, by rw [ins_len]; simp, hbs, by rw [hb, Bool.and_false]⟩
  · walk_at "sts"
    walk_at "nw"
    rename_i p1 hp1 H1 s1 e1
    walk_at "sts"
    walk_at "nw"
    rename_i p2 hp2 H2 s2 e2
    walk_at "sts"
    walk_at "nw"
    rename_i p3 hp3 H3 s3 e3
    walk_at "sts"
    walk_at "nw"
    rename_i p4 hp4 H4 s4 e4
    walk_at "sts"
    walk_at "nw"
    rename_i p5 hp5 H5 s5 e5
    walk_at "sts"
    walk_at "nw"
    rename_i p6 hp6 H6 s6 e6
    walk_at "sts"
    walk_at "nw"
    rename_i p7 hp7 H7 s7 e7
    have x5 := s6.trans s7
    have x4 := s5.trans x5
    have x3 := s4.trans x4
    have x2 := s3.trans x3
    have x1 := s2.trans x2
    have S07 := s1.trans x1
    have hp30 := (s1.trans s2).free hp3
    have hp60 := (s1.trans (s2.trans (s3.trans (s4.trans s5)))).free hp6
    have f1 := x1 _ _ e1
    have f2 := x2 _ _ e2
    have f3 := x3 _ _ e3
    have f4 := x4 _ _ e4
    have f5 := x5 _ _ e5
    have f6 := s7 _ _ e6
    clear x1 x2 x3 x4 x5 s1 s2 s3 s4 s5 s6 s7 hp1 hp2 hp3 hp4 hp5 hp6 hp7 e1 e2 e3 e4 e5 e6
    walk_at "sts"
    obtain ⟨pg, ys, hw, hgp, hg, hgL, hgJ, hgW⟩ : ∃ (pg : Addr) (ys : List V), atI [V.ref p3, .ref p6] (way - 2) = some (.ref pg) ∧ H pg = none ∧ H7 pg = some (.lst ys) ∧ ys.length = 2 ∧ (∀ H', (∀ b o, H7 b = some o → b ≠ pg → H' b = some o) → ∀ x ∈ ys, JA K H' (if way = 2 then 3 else 4) x true) ∧ (way = 3 → ∀ H', (∀ b o, H7 b = some o → b ≠ pg → H' b = some o) → ∀ x ∈ ys, Wd K H' x true) := by
      have nL : ∀ {b xs} {pg : Addr} {ys : List V}, H7 b = some (.tup xs) → H7 pg = some (.lst ys) → b ≠ pg := fun h1 h2 z => by rw [z, h2] at h1; cases h1
      obtain rfl | rfl : way = 2 ∨ way = 3 := by omega
      · refine ⟨p3, _, rfl, hp30, f3, rfl, fun H' k x hx => ?_, fun z => absurd z (by decide)⟩
        simp only [List.mem_cons, List.not_mem_nil, or_false] at hx
        rcases hx with rfl | rfl
        · exact ja_pl (.of (k _ _ f1 (nL f1 f3))) rfl rfl rfl rfl
        · exact ja_pl (.of (k _ _ f2 (nL f2 f3))) rfl rfl rfl rfl
      · refine ⟨p6, _, rfl, hp60, f6, rfl, fun H' k x hx => ?_, fun _ H' k x hx => ?_⟩
        · simp only [List.mem_cons, List.not_mem_nil, or_false] at hx
          rcases hx with rfl | rfl
          · exact ja_pl (.of (k _ _ f4 (nL f4 f6))) rfl rfl rfl rfl
          · exact ja_pl (.of (k _ _ f5 (nL f5 f6))) rfl rfl rfl rfl
        · simp only [List.mem_cons, List.not_mem_nil, or_false] at hx
          rcases hx with rfl | rfl
          · exact wd_pl (.of (k _ _ f4 (nL f4 f6))) (.str _) (by decide +kernel) (by decide +kernel)
          · exact wd_pl (.of (k _ _ f5 (nL f5 f6))) (.str _) (by decide +kernel) (by decide +kernel)
    refine L_ixL (.of e7) hw ?_
    clear f1 f2 f3 f4 f5 f6 hp30 hp60 hw
    have fin : ∀ {v : V} {H' : Hp} {t : Addr}, Same H H' → H' t = some (.lst [v]) → JAs K H' (if way = 2 then 3 else 4) v false → Q (.ref t) H' := fun {v H' t} s e j => q t _ H' s e (by
      obtain rfl | rfl : way = 2 ∨ way = 3 := by omega
      · exact .inr (.inl ⟨rfl, v, rfl, j⟩)
      · exact .inr (.inr ⟨rfl, v, rfl, .inl j⟩))
    walk_at "sa"
    refine L_d (fun c1 => ?_) (fun c1 => ?_)
    · walk_at "sa"
      refine fun v H8 s8 _ hn => ?_
      walk_at "nw"
      rename_i p9 hp9 H9 s9 e9
      exact fin (S07.trans (s8.trans s9)) e9 (.inl ⟨rfl, (hn (by decide)).same (nw_sub.trans s9)⟩)
    walk_at "sa"
    refine L_d (fun c2 => ?_) (fun c2 => ?_)
    · walk_at "sts"
      refine L_slL (.of hg) fun p8 hp8 => ?_
      have s8 := same_newE rfl hp8 (o := .lst (cutV ys none (some 1)))
      have e8 : (upd H7 p8 (.lst (cutV ys none (some 1)))) p8 = _ := upd_same
      generalize upd H7 p8 (.lst (cutV ys none (some 1))) = H8 at s8 e8 ⊢
      obtain ⟨y1, y2, rfl⟩ : ∃ y1 y2, ys = [y1, y2] := by
        match ys, hgL with
        | [y1, y2], _ => exact ⟨y1, y2, rfl⟩
      replace e8 : H8 p8 = some (.lst [y1]) := e8
      walk_at "sts"
      refine L_repL e8 (by decide) (by decide) (sz_dec (by simp)) fun p10 hp10 => ?_
      have s10 := same_newE rfl hp10 (o := .lst (List.replicate (25 : Int).toNat [y1]).flatten)
      have e10 : (upd H8 p10 (.lst (List.replicate (25 : Int).toNat [y1]).flatten)) p10 = _ := upd_same
      generalize upd H8 p10 (.lst (List.replicate (25 : Int).toNat [y1]).flatten) = H10 at s10 e10 ⊢
      walk_at "nw"
      rename_i p11 hp11 H11 s11 e11
      have s711 := s8.trans (s10.trans s11)
      obtain ⟨bs, hbs⟩ := pr_ex (F := JA K H11 (if way = 2 then 3 else 4)) (xs := (List.replicate (25 : Int).toNat [y1]).flatten) fun x hx => by
        obtain ⟨l, hl, hxl⟩ := List.mem_flatten.mp hx
        rw [(List.mem_replicate.mp hl).2, List.mem_singleton] at hxl
        subst hxl
        exact ⟨true, hgJ H11 (fun b o hb _ => s711 _ _ hb) _ (List.mem_cons_self ..)⟩
      exact fin (S07.trans s711) e11 (.inr ⟨p10, _, bs, rfl, .of (s11 _ _ e10), by simp, hbs, rfl⟩)
    walk_at "sts"
    refine L_tyL (.of hg) ?_
    walk_at "sa"
    refine ⟨by omega, fun v H8 s8 hj => ?_⟩
    have i0 : 0 ≤ c / 4 % 3 ∧ c / 4 % 3 < 3 := by omega
    generalize c / 4 % 3 = ii at *
    refine ⟨pg, _, ii, v, rfl, rfl, s8 _ _ hg, sz_lt (by omega), i0.1, by omega, ?_⟩
    have k9 : ∀ b o, H7 b = some o → b ≠ pg → (upd H8 pg (.lst (ys.take ii.toNat ++ [v] ++ ys.drop ii.toNat))) b = some o := fun b o hb n => by rw [upd_ne n]; exact s8 _ _ hb
    have nw9 : Same (nwH H7 H8) (upd H8 pg (.lst (ys.take ii.toNat ++ [v] ++ ys.drop ii.toNat))) := nw_upd (by rw [hg]; exact fun z => nomatch z)
    have e9 : (upd H8 pg (.lst (ys.take ii.toNat ++ [v] ++ ys.drop ii.toNat))) pg = _ := upd_same
    have s9 : Same H (upd H8 pg (.lst (ys.take ii.toNat ++ [v] ++ ys.drop ii.toNat))) := same_mut (S07.trans s8) hgp
    generalize upd H8 pg (.lst (ys.take ii.toNat ++ [v] ++ ys.drop ii.toNat)) = H9 at k9 nw9 e9 s9 ⊢
    walk_at "sts"
    walk_at "nw"
    rename_i p10 hp10 H10 s10 e10
    have k10 : ∀ b o, H7 b = some o → b ≠ pg → H10 b = some o := fun b o hb n => s10 _ _ (k9 _ _ hb n)
    have hj10 := hj.same (nw9.trans s10)
    have e10g := s10 _ _ e9
    have hlen : (ys.take ii.toNat ++ [v] ++ ys.drop ii.toNat).length ≤ 1000 := by rw [ins_len]; omega
    obtain rfl | rfl : way = 2 ∨ way = 3 := by omega
    · obtain ⟨bs, hbs, hb⟩ := ins_pr (F := JA K H10 3) ii.toNat (fun x hx => ⟨true, hgJ H10 k10 x hx⟩) (hj10.1 rfl)
      exact fin (s9.trans s10) e10 (.inr ⟨pg, _, bs, rfl, .of e10g, hlen, hbs, by rw [hb, Bool.and_false]⟩)
    · rcases hj10.2 rfl with hj4 | ⟨hj4, hw4⟩
      · obtain ⟨bs, hbs, hb⟩ := ins_pr (F := JA K H10 4) ii.toNat (fun x hx => ⟨true, hgJ H10 k10 x hx⟩) hj4
        exact fin (s9.trans s10) e10 (.inr ⟨pg, _, bs, rfl, .of e10g, hlen, hbs, by rw [hb, Bool.and_false]⟩)
      · obtain ⟨bs, hbs, hb⟩ := ins_pr (F := Wd K H10) ii.toNat (fun x hx => ⟨true, hgW rfl H10 k10 x hx⟩) hw4
        have hall := pr_all (F := JA K H10 4) (xs := ys.take ii.toNat ++ [v] ++ ys.drop ii.toNat) fun x hx => by
          rcases ins_mem hx with hx | rfl
          · exact hgJ H10 k10 x hx
          · exact hj4
        refine q p10 _ H10 (s9.trans s10) e10 (.inr (.inr ⟨rfl, _, rfl, .inr ⟨.inr ⟨pg, _, _, rfl, .of e10g, hlen, hall, ?_⟩, pg, _, bs, rfl, .of e10g, hlen, hbs, hb⟩⟩))
        rw [decide_eq_false (by rw [ins_len]; omega), List.all_map, show (ys.take ii.toNat ++ [v] ++ ys.drop ii.toNat).all (id ∘ fun _ => true) = true from List.all_eq_true.mpr fun _ _ => rfl]
        rfl
theorem BadT.same {K : PySem.W.Frag} {H H' : Hp} {way : Int} {xs : List V} (h : BadT K H way xs) (s : Same H H') : BadT K H' way xs := by
  rcases h with ⟨h0, r, c, u, br, bc, bu, h1, h2, h3⟩ | ⟨h0, v, h1, h2⟩ | ⟨h0, v, h1, h2⟩
  · exact .inl ⟨h0, r, c, u, br, bc, bu, h1, h2.same s, h3⟩
  · exact .inr (.inl ⟨h0, v, h1, h2.same s⟩)
  · exact .inr (.inr ⟨h0, v, h1, h2.imp (fun h => h.same s) fun h => h.same s⟩)
theorem GoodT.same {K : PySem.W.Frag} {H H' : Hp} {way : Int} {xs : List V} (h : GoodT K H way xs) (s : Same H H') : GoodT K H' way xs := by
  rcases h with ⟨h0, pr, pc, pu, uv, rows, cols, us, h1, h2, h3, h4, h5⟩ | ⟨h0, a, rows, h1, h2, h3⟩ | ⟨h0, a, us, rows, h1, h2, h3, h4⟩
  · exact .inl ⟨h0, pr, pc, pu, uv, rows, cols, us, h1, h2.same s, s _ _ h3, s _ _ h4, s _ _ h5⟩
  · exact .inr (.inl ⟨h0, a, rows, h1, h2.same s, h3⟩)
  · exact .inr (.inr ⟨h0, a, us, rows, h1, s.seq h2, h3.same s, h4⟩)
theorem dpa_rep {K : PySem.W.Frag} {H : Hp} {vs : List V} {ds : List PyData} (h : DpAll K H vs ds) : ∀ n : Nat, DpAll K H (List.replicate n vs).flatten (List.replicate n ds).flatten
  | 0 => .nil
  | n + 1 => by
    rw [List.replicate_succ, List.replicate_succ, List.flatten_cons, List.flatten_cons]
    exact h.app (dpa_rep h n)
theorem paired_rep {α β : Type} {F : α → β → Prop} {xs : List α} {ys : List β} (h : Paired F xs ys) : ∀ n : Nat, Paired F (List.replicate n xs).flatten (List.replicate n ys).flatten
  | 0 => .nil
  | n + 1 => by
    rw [List.replicate_succ, List.replicate_succ, List.flatten_cons, List.flatten_cons]
    exact paired_app h (paired_rep h n)
theorem rep_mapD {α β : Type} (f : α → β) (xs : List α) : ∀ n : Nat, (List.replicate n (xs.map f)).flatten = ((List.replicate n xs).flatten).map f
  | 0 => rfl
  | n + 1 => by rw [List.replicate_succ, List.replicate_succ, List.flatten_cons, List.flatten_cons, List.map_append, rep_mapD f xs n]
theorem rep_memD {α : Type} {xs : List α} {n : Nat} {x : α} (h : x ∈ (List.replicate n xs).flatten) : x ∈ xs := by
  obtain ⟨l, hl, hx⟩ := List.mem_flatten.mp h
  rw [(List.mem_replicate.mp hl).2] at hx
  exact hx
def OkU' (u : UN) (nr nc : Nat) : Prop := (0 ≤ u.1 ∧ u.1 < (nr : Int)) ∧ (0 ≤ u.2.1 ∧ u.2.1 < (nc : Int)) ∧ 0 ≤ u.2.2.1 ∧ u.2.2.1 ≤ u.2.2.2 ∧ u.2.2.2 ≤ 1000000
theorem okUs_of' {us : List UN} {nr nc : Nat} (h : ∀ u ∈ us, OkU' u nr nc) : OkUs us nr nc := fun i hi => by
  rw [List.getD_eq_getElem?_getD, List.getElem?_eq_getElem hi]
  exact h _ (List.getElem_mem hi)
def sp__law_good (K : PySem.W.Frag) (mg : Str → Option Value) : Sp := fun vs H Q _ => match vs with | [.int way, .bl edge] => 0 ≤ way ∧ way ≤ 3 ∧ ∀ t xs H', Same H H' → H' t = some (.lst xs) → GoodT K H' way xs → Q (.ref t) H' | _ => False
theorem q__law_good {H : Hp} {Q : VK} {E : XK} {way : Int} {edge : Bool} (q : 0 ≤ way ∧ way ≤ 3 ∧ ∀ t xs H', Same H H' → H' t = some (.lst xs) → GoodT K H' way xs → Q (.ref t) H') : sp__law_good K mg [.int way, .bl edge] H Q E := q
local macro_rules | `(tactic| walk_at "op") => `(tactic| with_reducible refine q__law_good ?_)
theorem c__law_good (T : Txt K mg) : Cal P w K mg base 1 "_law_good" (sp__law_good K mg) := by
  refine T.d__law_good.cal (k := 0) sc__law_good (by intro vs H Q E h; unfold sp__law_good at h; split at h <;> first | rfl | exact h.elim) fun f cdv A outer s H vs Q E hr h => ?_
  refine ⟨_, (pss_cons (ps_if (PW.pt (pw_and (pt_val (pv 1)) (pw_and1 (pt_cmpR op_ltA (pv 0) pe_int (nomark _)))))
    (pss_cons (ps_set (i := 2) sc__law_good.nd rfl (.inl rfl) (pe_op op_mulA (pe_lst (pa_cons (pe_tup (pa_cons pe_int (pa_cons pe_int (pa_cons pe_int (pa_cons pe_int pa_nil))))) (pa_cons (pe_tup (pa_cons pe_int (pa_cons pe_int (pa_cons pe_int (pa_cons pe_int pa_nil))))) pa_nil))) pe_int))
    (pss_one (ps_ret (pe_lst (pa_cons (pe_lst (pa_cons pe_int (pa_cons pe_int (pa_cons pe_int (pa_cons pe_int (pa_cons pe_int (pa_cons pe_int pa_nil))))))) (pa_cons (pe_lst (pa_cons pe_int (pa_cons pe_int (pa_cons pe_int (pa_cons pe_int (pa_cons pe_int (pa_cons pe_int pa_nil))))))) (pa_cons (pv 2) pa_nil)))))))
    pss_nil)
    (pss_cons (ps_if (pt_val (pv 1))
    (pss_cons (ps_set (i := 3) sc__law_good.nd rfl (.inl rfl) (pe_op op_pow pe_int pe_int))
    (pss_cons (ps_set (i := 4) sc__law_good.nd rfl (.inl rfl) (pe_lst (pa_cons (pe_tup (pa_cons pe_int (pa_cons (pe_op op_sub pe_int (pv 3)) (pa_cons (pv 3) pa_nil)))) (pa_cons (pe_tup (pa_cons pe_int (pa_cons (pv 3) (pa_cons (pv 3) pa_nil)))) (pa_cons (pe_tup (pa_cons pe_int (pa_cons (pe_op op_sub pe_int (pv 3)) (pa_cons (pe_op op_sub pe_int (pv 3)) pa_nil)))) pa_nil)))))
    (pss_one (ps_ret (pe_lst (pa_cons (pe_ix ix_seq (pe_lst (pa_cons (pe_op op_mulA (pv 4) pe_int) (pa_cons (pe_op op_mulA (pe_lc (own := [("_law_one", 5)]) (g := (gName 5)) (tt := tYes) (te := (tOp (aAdd K) (tVar 5) (tTup (tCons (tC (.str "open")) tNil)))) rfl sc__law_good.nd (pi_list (pv 4)) (blkOk_by (N := ["_law_way", "_law_edge", "_law_units", "_law_far", "_law_some", "_law_one"]) (sc := defScope s__law_good) (by decide +kernel)) (fun _ _ _ _ _ => by exact (pg_name (i := 5) sc__law_good.nd rfl (.inl rfl))) (fun _ _ _ _ _ => pts_nil) (fun _ _ _ _ _ => by exact (pe_op op_addA (pv 5) (pe_tup (pa_cons pe_str pa_nil))))) pe_int) pa_nil))) (pe_op op_sub (pv 0) pe_int) (fun _ _ => rfl)) pa_nil))))))
    pss_nil)
    (pss_cons (ps_if (pt_cmpR op_ltA (pv 0) pe_int (nomark _))
    (pss_one (ps_ret (pe_lst (pa_cons (pe_lst (pa_cons pe_int (pa_cons pe_int pa_nil))) (pa_cons (pe_lst (pa_cons pe_int (pa_cons pe_int pa_nil))) (pa_cons (pe_lst (pa_cons (pe_tup (pa_cons pe_int (pa_cons pe_int (pa_cons pe_int (pa_cons pe_int pa_nil))))) (pa_cons (pe_tup (pa_cons pe_int (pa_cons pe_int (pa_cons pe_int (pa_cons pe_int pa_nil))))) (pa_cons (pe_tup (pa_cons pe_int (pa_cons pe_int (pa_cons pe_int (pa_cons pe_int pa_nil))))) pa_nil)))) pa_nil))))))
    pss_nil)
    (pss_one (ps_ret (pe_lst (pa_cons (pe_ix ix_seq (pe_lst (pa_cons (pe_lst (pa_cons (pe_tup (pa_cons pe_int (pa_cons (pe_un un_neg pe_int) (pa_cons pe_int pa_nil)))) (pa_cons (pe_tup (pa_cons pe_int (pa_cons pe_int (pa_cons pe_int pa_nil)))) pa_nil))) (pa_cons (pe_lst (pa_cons (pe_tup (pa_cons pe_int (pa_cons (pe_un un_neg pe_int) (pa_cons pe_int (pa_cons pe_str pa_nil))))) (pa_cons (pe_tup (pa_cons pe_int (pa_cons pe_int (pa_cons pe_int (pa_cons pe_str pa_nil))))) (pa_cons (pe_tup (pa_cons pe_int (pa_cons pe_int (pa_cons pe_int (pa_cons pe_str pa_nil))))) pa_nil)))) pa_nil))) (pe_op op_sub (pv 0) pe_int) (fun _ _ => rfl)) pa_nil))))))), ?_⟩
  try simp only [cxOf_K, cxOf_K', cxOf_mg, cxOf_mg']
  unfold sp__law_good at h
  split at h
  case h_2 => exact h.elim
  rename_i way edge
  rw [show L2.start ["_law_way", "_law_edge", "_law_units", "_law_far", "_law_some", "_law_one"] [V.int way, V.bl edge] = [some (V.int way), some (V.bl edge), none, none, none, none] from rfl]
  obtain ⟨w0, w3, q⟩ := h
  cases edge
  · walk_at "sts"
    refine L_d (fun cw => ?_) (fun cw => ?_)
    · walk_at "sts"
      walk_at "nw"
      rename_i p1 hp1 H1 s1 e1
      walk_at "sts"
      walk_at "nw"
      rename_i p2 hp2 H2 s2 e2
      walk_at "sts"
      walk_at "nw"
      rename_i p3 hp3 H3 s3 e3
      walk_at "sts"
      walk_at "nw"
      rename_i p4 hp4 H4 s4 e4
      walk_at "sts"
      walk_at "nw"
      rename_i p5 hp5 H5 s5 e5
      walk_at "sts"
      walk_at "nw"
      rename_i p6 hp6 H6 s6 e6
      walk_at "sts"
      walk_at "nw"
      rename_i p7 hp7 H7 s7 e7
      have x5 := s6.trans s7
      have x4 := s5.trans x5
      have x3 := s4.trans x4
      have x2 := s3.trans x3
      have x1 := s2.trans x2
      have f1 : H7 p1 = some (.lst ([3, 4].map V.int)) := x1 _ _ e1
      have f2 : H7 p2 = some (.lst ([5, 2].map V.int)) := x2 _ _ e2
      refine q p7 _ H7 (s1.trans x1) e7 (.inl ⟨cw, p1, p2, p6, _, [3, 4], [5, 2], [(0, 0, 1, 4), (1, 0, 0, 9), (1, 1, 2, 2)], rfl, ⟨rfl, rfl, rfl, .of f1, .of f2, .of (s7 _ _ e6), .cons ⟨p3, rfl, .of (x3 _ _ e3)⟩ (.cons ⟨p4, rfl, .of (x4 _ _ e4)⟩ (.cons ⟨p5, rfl, .of (x5 _ _ e5)⟩ .nil)), by decide, by decide, by decide, by decide, by decide, okUs_of' (by unfold OkU'; decide)⟩, f1, f2, s7 _ _ e6⟩)
    · walk_at "sts"
      walk_at "nw"
      rename_i p1 hp1 H1 s1 e1
      walk_at "sts"
      walk_at "nw"
      rename_i p2 hp2 H2 s2 e2
      walk_at "sts"
      walk_at "nw"
      rename_i p3 hp3 H3 s3 e3
      walk_at "sts"
      walk_at "nw"
      rename_i p4 hp4 H4 s4 e4
      walk_at "sts"
      walk_at "nw"
      rename_i p5 hp5 H5 s5 e5
      walk_at "sts"
      walk_at "nw"
      rename_i p6 hp6 H6 s6 e6
      walk_at "sts"
      walk_at "nw"
      rename_i p7 hp7 H7 s7 e7
      walk_at "sts"
      walk_at "nw"
      rename_i p8 hp8 H8 s8 e8
      have x7 := s8
      have x6 := s7.trans x7
      have x5 := s6.trans x6
      have x4 := s5.trans x5
      have x3 := s4.trans x4
      have x2 := s3.trans x3
      have x1 := s2.trans x2
      have x0 := s1.trans x1
      walk_at "sts"
      obtain rfl | rfl : way = 2 ∨ way = 3 := by omega
      · refine L_ixL (.of e8) (atI_int (by decide) rfl) ?_
        walk_at "sts"
        walk_at "nw"
        rename_i p9 hp9 H9 s9 e9
        exact q p9 _ H9 (x0.trans s9) e9 (.inr (.inl ⟨rfl, p3, [(3, -5, 5), (1, 0, 0)], rfl, .lst (.of ((x3.trans s9) _ _ e3)) (.cons (.tup (.of ((x1.trans s9) _ _ e1)) (.cons (.int _) (.cons (.int _) (.cons (.int _) .nil)))) (.cons (.tup (.of ((x2.trans s9) _ _ e2)) (.cons (.int _) (.cons (.int _) (.cons (.int _) .nil)))) .nil)), by decide, by unfold Ok3; decide⟩))
      · refine L_ixL (.of e8) (atI_int (by decide) rfl) ?_
        walk_at "sts"
        walk_at "nw"
        rename_i p9 hp9 H9 s9 e9
        refine q p9 _ H9 (x0.trans s9) e9 (.inr (.inr ⟨rfl, p7, _, [(3, -5, 5, "yes"), (1, 0, 0, "open"), (2, 2, 2, "no")], rfl, .of ((x7.trans s9) _ _ e7), .cons (.tup (.of ((x4.trans s9) _ _ e4)) (.cons (.int _) (.cons (.int _) (.cons (.int _) (.cons (.str _) .nil))))) (.cons (.tup (.of ((x5.trans s9) _ _ e5)) (.cons (.int _) (.cons (.int _) (.cons (.int _) (.cons (.str _) .nil))))) (.cons (.tup (.of ((x6.trans s9) _ _ e6)) (.cons (.int _) (.cons (.int _) (.cons (.int _) (.cons (.str _) .nil))))) .nil)), by decide, fun r hr => ?_⟩))
        simp only [List.mem_cons, List.not_mem_nil, or_false] at hr
        rcases hr with rfl | rfl | rfl
        · exact ⟨by decide, by decide, by decide, by decide, by decide, .inl rfl⟩
        · exact ⟨by decide, by decide, by decide, by decide, by decide, .inr (.inr rfl)⟩
        · exact ⟨by decide, by decide, by decide, by decide, by decide, .inr (.inl rfl)⟩
  · walk_at "sts"
    refine L_d (fun cw => ?_) (fun cw => ?_)
    · walk_at "sts"
      walk_at "nw"
      rename_i p1 hp1 H1 s1 e1
      walk_at "sts"
      walk_at "nw"
      rename_i p2 hp2 H2 s2 e2
      walk_at "sts"
      walk_at "nw"
      rename_i p3 hp3 H3 s3 e3
      walk_at "sts"
      refine L_repL e3 (by decide) (by decide) (sz_dec (by simp)) fun p4 hp4 => ?_
      have s4 := same_newE rfl hp4 (o := .lst (List.replicate (12 : Int).toNat [V.ref p1, .ref p2]).flatten)
      have e4 : (upd H3 p4 (.lst (List.replicate (12 : Int).toNat [V.ref p1, .ref p2]).flatten)) p4 = _ := upd_same
      generalize upd H3 p4 (.lst (List.replicate (12 : Int).toNat [V.ref p1, .ref p2]).flatten) = H4 at s4 e4 ⊢
      walk_at "sts"
      walk_at "nw"
      rename_i p5 hp5 H5 s5 e5
      walk_at "sts"
      walk_at "nw"
      rename_i p6 hp6 H6 s6 e6
      walk_at "sts"
      walk_at "nw"
      rename_i p7 hp7 H7 s7 e7
      have x5 := s6.trans s7
      have x4 := s5.trans x5
      have x3 := s4.trans x4
      have x2 := s3.trans x3
      have x1 := s2.trans x2
      have f5 : H7 p5 = some (.lst ([24000000, 0, 0, 0, 0, 24000000].map V.int)) := x5 _ _ e5
      have f6 : H7 p6 = some (.lst ([0, 24000000, 0, 0, 0, 0].map V.int)) := s7 _ _ e6
      have f4 := x4 _ _ e4
      refine q p7 _ H7 (s1.trans x1) e7 (.inl ⟨cw, p5, p6, p4, _, [24000000, 0, 0, 0, 0, 24000000], [0, 24000000, 0, 0, 0, 0], (List.replicate (12 : Int).toNat [((0, 5, 0, 1000000) : UN), (5, 0, 1000000, 1000000)]).flatten, rfl, ⟨rfl, rfl, rfl, .of f5, .of f6, .of f4, paired_rep (.cons ⟨p1, rfl, .of (x1 _ _ e1)⟩ (.cons ⟨p2, rfl, .of (x2 _ _ e2)⟩ .nil)) _, by decide, by decide, by decide, by decide, by decide, okUs_of' fun u hu => ?_⟩, f5, f6, f4⟩)
      have hm := rep_memD hu
      simp only [List.mem_cons, List.not_mem_nil, or_false] at hm
      rcases hm with rfl | rfl <;> (unfold OkU'; decide)
    · walk_at "sa"
      walk_at "nw"
      rename_i p1 hp1 H1 s1 e1
      walk_at "sts"
      walk_at "nw"
      rename_i p2 hp2 H2 s2 e2
      walk_at "sts"
      walk_at "nw"
      rename_i p3 hp3 H3 s3 e3
      walk_at "sts"
      walk_at "nw"
      rename_i p4 hp4 H4 s4 e4
      have S4 := s1.trans (s2.trans (s3.trans s4))
      have hA4 : DpAll K H4 [V.ref p1, .ref p2, .ref p3] ([((1000000, 0 - 1000000000, 1000000000) : R3), (1, 1000000000, 1000000000), (1, 0 - 1000000000, 0 - 1000000000)].map d3) := .cons (.tup (.of ((s2.trans (s3.trans s4)) _ _ e1)) (.cons (.int _) (.cons (.int _) (.cons (.int _) .nil)))) (.cons (.tup (.of ((s3.trans s4) _ _ e2)) (.cons (.int _) (.cons (.int _) (.cons (.int _) .nil)))) (.cons (.tup (.of (s4 _ _ e3)) (.cons (.int _) (.cons (.int _) (.cons (.int _) .nil)))) .nil))
      have ok3 : ∀ r ∈ [((1000000, 0 - 1000000000, 1000000000) : R3), (1, 1000000000, 1000000000), (1, 0 - 1000000000, 0 - 1000000000)], Ok3 r := by unfold Ok3; decide
      have l3 : [((1000000, 0 - 1000000000, 1000000000) : R3), (1, 1000000000, 1000000000), (1, 0 - 1000000000, 0 - 1000000000)].length = 3 := rfl
      generalize [((1000000, 0 - 1000000000, 1000000000) : R3), (1, 1000000000, 1000000000), (1, 0 - 1000000000, 0 - 1000000000)] = rows at *
      have hul : [V.ref p1, .ref p2, .ref p3].length = 3 := rfl
      generalize [V.ref p1, .ref p2, .ref p3] = us at *
      clear s1 s2 s3 s4 e1 e2 e3 hp1 hp2 hp3
      walk_at "sts"
      refine L_repL e4 (by decide) (by decide) (sz_dec (by rw [hul]; decide)) fun p5 hp5 => ?_
      have s5 := same_newE rfl hp5 (o := .lst (List.replicate (8 : Int).toNat us).flatten)
      have e5 : (upd H4 p5 (.lst (List.replicate (8 : Int).toNat us).flatten)) p5 = _ := upd_same
      generalize upd H4 p5 (.lst (List.replicate (8 : Int).toNat us).flatten) = H5 at s5 e5 ⊢
      walk_at "sts"
      have hA5 := hA4.same s5
      refine L_rl (.of (s5 _ _ e4)) ?_
      refine lc_dp (K := K) walk_list (fun i => (rows[i]?).map fun r => d4 (r.1, r.2.1, r.2.2, "open")) (by omega) (fun H' e => .of (e _ _ (s5 _ _ e4))) ?_ ?_
      · rintro j x2 p0 H6 H6' R1 R2 hj np s6 ⟨o, ho⟩ ⟨e, hx⟩ r1 r2
        subst e
        obtain ⟨r, t, hr, rfl, ht, _⟩ := hit3 hA5 ok3 hx
        walk_at "sts"
        refine ⟨rfl, ?_⟩
        walk_at "sts"
        walk_at "nw"
        rename_i p7 hp7 H7 s7 e7
        refine L_catA ((s6.trans s7).seqT ht) (.of e7) (by simp) (by simp) (sz_dec (by simp)) fun p8 hp8 => ?_
        have s8 := same_newE rfl hp8 (o := .tup ([V.int r.1, .int r.2.1, .int r.2.2] ++ [V.str "open"]))
        exact r1 _ _ _ (by rw [hr]; rfl) (s7.trans s8) (dp_tupN upd_same (ne_new hp8 ⟨_, s7 _ _ ho⟩) (.cons (.int _) (.cons (.int _) (.cons (.int _) (.cons (.str _) .nil)))))
      intro p6 H6 us6 hp6 s6 e6 d6
      rw [hul, ← l3, fm_get] at d6
      have d6 : DpAll K H6 us6 ((rows.map fun r => ((r.1, r.2.1, r.2.2, "open") : R4)).map d4) := by rw [List.map_map]; exact d6.same rs_sub
      have hu6 := d6.len
      rw [List.length_map, List.length_map] at hu6
      walk_at "sts"
      refine L_repL e6 (by decide) (by decide) (sz_dec (by rw [hu6, l3]; decide)) fun p7 hp7 => ?_
      have s7 := same_newE rfl hp7 (o := .lst (List.replicate (8 : Int).toNat us6).flatten)
      have e7 : (upd H6 p7 (.lst (List.replicate (8 : Int).toNat us6).flatten)) p7 = _ := upd_same
      generalize upd H6 p7 (.lst (List.replicate (8 : Int).toNat us6).flatten) = H7 at s7 e7 ⊢
      walk_at "sts"
      walk_at "nw"
      rename_i p8 hp8 H8 s8 e8
      walk_at "sts"
      obtain rfl | rfl : way = 2 ∨ way = 3 := by omega
      · refine L_ixL (.of e8) (atI_int (by decide) rfl) ?_
        walk_at "sts"
        walk_at "nw"
        rename_i p9 hp9 H9 s9 e9
        have s59 := s6.trans (s7.trans (s8.trans s9))
        refine q p9 _ H9 (S4.trans (s5.trans s59)) e9 (.inr (.inl ⟨rfl, p5, (List.replicate (8 : Int).toNat rows).flatten, rfl, .lst (.of (s59 _ _ e5)) (by rw [← rep_mapD]; exact dpa_rep (hA5.same s59) _), by rw [rep_len, l3]; decide, fun r hr => ok3 r (rep_memD hr)⟩))
      · refine L_ixL (.of e8) (atI_int (by decide) rfl) ?_
        walk_at "sts"
        walk_at "nw"
        rename_i p9 hp9 H9 s9 e9
        have s79 := s8.trans s9
        refine q p9 _ H9 (S4.trans (s5.trans (s6.trans (s7.trans s79)))) e9 (.inr (.inr ⟨rfl, p7, _, (List.replicate (8 : Int).toNat (rows.map fun r => ((r.1, r.2.1, r.2.2, "open") : R4))).flatten, rfl, .of (s79 _ _ e7), by rw [← rep_mapD]; exact dpa_rep (d6.same (s7.trans s79)) _, by rw [rep_len, List.length_map, l3]; decide, fun r hr => ?_⟩))
        obtain ⟨r3, h3, rfl⟩ := List.mem_map.mp (rep_memD hr)
        obtain ⟨o1, o2, o3, o4, o5⟩ := ok3 r3 h3
        exact ⟨o1, o2, o3, o4, o5, .inr (.inr rfl)⟩
def sp__law_kind (K : PySem.W.Frag) (mg : Str → Option Value) : Sp := fun vs H Q _ => match vs with | [.int way, .ref t] => 0 ≤ way ∧ way ≤ 3 ∧ ∃ xs, SqL K H t xs ∧ ((BadT K H way xs ∧ ∀ p H', Same H H' → H' p = some (.lst [.bl (decide (way < 2)), .bl (!decide (way < 2))]) → Q (.ref p) H') ∨ (GoodT K H way xs ∧ ∀ p H', Same H H' → H' p = some (.lst []) → Q (.ref p) H')) | _ => False
theorem q__law_kind {H : Hp} {Q : VK} {E : XK} {way : Int} {t : Addr} (q : 0 ≤ way ∧ way ≤ 3 ∧ ∃ xs, SqL K H t xs ∧ ((BadT K H way xs ∧ ∀ p H', Same H H' → H' p = some (.lst [.bl (decide (way < 2)), .bl (!decide (way < 2))]) → Q (.ref p) H') ∨ (GoodT K H way xs ∧ ∀ p H', Same H H' → H' p = some (.lst []) → Q (.ref p) H'))) : sp__law_kind K mg [.int way, .ref t] H Q E := q
local macro_rules | `(tactic| walk_at "op") => `(tactic| with_reducible refine q__law_kind ?_)
theorem c__law_kind (T : Txt K mg) : Cal P w K mg base 5 "_law_kind" (sp__law_kind K mg) := by
  refine T.d__law_kind.cal (k := 4) sc__law_kind (by intro vs H Q E h; unfold sp__law_kind at h; split at h <;> first | rfl | exact h.elim) fun f cdv A outer s H vs Q E hr h => ?_
  refine ⟨_, (pss_cons (ps_set (i := 2) sc__law_kind.nd rfl (.inl rfl) (pe_lst pa_nil))
    (pss_cons (ps_try_asT (i := 3) (tb := fun W => (tIfS (tTest (tOp (aEq K) (tVar 0) (tC (.int 0)))) (tDrop (tCallS (sp_led K mg) (fun σ => WE W σ) (tCons (tOp (rIx K) (tVar 1) (tC (.int 0))) (tCons (tOp (rIx K) (tVar 1) (tC (.int 1))) (tCons (tOp (rIx K) (tVar 1) (tC (.int 2))) tNil))))) (tIfS (tTest (tOp (aEq K) (tVar 0) (tC (.int 1)))) (tDrop (tCallS (sp_is_led K mg) (fun σ => WE W σ) (tCons (tOp (rIx K) (tVar 1) (tC (.int 0))) (tCons (tOp (rIx K) (tVar 1) (tC (.int 1))) (tCons (tOp (rIx K) (tVar 1) (tC (.int 2))) (tCons (tTup (tCons (tC (.str "weights")) (tCons (tLst tNil) tNil))) tNil)))))) (tIfS (tTest (tOp (aEq K) (tVar 0) (tC (.int 2)))) (tDrop (tCallS (sp_total_stretch K mg) (fun σ => WE W σ) (tCons (tOp (rIx K) (tVar 1) (tC (.int 0))) tNil))) (tDrop (tCallS (sp_mean_stretch K mg) (fun σ => WE W σ) (tCons (tOp (rIx K) (tVar 1) (tC (.int 0))) tNil))))))) (ts := fun xa xcls xd => (tAsg (tLst (tCons (tCB (rIsS K xa xcls xd) (tCons (tVar 3) (tCons (tC (.ref (cA mg "NoBounds"))) tNil))) (tCons (tCB (rIsS K xa xcls xd) (tCons (tVar 3) (tCons (tC (.ref (cA mg "NoAnswers"))) tNil))) tNil))) (gName 2))) rfl rfl sc__law_kind.nd rfl rfl rfl ⟨rfl, by decide, .inl T.m_SpeakError⟩ takes0 (fun W pn xe tk po => by exact (pss_one (ps_if (pt_cmpR (op_eqA hr) (pv 0) pe_int (nomark _))
    (pss_one (ps_expr (pe_xS (c_led T) hr (by decide) (by rfl) (fun σ => passAt tk σ) (pa_cons (pe_ix ix_seq (pv 1) pe_int (fun _ _ => rfl)) (pa_cons (pe_ix ix_seq (pv 1) pe_int (fun _ _ => rfl)) (pa_cons (pe_ix ix_seq (pv 1) pe_int (fun _ _ => rfl)) pa_nil))))))
    (pss_one (ps_if (pt_cmpR (op_eqA hr) (pv 0) pe_int (nomark _))
    (pss_one (ps_expr (pe_xS (c_is_led T) hr (by decide) (by rfl) (fun σ => passAt tk σ) (pa_cons (pe_ix ix_seq (pv 1) pe_int (fun _ _ => rfl)) (pa_cons (pe_ix ix_seq (pv 1) pe_int (fun _ _ => rfl)) (pa_cons (pe_ix ix_seq (pv 1) pe_int (fun _ _ => rfl)) (pa_cons (pe_tup (pa_cons pe_str (pa_cons (pe_lst pa_nil) pa_nil))) pa_nil)))))))
    (pss_one (ps_if (pt_cmpR (op_eqA hr) (pv 0) pe_int (nomark _))
    (pss_one (ps_expr (pe_xS (c_total_stretch T) hr (by decide) (by rfl) (fun σ => passAt tk σ) (pa_cons (pe_ix ix_seq (pv 1) pe_int (fun _ _ => rfl)) pa_nil))))
    (pss_one (ps_expr (pe_xS (c_mean_stretch T) hr (by decide) (by rfl) (fun σ => passAt tk σ) (pa_cons (pe_ix ix_seq (pv 1) pe_int (fun _ _ => rfl)) pa_nil))))))))))) (fun a oe cls d pn hz hf => by exact (pss_one (ps_set (i := 2) sc__law_kind.nd rfl (.inl rfl) (pe_lst (pa_cons (pe_callB (call_isS hz hf) (by rfl) T.n_isinstance (by decide +kernel) (pa_cons (pv 3) (pa_cons (pe_glob (v := .ref (cA mg "NoBounds")) (by rfl) T.m_NoBounds rfl) pa_nil))) (pa_cons (pe_callB (call_isS hz hf) (by rfl) T.n_isinstance (by decide +kernel) (pa_cons (pv 3) (pa_cons (pe_glob (v := .ref (cA mg "NoAnswers")) (by rfl) T.m_NoAnswers rfl) pa_nil))) pa_nil)))))))
    (pss_one (ps_ret (pv 2))))), ?_⟩
  try simp only [cxOf_K, cxOf_K', cxOf_mg, cxOf_mg']
  unfold sp__law_kind at h
  split at h
  case h_2 => exact h.elim
  rename_i way t
  rw [show L2.start ["_law_way", "_law_things", "_law_kinds", "e"] [V.int way, V.ref t] = [some (V.int way), some (V.ref t), none, none] from rfl]
  obtain ⟨w0, w3, xs, hL, h⟩ := h
  walk_at "sts"
  walk_at "nw"
  rename_i p1 hp1 H1 s1 e1
  walk_at "sts"
  have hL1 := s1.seq hL
  rcases h with ⟨hB, q⟩ | ⟨hG, q⟩
  · rcases hB.same s1 with ⟨h0, r, c, u, br, bc, bu, rfl, h2, h3⟩ | ⟨rfl, v, rfl, h2⟩ | ⟨rfl, v, rfl, h2⟩
    · rw [decide_eq_true h0] at q
      obtain rfl | rfl : way = 0 ∨ way = 1 := by omega
      · clear w0 w3
        walk_at "sts"
        refine L_dT rfl ?_
        walk_at "sts"
        refine L_ixL hL1 (atI_int (by decide) rfl) ?_
        walk_at "sts"
        refine L_ixL hL1 (atI_int (by decide) rfl) ?_
        walk_at "sts"
        refine L_ixL hL1 (atI_int (by decide) rfl) ?_
        walk_at "sts"
        refine .inl ⟨br, bc, bu, h2, h3, fun H2 s2 => ?_⟩
        refine L_asT (T.y_SpeakError.exm T.e_NoBounds_SpeakError) fun a na => ?_
        walk_at "sts"
        refine L_isS (fun dd z => nomatch z) T.z_NoBounds (.own _) (kit_ref T.e_NoBounds_NoBounds T.y_NoBounds T.e_NoBounds_NoBounds) ?_
        walk_at "sts"
        refine L_isS (fun dd z => nomatch z) T.z_NoBounds (.own _) (kit_ref T.e_NoBounds_NoBounds T.y_NoAnswers T.e_NoBounds_NoAnswers) ?_
        walk_at "sts"
        walk_at "nw"
        rename_i p4 hp4 H4 s4 e4
        walk_at "sts"
        intro na2
        walk_at "sts"
        exact q p4 _ (s1.trans ((s2.trans s4).trans (same_new na2))) (same_new na2 _ _ e4)
      · clear w0 w3
        walk_at "sts"
        refine L_dF (by decide) ?_
        walk_at "sts"
        refine L_dT rfl ?_
        walk_at "sts"
        refine L_ixL hL1 (atI_int (by decide) rfl) ?_
        walk_at "sts"
        refine L_ixL hL1 (atI_int (by decide) rfl) ?_
        walk_at "sts"
        refine L_ixL hL1 (atI_int (by decide) rfl) ?_
        walk_at "sts"
        walk_at "nw"
        rename_i p5 hp5 H5 s5 e5
        walk_at "sts"
        walk_at "nw"
        rename_i p6 hp6 H6 s6 e6
        walk_at "sts"
        refine .inl ⟨br, bc, bu, h2.same (s5.trans s6), h3, fun H2 s2 => ?_⟩
        refine L_asT (T.y_SpeakError.exm T.e_NoBounds_SpeakError) fun a na => ?_
        walk_at "sts"
        refine L_isS (fun dd z => nomatch z) T.z_NoBounds (.own _) (kit_ref T.e_NoBounds_NoBounds T.y_NoBounds T.e_NoBounds_NoBounds) ?_
        walk_at "sts"
        refine L_isS (fun dd z => nomatch z) T.z_NoBounds (.own _) (kit_ref T.e_NoBounds_NoBounds T.y_NoAnswers T.e_NoBounds_NoAnswers) ?_
        walk_at "sts"
        walk_at "nw"
        rename_i p4 hp4 H4 s4 e4
        walk_at "sts"
        intro na2
        walk_at "sts"
        exact q p4 _ (s1.trans (((s5.trans (s6.trans s2)).trans s4).trans (same_new na2))) (same_new na2 _ _ e4)
    · clear w0 w3
      rw [decide_eq_false (by decide)] at q
      walk_at "sts"
      refine L_dF (by decide) ?_
      walk_at "sts"
      refine L_dF (by decide) ?_
      walk_at "sts"
      refine L_dT rfl ?_
      walk_at "sts"
      refine L_ixL hL1 (atI_int (by decide) rfl) ?_
      walk_at "sts"
      refine .inl ⟨h2, ?_⟩
      refine L_asT (T.y_SpeakError.exm T.e_NoAnswers_SpeakError) fun a na => ?_
      walk_at "sts"
      refine L_isS (fun dd z => nomatch z) T.z_NoAnswers (.own _) (kit_ref T.e_NoAnswers_NoAnswers T.y_NoBounds T.e_NoAnswers_NoBounds) ?_
      walk_at "sts"
      refine L_isS (fun dd z => nomatch z) T.z_NoAnswers (.own _) (kit_ref T.e_NoAnswers_NoAnswers T.y_NoAnswers T.e_NoAnswers_NoAnswers) ?_
      walk_at "sts"
      walk_at "nw"
      rename_i p4 hp4 H4 s4 e4
      walk_at "sts"
      intro na2
      walk_at "sts"
      exact q p4 _ (s1.trans (s4.trans (same_new na2))) (same_new na2 _ _ e4)
    · clear w0 w3
      rw [decide_eq_false (by decide)] at q
      walk_at "sts"
      refine L_dF (by decide) ?_
      walk_at "sts"
      refine L_dF (by decide) ?_
      walk_at "sts"
      refine L_dF (by decide) ?_
      walk_at "sts"
      refine L_ixL hL1 (atI_int (by decide) rfl) ?_
      walk_at "sts"
      rcases h2 with h2 | h2
      · refine .inl ⟨h2, ?_⟩
        refine L_asT (T.y_SpeakError.exm T.e_NoAnswers_SpeakError) fun a na => ?_
        walk_at "sts"
        refine L_isS (fun dd z => nomatch z) T.z_NoAnswers (.own _) (kit_ref T.e_NoAnswers_NoAnswers T.y_NoBounds T.e_NoAnswers_NoBounds) ?_
        walk_at "sts"
        refine L_isS (fun dd z => nomatch z) T.z_NoAnswers (.own _) (kit_ref T.e_NoAnswers_NoAnswers T.y_NoAnswers T.e_NoAnswers_NoAnswers) ?_
        walk_at "sts"
        walk_at "nw"
        rename_i p4 hp4 H4 s4 e4
        walk_at "sts"
        intro na2
        walk_at "sts"
        exact q p4 _ (s1.trans (s4.trans (same_new na2))) (same_new na2 _ _ e4)
      · refine .inr (.inl ⟨h2, ?_⟩)
        refine L_asT (T.y_SpeakError.exm T.e_NoAnswers_SpeakError) fun a na => ?_
        walk_at "sts"
        refine L_isS (fun dd z => nomatch z) T.z_NoAnswers (.own _) (kit_ref T.e_NoAnswers_NoAnswers T.y_NoBounds T.e_NoAnswers_NoBounds) ?_
        walk_at "sts"
        refine L_isS (fun dd z => nomatch z) T.z_NoAnswers (.own _) (kit_ref T.e_NoAnswers_NoAnswers T.y_NoAnswers T.e_NoAnswers_NoAnswers) ?_
        walk_at "sts"
        walk_at "nw"
        rename_i p4 hp4 H4 s4 e4
        walk_at "sts"
        intro na2
        walk_at "sts"
        exact q p4 _ (s1.trans (s4.trans (same_new na2))) (same_new na2 _ _ e4)
  · rcases hG.same s1 with ⟨h0, pr, pc, pu, uv, rows, cols, us, rfl, h2, h3, h4, h5⟩ | ⟨rfl, a, rows, rfl, h2, h3, h4⟩ | ⟨rfl, a, us, rows, rfl, h2, h3, h4, h5⟩
    · obtain rfl | rfl : way = 0 ∨ way = 1 := by omega
      · clear w0 w3
        walk_at "sts"
        refine L_dT rfl ?_
        walk_at "sts"
        refine L_ixL hL1 (atI_int (by decide) rfl) ?_
        walk_at "sts"
        refine L_ixL hL1 (atI_int (by decide) rfl) ?_
        walk_at "sts"
        refine L_ixL hL1 (atI_int (by decide) rfl) ?_
        walk_at "sts"
        refine .inr ⟨pr, pc, pu, uv, rows, cols, us, h2, tellQ fun pT H2 s2 _ => ?_⟩
        walk_at "sts"
        exact q p1 H2 (s1.trans s2) (s2 _ _ e1)
      · clear w0 w3
        walk_at "sts"
        refine L_dF (by decide) ?_
        walk_at "sts"
        refine L_dT rfl ?_
        walk_at "sts"
        refine L_ixL hL1 (atI_int (by decide) rfl) ?_
        walk_at "sts"
        refine L_ixL hL1 (atI_int (by decide) rfl) ?_
        walk_at "sts"
        refine L_ixL hL1 (atI_int (by decide) rfl) ?_
        walk_at "sts"
        walk_at "nw"
        rename_i p5 hp5 H5 s5 e5
        walk_at "sts"
        walk_at "nw"
        rename_i p6 hp6 H6 s6 e6
        walk_at "sts"
        have s56 := s5.trans s6
        refine .inr ⟨pr, pc, pu, uv, rows, cols, us, p6, _, h2.same s56, s56 _ _ h3, s56 _ _ h4, s56 _ _ h5, rfl, .inl ⟨p5, [], .of e6, s6 _ _ e5, rfl⟩, fun H7 s7 => ?_⟩
        walk_at "sts"
        exact q p1 H7 (s1.trans (s56.trans s7)) (s7 _ _ (s56 _ _ e1))
    · clear w0 w3
      walk_at "sts"
      refine L_dF (by decide) ?_
      walk_at "sts"
      refine L_dF (by decide) ?_
      walk_at "sts"
      refine L_dT rfl ?_
      walk_at "sts"
      refine L_ixL hL1 (atI_int (by decide) rfl) ?_
      walk_at "sts"
      refine .inr ⟨a, rows, rfl, h2, h3, h4, fun t' l h H2 _ _ _ _ _ _ s2 _ _ _ => ?_⟩
      walk_at "sts"
      exact q p1 H2 (s1.trans s2) (s2 _ _ e1)
    · clear w0 w3
      walk_at "sts"
      refine L_dF (by decide) ?_
      walk_at "sts"
      refine L_dF (by decide) ?_
      walk_at "sts"
      refine L_dF (by decide) ?_
      walk_at "sts"
      refine L_ixL hL1 (atI_int (by decide) rfl) ?_
      walk_at "sts"
      refine .inr (.inr ⟨a, us, rows, rfl, h2, h3, h4, h5, fun _ H2 s2 => ?_, fun _ pt q1 q2 q3 q4 H2 _ _ _ _ s2 _ _ _ _ _ => ?_⟩)
      · walk_at "sts"
        exact q p1 H2 (s1.trans s2) (s2 _ _ e1)
      · walk_at "sts"
        exact q p1 H2 (s1.trans s2) (s2 _ _ e1)
def sp_law (K : PySem.W.Frag) (mg : Str → Option Value) : Sp := fun vs H Q _ => match vs with | [.ref a] => ∃ ns : List Int, SqL K H a (ns.map V.int) ∧ ns.length ≤ 63 ∧ (∀ z ∈ ns, Builtin.Int.intBits z ≤ 1048576) ∧ ∀ H', Q (.bl true) H' | _ => False
theorem q_law {H : Hp} {Q : VK} {E : XK} {a : Addr} (q : ∃ ns : List Int, SqL K H a (ns.map V.int) ∧ ns.length ≤ 63 ∧ (∀ z ∈ ns, Builtin.Int.intBits z ≤ 1048576) ∧ ∀ H', Q (.bl true) H') : sp_law K mg [.ref a] H Q E := q
local macro_rules | `(tactic| walk_at "op") => `(tactic| with_reducible refine q_law ?_)
theorem c_law (T : Txt K mg) {f : Addr} {fd : FuncData} (F : Fun K "law" "law" s_law f fd) : FnOk P w K mg base CX0 6 f fd ["_law_script"] (sp_law K mg) := by
  refine F.ok (k := 5) sc_law (by intro vs H Q E h; unfold sp_law at h; split at h <;> first | rfl | exact h.elim) fun cdv A outer s H vs Q E hr h => ?_
  refine ⟨_, (pss_cons (ps_for PassesOwn.never rfl (pi_range1 (by rfl) T.n_range (pa_cons (pe_callB (call_max2A rfl) (by rfl) T.n_max (by decide +kernel) (pa_cons pe_int (pa_cons (pe_callB (call_min2A rfl) (by rfl) T.n_min (by decide +kernel) (pa_cons (pe_callB call_lenA (by rfl) T.n_len (by decide +kernel) (pa_cons (pv 0) pa_nil)) (pa_cons pe_int pa_nil))) pa_nil))) pa_nil)) (pg_name (i := 1) sc_law.nd rfl (.inl rfl))
    (pss_cons (ps_set (i := 2) sc_law.nd rfl (.inl rfl) (pe_c (c__law_cell T) hr (by decide) (by rfl) (pa_cons (pv 0) (pa_cons (pv 1) pa_nil))))
    (Evl.pss_cut (ps_if (pt_cmpR (op_eqA hr) (pe_op op_mod (pv 2) pe_int) pe_int (nomark _))
    (pss_one (ps_set (i := 2) sc_law.nd rfl (.inl rfl) (pe_c (c__law_mix T) hr (by decide) (by rfl) (pa_cons (pv 2) (pa_cons (pv 1) pa_nil)))))
    pss_nil)
    (pss_cons (ps_set (i := 3) sc_law.nd rfl (.inl rfl) (pe_op op_mod (pe_op op_fdivW (pv 2) pe_int) pe_int))
    (pss_cons (ps_set (i := 4) sc_law.nd rfl (.inl rfl) (pe_ix ix_seq (pe_lst (pa_cons (pe_lst (pa_cons pe_bl (pa_cons pe_bl pa_nil))) (pa_cons (pe_lst (pa_cons pe_bl (pa_cons pe_bl pa_nil))) pa_nil))) (pe_op op_fdivW (pv 3) pe_int) (fun _ _ => rfl)))
    (pss_cons (ps_set (i := 5) sc_law.nd rfl (.inl rfl) (pe_c (c__law_good T) hr (by decide) (by rfl) (pa_cons (pv 3) (pa_cons (pe_cmpR (op_eqA hr) (pe_op op_mod (pe_op op_fdivW (pv 2) pe_int) pe_int) pe_int (nomark _)) pa_nil))))
    (pss_one (ps_if (PW.pt (pw_or (pt_cmpR (op_neA hr) (pe_c (c__law_kind T) hr (by decide) (by rfl) (pa_cons (pv 3) (pa_cons (pe_c (c__law_spoilt T) hr (by decide) (by rfl) (pa_cons (pv 3) (pa_cons (pe_op op_fdivW (pv 2) pe_int) pa_nil))) pa_nil))) (pv 4) (nomark _)) (pw_or1 (pt_cmpR (op_neA hr) (pe_c (c__law_kind T) hr (by decide) (by rfl) (pa_cons (pv 3) (pa_cons (pv 5) pa_nil))) (pe_lst pa_nil) (nomark _)))))
    (pss_one (ps_ret pe_bl))
    pss_nil))))))))
    (pss_one (ps_ret pe_bl))), ?_⟩
  try simp only [cxOf_K, cxOf_K', cxOf_mg, cxOf_mg']
  unfold sp_law at h
  split at h
  case h_2 => exact h.elim
  rename_i a
  rw [show L2.start ["_law_script", "_law_k", "_law_cell_here", "_law_way", "_law_due", "_law_good_here"] [V.ref a] = [some (V.ref a), none, none, none, none, none] from rfl]
  obtain ⟨ns, hS, hl0, hbits, q⟩ := h
  walk_at "sts"
  refine L_lenL hS ?_
  rw [List.length_map]
  walk_at "sts"
  have hn : ∃ n : Nat, max 4 (min (ns.length : Int) 40) = (n : Int) ∧ n ≤ 40 := ⟨(max 4 (min (ns.length : Int) 40)).toNat, by omega, by omega⟩
  obtain ⟨n, hn, n40⟩ := hn
  rw [hn]
  refine L_r1 (by omega) (by omega) ?_
  rw [Int.toNat_natCast]
  refine f_range (fun i σ' H' => ∃ v1 v2 v3 v4 v5 : Option V, σ' = [some (.ref a), v1, v2, v3, v4, v5] ∧ Same H H') ⟨_, _, _, _, _, rfl, .refl _⟩ ?_ ?_
  · rintro i σ' H0 hi ⟨v1, v2, v3, v4, v5, rfl, s0⟩
    walk_at "sts"
    refine ⟨ns, s0.seq hS, by omega, by omega, ?_⟩
    generalize cellAt ns (0 + (i : Int)) (7919 * (0 + (i : Int)) + 13) = cell0
    walk_at "sa"
    refine L_cut (Mid := fun σ' H' => ∃ cell : Int, σ' = [some (.ref a), some (.int (0 + (i : Int))), some (.int cell), v3, v4, v5] ∧ H' = H0) ?_ ?_
    · walk_at "sa"
      refine L_d (fun cc => ?_) (fun cc => ?_)
      · walk_at "sts"
        refine ⟨by omega, by omega, ?_⟩
        walk_at "sts"
        exact ⟨_, rfl, rfl⟩
      · walk_at "sts"
        exact ⟨_, rfl, rfl⟩
    rintro σ' H' ⟨cell, rfl, rfl⟩
    walk_at "sa"
    have w0 : 0 ≤ cell / 2 % 4 ∧ cell / 2 % 4 < 4 := by omega
    generalize cell / 2 % 4 = way at *
    walk_at "nw"
    rename_i p1 hp1 H1 s1 e1
    walk_at "sts"
    walk_at "nw"
    rename_i p2 hp2 H2 s2 e2
    walk_at "sts"
    walk_at "nw"
    rename_i p3 hp3 H3 s3 e3
    walk_at "sa"
    obtain ⟨pd, hd, ed⟩ : ∃ pd, atI [V.ref p1, .ref p2] (way / 2) = some (.ref pd) ∧ H3 pd = some (.lst [.bl (decide (way < 2)), .bl (!decide (way < 2))]) := by
      by_cases c : way < 2
      · rw [show way / 2 = 0 by omega, decide_eq_true c]
        exact ⟨p1, rfl, (s2.trans s3) _ _ e1⟩
      · rw [show way / 2 = 1 by omega, decide_eq_false c]
        exact ⟨p2, rfl, s3 _ _ e2⟩
    refine L_ixL (.of e3) hd ?_
    walk_at "sa"
    refine ⟨w0.1, by omega, fun t xs H4 s4 e4 hG => ?_⟩
    walk_at "sa"
    refine ⟨w0.1, by omega, fun t5 xs5 H5 s5 e5 hB => ?_⟩
    walk_at "sts"
    refine ⟨w0.1, by omega, xs5, .of e5, .inl ⟨hB, fun p6 H6 s6 e6 => ?_⟩⟩
    have s36 := s4.trans (s5.trans s6)
    walk_at "sts"
    refine L_neR (d := .list [.bool (decide (way < 2)), .bool (!decide (way < 2))]) (.lst (.of e6) (.cons (.bl _) (.cons (.bl _) .nil))) (.lst (.of (s36 _ _ ed)) (.cons (.bl _) (.cons (.bl _) .nil))) (shp_lst (n := 1) (shp_cons shp_bl (shp_cons shp_bl shp_nil))).ok ?_
    walk_at "sts"
    have s46 := s5.trans s6
    refine ⟨w0.1, by omega, xs, .of (s46 _ _ e4), .inr ⟨hG.same s46, fun p7 H7 s7 e7 => ?_⟩⟩
    walk_at "sts"
    walk_at "nw"
    rename_i p8 hp8 H8 s8 e8
    refine L_neR (d := .list []) (.lst (.of (s8 _ _ e7)) .nil) (.lst (.of e8) .nil) (shp_lst (n := 0) shp_nil).ok ?_
    walk_at "sts"
    exact ⟨_, _, _, _, _, rfl, s0.trans (s1.trans (s2.trans (s3.trans (s36.trans (s7.trans s8)))))⟩
  · rintro σ' H0 ⟨v1, v2, v3, v4, v5, rfl, s0⟩
    walk_at "sts"
    exact q _
end
theorem txt_mk {K : PySem.W.Frag} {h : Heap} {mg : Str → Option Value} (X : K.In h) (G : h.Ns mainGlobals mg)
    (z_n_bool : PySem.W.nsIn K mainGlobals "bool" = some none)
    (z_n_int : PySem.W.nsIn K mainGlobals "int" = some none)
    (z_n_isinstance : PySem.W.nsIn K mainGlobals "isinstance" = some none)
    (z_n_all : PySem.W.nsIn K mainGlobals "all" = some none)
    (z_n_len : PySem.W.nsIn K mainGlobals "len" = some none)
    (z_n_list : PySem.W.nsIn K mainGlobals "list" = some none)
    {u_g_MOST_SUM : Value} (z_g_MOST_SUM : PySem.W.nsIn K mainGlobals "MOST_SUM" = some (some u_g_MOST_SUM)) (y_g_MOST_SUM : RelV (.int 24000000) u_g_MOST_SUM)
    {u_g_MOST_SUMS : Value} (z_g_MOST_SUMS : PySem.W.nsIn K mainGlobals "MOST_SUMS" = some (some u_g_MOST_SUMS)) (y_g_MOST_SUMS : RelV (.int 6) u_g_MOST_SUMS)
    (z_n_sum : PySem.W.nsIn K mainGlobals "sum" = some none)
    (z_n_zip : PySem.W.nsIn K mainGlobals "zip" = some none)
    {C_Leading : Addr} (aC_Leading : PySem.W.nsIn K mainGlobals "Leading" = some (some (.ref C_Leading)))
    (pg_Leading : PySem.W.plainGet K C_Leading Str.empty = true) (hd_Leading : PySem.W.hasDictIn K C_Leading = true) (po_Leading : PySem.W.plainOver K C_Leading = true) (sa_Leading : PySem.W.findIn K (.ref C_Leading) "__setattr__" = some (some (.builtin "object.__setattr__"))) (mk_Leading : PySem.W.makesIn K C_Leading = true) (kc_Leading : PySem.W.keepIn K (.ref C_Leading) = true)
    (na_Leading_rows : PySem.W.findIn K (.ref C_Leading) "rows" = some none)
    (na_Leading_columns : PySem.W.findIn K (.ref C_Leading) "columns" = some none)
    (na_Leading_units : PySem.W.findIn K (.ref C_Leading) "units" = some none)
    (na_Leading_weights : PySem.W.findIn K (.ref C_Leading) "weights" = some none)
    (z_n_enumerate : PySem.W.nsIn K mainGlobals "enumerate" = some none)
    (z_n_range : PySem.W.nsIn K mainGlobals "range" = some none)
    (z_n_min : PySem.W.nsIn K mainGlobals "min" = some none)
    (z_n_sorted : PySem.W.nsIn K mainGlobals "sorted" = some none)
    (z_n_tuple : PySem.W.nsIn K mainGlobals "tuple" = some none)
    {u_g_MOST_WEIGHT_led : Value} (z_g_MOST_WEIGHT_led : PySem.W.nsIn K mainGlobals "MOST_WEIGHT_led" = some (some u_g_MOST_WEIGHT_led)) (y_g_MOST_WEIGHT_led : RelV (.int 1000000) u_g_MOST_WEIGHT_led)
    {u_g_MOST_UNITS : Value} (z_g_MOST_UNITS : PySem.W.nsIn K mainGlobals "MOST_UNITS" = some (some u_g_MOST_UNITS)) (y_g_MOST_UNITS : RelV (.int 24) u_g_MOST_UNITS)
    {C_NoBounds : Addr} (aC_NoBounds : PySem.W.nsIn K mainGlobals "NoBounds" = some (some (.ref C_NoBounds)))
    (xx_NoBounds : PySem.W.excIn K C_NoBounds [.type "ValueError", .type "Exception", .type "BaseException", .type "object"] "ValueError.__new__" = true) (xk_NoBounds : PySem.W.keepIn K (.ref C_NoBounds) = true) (xb_NoBounds : PySem.W.subIn K (.ref C_NoBounds) (.type "BaseException") = some true) (xt_NoBounds : PySem.W.typeIn K (.ref C_NoBounds) = some (.type "type"))
    (z_n_any : PySem.W.nsIn K mainGlobals "any" = some none)
    (z_n_abs : PySem.W.nsIn K mainGlobals "abs" = some none)
    {u_g_FAR : Value} (z_g_FAR : PySem.W.nsIn K mainGlobals "FAR" = some (some u_g_FAR)) (y_g_FAR : RelV (.int 1000000000) u_g_FAR)
    {u_g_MOST_WEIGHT_lacking : Value} (z_g_MOST_WEIGHT_lacking : PySem.W.nsIn K mainGlobals "MOST_WEIGHT_lacking" = some (some u_g_MOST_WEIGHT_lacking)) (y_g_MOST_WEIGHT_lacking : RelV (.int 1000000) u_g_MOST_WEIGHT_lacking)
    {u_g_MOST_ANSWERS : Value} (z_g_MOST_ANSWERS : PySem.W.nsIn K mainGlobals "MOST_ANSWERS" = some (some u_g_MOST_ANSWERS)) (y_g_MOST_ANSWERS : RelV (.int 24) u_g_MOST_ANSWERS)
    {C_NoAnswers : Addr} (aC_NoAnswers : PySem.W.nsIn K mainGlobals "NoAnswers" = some (some (.ref C_NoAnswers)))
    (xx_NoAnswers : PySem.W.excIn K C_NoAnswers [.type "ValueError", .type "Exception", .type "BaseException", .type "object"] "ValueError.__new__" = true) (xk_NoAnswers : PySem.W.keepIn K (.ref C_NoAnswers) = true) (xb_NoAnswers : PySem.W.subIn K (.ref C_NoAnswers) (.type "BaseException") = some true) (xt_NoAnswers : PySem.W.typeIn K (.ref C_NoAnswers) = some (.type "type"))
    {C_SpeakError : Addr} (aC_SpeakError : PySem.W.nsIn K mainGlobals "SpeakError" = some (some (.ref C_SpeakError)))
    (yb_SpeakError : PySem.W.subIn K (.ref C_SpeakError) (.type "BaseException") = some true) (yi_SpeakError : PySem.W.isClsIn K C_SpeakError = true) (yt_SpeakError : PySem.W.typeIn K (.ref C_SpeakError) = some (.type "type"))
    (z_n_max : PySem.W.nsIn K mainGlobals "max" = some none)
    (z0_NoBounds : PySem.W.findIn K (.ref C_NoBounds) "__getattribute__" = some (some (.builtin "BaseException.__getattribute__"))) (z1_NoBounds : PySem.W.findIn K (.ref C_NoBounds) "__getattr__" = some none) (z2_NoBounds : PySem.W.subIn K (.ref C_NoBounds) (.type "BaseException") = some true) (z3_NoBounds : PySem.W.hasDictIn K C_NoBounds = true) (z4_NoBounds : PySem.W.findIn K (.ref C_NoBounds) "__class__" = some (some (.builtin "object.__class__"))) (z5_NoBounds : PySem.W.specialIn K (.builtin "object.__class__") "__get__" = some (some (.builtin "getset_descriptor.__get__"))) (z6_NoBounds : PySem.W.takesIn K (.builtin "object.__class__") = some true) (z7_NoBounds : PySem.W.mroIn K C_NoBounds (.type "object") = some true)
    (z0_NoAnswers : PySem.W.findIn K (.ref C_NoAnswers) "__getattribute__" = some (some (.builtin "BaseException.__getattribute__"))) (z1_NoAnswers : PySem.W.findIn K (.ref C_NoAnswers) "__getattr__" = some none) (z2_NoAnswers : PySem.W.subIn K (.ref C_NoAnswers) (.type "BaseException") = some true) (z3_NoAnswers : PySem.W.hasDictIn K C_NoAnswers = true) (z4_NoAnswers : PySem.W.findIn K (.ref C_NoAnswers) "__class__" = some (some (.builtin "object.__class__"))) (z5_NoAnswers : PySem.W.specialIn K (.builtin "object.__class__") "__get__" = some (some (.builtin "getset_descriptor.__get__"))) (z6_NoAnswers : PySem.W.takesIn K (.builtin "object.__class__") = some true) (z7_NoAnswers : PySem.W.mroIn K C_NoAnswers (.type "object") = some true)
    (yb_NoBounds : PySem.W.subIn K (.ref C_NoBounds) (.type "BaseException") = some true) (yi_NoBounds : PySem.W.isClsIn K C_NoBounds = true) (yt_NoBounds : PySem.W.typeIn K (.ref C_NoBounds) = some (.type "type"))
    (yb_NoAnswers : PySem.W.subIn K (.ref C_NoAnswers) (.type "BaseException") = some true) (yi_NoAnswers : PySem.W.isClsIn K C_NoAnswers = true) (yt_NoAnswers : PySem.W.typeIn K (.ref C_NoAnswers) = some (.type "type"))
    (es_NoBounds_NoBounds : PySem.W.subIn K (.ref C_NoBounds) (.ref C_NoBounds) = some true)
    (es_NoBounds_NoAnswers : PySem.W.subIn K (.ref C_NoBounds) (.ref C_NoAnswers) = some false)
    (es_NoBounds_SpeakError : PySem.W.subIn K (.ref C_NoBounds) (.ref C_SpeakError) = some true)
    (es_NoAnswers_NoAnswers : PySem.W.subIn K (.ref C_NoAnswers) (.ref C_NoAnswers) = some true)
    (es_NoAnswers_NoBounds : PySem.W.subIn K (.ref C_NoAnswers) (.ref C_NoBounds) = some false)
    (es_NoAnswers_SpeakError : PySem.W.subIn K (.ref C_NoAnswers) (.ref C_SpeakError) = some true)
    {f_is_whole : Addr} {od_is_whole an_is_whole : Option Addr} {sl_is_whole : Array (Option Value)} {oc_is_whole kV_is_whole dc_is_whole pm_is_whole cd_is_whole ct_is_whole : Value}
    (a_is_whole : PySem.W.nsIn K mainGlobals "is_whole" = some (some (.ref f_is_whole))) (l_is_whole : K.lookup f_is_whole = some ⟨oc_is_whole, od_is_whole, .func (PySem.W.fnOf "is_whole" "is_whole" (defArgs s_is_whole) (defBody s_is_whole) (defScope s_is_whole) .none kV_is_whole dc_is_whole pm_is_whole an_is_whole cd_is_whole ct_is_whole), sl_is_whole⟩) (c_is_whole : PySem.W.codeIn K cd_is_whole "is_whole" = true) (k_is_whole : PySem.W.keepIn K (.ref f_is_whole) = true)
    {f_are_sums : Addr} {od_are_sums an_are_sums : Option Addr} {sl_are_sums : Array (Option Value)} {oc_are_sums kV_are_sums dc_are_sums pm_are_sums cd_are_sums ct_are_sums : Value}
    (a_are_sums : PySem.W.nsIn K mainGlobals "are_sums" = some (some (.ref f_are_sums))) (l_are_sums : K.lookup f_are_sums = some ⟨oc_are_sums, od_are_sums, .func (PySem.W.fnOf "are_sums" "are_sums" (defArgs s_are_sums) (defBody s_are_sums) (defScope s_are_sums) .none kV_are_sums dc_are_sums pm_are_sums an_are_sums cd_are_sums ct_are_sums), sl_are_sums⟩) (c_are_sums : PySem.W.codeIn K cd_are_sums "are_sums" = true) (k_are_sums : PySem.W.keepIn K (.ref f_are_sums) = true)
    {f_Leading_row_lack : Addr} {od_Leading_row_lack an_Leading_row_lack : Option Addr} {sl_Leading_row_lack : Array (Option Value)} {oc_Leading_row_lack kV_Leading_row_lack dc_Leading_row_lack pm_Leading_row_lack cd_Leading_row_lack ct_Leading_row_lack : Value}
    (a_Leading_row_lack : PySem.W.findIn K (.ref C_Leading) "row_lack" = some (some (.ref f_Leading_row_lack))) (i_Leading_row_lack : PySem.W.isFn K (.ref f_Leading_row_lack) = true) (l_Leading_row_lack : K.lookup f_Leading_row_lack = some ⟨oc_Leading_row_lack, od_Leading_row_lack, .func (PySem.W.fnOf "row_lack" "Leading.row_lack" (defArgs s_Leading_row_lack) (defBody s_Leading_row_lack) (defScope s_Leading_row_lack) .none kV_Leading_row_lack dc_Leading_row_lack pm_Leading_row_lack an_Leading_row_lack cd_Leading_row_lack ct_Leading_row_lack), sl_Leading_row_lack⟩) (c_Leading_row_lack : PySem.W.codeIn K cd_Leading_row_lack "Leading.row_lack" = true) (k_Leading_row_lack : PySem.W.keepIn K (.ref f_Leading_row_lack) = true)
    {f_Leading_column_lack : Addr} {od_Leading_column_lack an_Leading_column_lack : Option Addr} {sl_Leading_column_lack : Array (Option Value)} {oc_Leading_column_lack kV_Leading_column_lack dc_Leading_column_lack pm_Leading_column_lack cd_Leading_column_lack ct_Leading_column_lack : Value}
    (a_Leading_column_lack : PySem.W.findIn K (.ref C_Leading) "column_lack" = some (some (.ref f_Leading_column_lack))) (i_Leading_column_lack : PySem.W.isFn K (.ref f_Leading_column_lack) = true) (l_Leading_column_lack : K.lookup f_Leading_column_lack = some ⟨oc_Leading_column_lack, od_Leading_column_lack, .func (PySem.W.fnOf "column_lack" "Leading.column_lack" (defArgs s_Leading_column_lack) (defBody s_Leading_column_lack) (defScope s_Leading_column_lack) .none kV_Leading_column_lack dc_Leading_column_lack pm_Leading_column_lack an_Leading_column_lack cd_Leading_column_lack ct_Leading_column_lack), sl_Leading_column_lack⟩) (c_Leading_column_lack : PySem.W.codeIn K cd_Leading_column_lack "Leading.column_lack" = true) (k_Leading_column_lack : PySem.W.keepIn K (.ref f_Leading_column_lack) = true)
    {f_Leading___init__ : Addr} {od_Leading___init__ an_Leading___init__ : Option Addr} {sl_Leading___init__ : Array (Option Value)} {oc_Leading___init__ kV_Leading___init__ dc_Leading___init__ pm_Leading___init__ cd_Leading___init__ ct_Leading___init__ : Value}
    (a_Leading___init__ : PySem.W.findIn K (.ref C_Leading) "__init__" = some (some (.ref f_Leading___init__))) (i_Leading___init__ : PySem.W.isFn K (.ref f_Leading___init__) = true) (l_Leading___init__ : K.lookup f_Leading___init__ = some ⟨oc_Leading___init__, od_Leading___init__, .func (PySem.W.fnOf "__init__" "Leading.__init__" (defArgs s_Leading___init__) (defBody s_Leading___init__) (defScope s_Leading___init__) .none kV_Leading___init__ dc_Leading___init__ pm_Leading___init__ an_Leading___init__ cd_Leading___init__ ct_Leading___init__), sl_Leading___init__⟩) (c_Leading___init__ : PySem.W.codeIn K cd_Leading___init__ "Leading.__init__" = true) (k_Leading___init__ : PySem.W.keepIn K (.ref f_Leading___init__) = true)
    {f_Leading_next_columns : Addr} {od_Leading_next_columns an_Leading_next_columns : Option Addr} {sl_Leading_next_columns : Array (Option Value)} {oc_Leading_next_columns kV_Leading_next_columns dc_Leading_next_columns pm_Leading_next_columns cd_Leading_next_columns ct_Leading_next_columns : Value}
    (a_Leading_next_columns : PySem.W.findIn K (.ref C_Leading) "next_columns" = some (some (.ref f_Leading_next_columns))) (i_Leading_next_columns : PySem.W.isFn K (.ref f_Leading_next_columns) = true) (l_Leading_next_columns : K.lookup f_Leading_next_columns = some ⟨oc_Leading_next_columns, od_Leading_next_columns, .func (PySem.W.fnOf "next_columns" "Leading.next_columns" (defArgs s_Leading_next_columns) (defBody s_Leading_next_columns) (defScope s_Leading_next_columns) .none kV_Leading_next_columns dc_Leading_next_columns pm_Leading_next_columns an_Leading_next_columns cd_Leading_next_columns ct_Leading_next_columns), sl_Leading_next_columns⟩) (c_Leading_next_columns : PySem.W.codeIn K cd_Leading_next_columns "Leading.next_columns" = true) (k_Leading_next_columns : PySem.W.keepIn K (.ref f_Leading_next_columns) = true)
    {f_Leading_next_rows : Addr} {od_Leading_next_rows an_Leading_next_rows : Option Addr} {sl_Leading_next_rows : Array (Option Value)} {oc_Leading_next_rows kV_Leading_next_rows dc_Leading_next_rows pm_Leading_next_rows cd_Leading_next_rows ct_Leading_next_rows : Value}
    (a_Leading_next_rows : PySem.W.findIn K (.ref C_Leading) "next_rows" = some (some (.ref f_Leading_next_rows))) (i_Leading_next_rows : PySem.W.isFn K (.ref f_Leading_next_rows) = true) (l_Leading_next_rows : K.lookup f_Leading_next_rows = some ⟨oc_Leading_next_rows, od_Leading_next_rows, .func (PySem.W.fnOf "next_rows" "Leading.next_rows" (defArgs s_Leading_next_rows) (defBody s_Leading_next_rows) (defScope s_Leading_next_rows) .none kV_Leading_next_rows dc_Leading_next_rows pm_Leading_next_rows an_Leading_next_rows cd_Leading_next_rows ct_Leading_next_rows), sl_Leading_next_rows⟩) (c_Leading_next_rows : PySem.W.codeIn K cd_Leading_next_rows "Leading.next_rows" = true) (k_Leading_next_rows : PySem.W.keepIn K (.ref f_Leading_next_rows) = true)
    {f_Leading_spread_out : Addr} {od_Leading_spread_out an_Leading_spread_out : Option Addr} {sl_Leading_spread_out : Array (Option Value)} {oc_Leading_spread_out kV_Leading_spread_out dc_Leading_spread_out pm_Leading_spread_out cd_Leading_spread_out ct_Leading_spread_out : Value}
    (a_Leading_spread_out : PySem.W.findIn K (.ref C_Leading) "spread_out" = some (some (.ref f_Leading_spread_out))) (i_Leading_spread_out : PySem.W.isFn K (.ref f_Leading_spread_out) = true) (l_Leading_spread_out : K.lookup f_Leading_spread_out = some ⟨oc_Leading_spread_out, od_Leading_spread_out, .func (PySem.W.fnOf "spread_out" "Leading.spread_out" (defArgs s_Leading_spread_out) (defBody s_Leading_spread_out) (defScope s_Leading_spread_out) .none kV_Leading_spread_out dc_Leading_spread_out pm_Leading_spread_out an_Leading_spread_out cd_Leading_spread_out ct_Leading_spread_out), sl_Leading_spread_out⟩) (c_Leading_spread_out : PySem.W.codeIn K cd_Leading_spread_out "Leading.spread_out" = true) (k_Leading_spread_out : PySem.W.keepIn K (.ref f_Leading_spread_out) = true)
    {f_Leading_way_back : Addr} {od_Leading_way_back an_Leading_way_back : Option Addr} {sl_Leading_way_back : Array (Option Value)} {oc_Leading_way_back kV_Leading_way_back dc_Leading_way_back pm_Leading_way_back cd_Leading_way_back ct_Leading_way_back : Value}
    (a_Leading_way_back : PySem.W.findIn K (.ref C_Leading) "way_back" = some (some (.ref f_Leading_way_back))) (i_Leading_way_back : PySem.W.isFn K (.ref f_Leading_way_back) = true) (l_Leading_way_back : K.lookup f_Leading_way_back = some ⟨oc_Leading_way_back, od_Leading_way_back, .func (PySem.W.fnOf "way_back" "Leading.way_back" (defArgs s_Leading_way_back) (defBody s_Leading_way_back) (defScope s_Leading_way_back) .none kV_Leading_way_back dc_Leading_way_back pm_Leading_way_back an_Leading_way_back cd_Leading_way_back ct_Leading_way_back), sl_Leading_way_back⟩) (c_Leading_way_back : PySem.W.codeIn K cd_Leading_way_back "Leading.way_back" = true) (k_Leading_way_back : PySem.W.keepIn K (.ref f_Leading_way_back) = true)
    {f_Leading_carry : Addr} {od_Leading_carry an_Leading_carry : Option Addr} {sl_Leading_carry : Array (Option Value)} {oc_Leading_carry kV_Leading_carry dc_Leading_carry pm_Leading_carry cd_Leading_carry ct_Leading_carry : Value}
    (a_Leading_carry : PySem.W.findIn K (.ref C_Leading) "carry" = some (some (.ref f_Leading_carry))) (i_Leading_carry : PySem.W.isFn K (.ref f_Leading_carry) = true) (l_Leading_carry : K.lookup f_Leading_carry = some ⟨oc_Leading_carry, od_Leading_carry, .func (PySem.W.fnOf "carry" "Leading.carry" (defArgs s_Leading_carry) (defBody s_Leading_carry) (defScope s_Leading_carry) .none kV_Leading_carry dc_Leading_carry pm_Leading_carry an_Leading_carry cd_Leading_carry ct_Leading_carry), sl_Leading_carry⟩) (c_Leading_carry : PySem.W.codeIn K cd_Leading_carry "Leading.carry" = true) (k_Leading_carry : PySem.W.keepIn K (.ref f_Leading_carry) = true)
    {f_Leading_lead : Addr} {od_Leading_lead an_Leading_lead : Option Addr} {sl_Leading_lead : Array (Option Value)} {oc_Leading_lead kV_Leading_lead dc_Leading_lead pm_Leading_lead cd_Leading_lead ct_Leading_lead : Value}
    (a_Leading_lead : PySem.W.findIn K (.ref C_Leading) "lead" = some (some (.ref f_Leading_lead))) (i_Leading_lead : PySem.W.isFn K (.ref f_Leading_lead) = true) (l_Leading_lead : K.lookup f_Leading_lead = some ⟨oc_Leading_lead, od_Leading_lead, .func (PySem.W.fnOf "lead" "Leading.lead" (defArgs s_Leading_lead) (defBody s_Leading_lead) (defScope s_Leading_lead) .none kV_Leading_lead dc_Leading_lead pm_Leading_lead an_Leading_lead cd_Leading_lead ct_Leading_lead), sl_Leading_lead⟩) (c_Leading_lead : PySem.W.codeIn K cd_Leading_lead "Leading.lead" = true) (k_Leading_lead : PySem.W.keepIn K (.ref f_Leading_lead) = true)
    {f_is_unit : Addr} {od_is_unit an_is_unit : Option Addr} {sl_is_unit : Array (Option Value)} {oc_is_unit kV_is_unit dc_is_unit pm_is_unit cd_is_unit ct_is_unit : Value}
    (a_is_unit : PySem.W.nsIn K mainGlobals "is_unit" = some (some (.ref f_is_unit))) (l_is_unit : K.lookup f_is_unit = some ⟨oc_is_unit, od_is_unit, .func (PySem.W.fnOf "is_unit" "is_unit" (defArgs s_is_unit) (defBody s_is_unit) (defScope s_is_unit) .none kV_is_unit dc_is_unit pm_is_unit an_is_unit cd_is_unit ct_is_unit), sl_is_unit⟩) (c_is_unit : PySem.W.codeIn K cd_is_unit "is_unit" = true) (k_is_unit : PySem.W.keepIn K (.ref f_is_unit) = true)
    {f_look_led : Addr} {od_look_led an_look_led : Option Addr} {sl_look_led : Array (Option Value)} {oc_look_led kV_look_led dc_look_led pm_look_led cd_look_led ct_look_led : Value}
    (a_look_led : PySem.W.nsIn K mainGlobals "look_led" = some (some (.ref f_look_led))) (l_look_led : K.lookup f_look_led = some ⟨oc_look_led, od_look_led, .func (PySem.W.fnOf "look" "look" (defArgs s_look_led) (defBody s_look_led) (defScope s_look_led) .none kV_look_led dc_look_led pm_look_led an_look_led cd_look_led ct_look_led), sl_look_led⟩) (c_look_led : PySem.W.codeIn K cd_look_led "look" = true) (k_look_led : PySem.W.keepIn K (.ref f_look_led) = true)
    {f_led : Addr} {od_led an_led : Option Addr} {sl_led : Array (Option Value)} {oc_led kV_led dc_led pm_led cd_led ct_led : Value}
    (a_led : PySem.W.nsIn K mainGlobals "led" = some (some (.ref f_led))) (l_led : K.lookup f_led = some ⟨oc_led, od_led, .func (PySem.W.fnOf "led" "led" (defArgs s_led) (defBody s_led) (defScope s_led) .none kV_led dc_led pm_led an_led cd_led ct_led), sl_led⟩) (c_led : PySem.W.codeIn K cd_led "led" = true) (k_led : PySem.W.keepIn K (.ref f_led) = true)
    {f_are_numbers : Addr} {od_are_numbers an_are_numbers : Option Addr} {sl_are_numbers : Array (Option Value)} {oc_are_numbers kV_are_numbers dc_are_numbers pm_are_numbers cd_are_numbers ct_are_numbers : Value}
    (a_are_numbers : PySem.W.nsIn K mainGlobals "are_numbers" = some (some (.ref f_are_numbers))) (l_are_numbers : K.lookup f_are_numbers = some ⟨oc_are_numbers, od_are_numbers, .func (PySem.W.fnOf "are_numbers" "are_numbers" (defArgs s_are_numbers) (defBody s_are_numbers) (defScope s_are_numbers) .none kV_are_numbers dc_are_numbers pm_are_numbers an_are_numbers cd_are_numbers ct_are_numbers), sl_are_numbers⟩) (c_are_numbers : PySem.W.codeIn K cd_are_numbers "are_numbers" = true) (k_are_numbers : PySem.W.keepIn K (.ref f_are_numbers) = true)
    {f_is_cut : Addr} {od_is_cut an_is_cut : Option Addr} {sl_is_cut : Array (Option Value)} {oc_is_cut kV_is_cut dc_is_cut pm_is_cut cd_is_cut ct_is_cut : Value}
    (a_is_cut : PySem.W.nsIn K mainGlobals "is_cut" = some (some (.ref f_is_cut))) (l_is_cut : K.lookup f_is_cut = some ⟨oc_is_cut, od_is_cut, .func (PySem.W.fnOf "is_cut" "is_cut" (defArgs s_is_cut) (defBody s_is_cut) (defScope s_is_cut) .none kV_is_cut dc_is_cut pm_is_cut an_is_cut cd_is_cut ct_is_cut), sl_is_cut⟩) (c_is_cut : PySem.W.codeIn K cd_is_cut "is_cut" = true) (k_is_cut : PySem.W.keepIn K (.ref f_is_cut) = true)
    {f_are_weights : Addr} {od_are_weights an_are_weights : Option Addr} {sl_are_weights : Array (Option Value)} {oc_are_weights kV_are_weights dc_are_weights pm_are_weights cd_are_weights ct_are_weights : Value}
    (a_are_weights : PySem.W.nsIn K mainGlobals "are_weights" = some (some (.ref f_are_weights))) (l_are_weights : K.lookup f_are_weights = some ⟨oc_are_weights, od_are_weights, .func (PySem.W.fnOf "are_weights" "are_weights" (defArgs s_are_weights) (defBody s_are_weights) (defScope s_are_weights) .none kV_are_weights dc_are_weights pm_are_weights an_are_weights cd_are_weights ct_are_weights), sl_are_weights⟩) (c_are_weights : PySem.W.codeIn K cd_are_weights "are_weights" = true) (k_are_weights : PySem.W.keepIn K (.ref f_are_weights) = true)
    {f_is_led : Addr} {od_is_led an_is_led : Option Addr} {sl_is_led : Array (Option Value)} {oc_is_led kV_is_led dc_is_led pm_is_led cd_is_led ct_is_led : Value}
    (a_is_led : PySem.W.nsIn K mainGlobals "is_led" = some (some (.ref f_is_led))) (l_is_led : K.lookup f_is_led = some ⟨oc_is_led, od_is_led, .func (PySem.W.fnOf "is_led" "is_led" (defArgs s_is_led) (defBody s_is_led) (defScope s_is_led) .none kV_is_led dc_is_led pm_is_led an_is_led cd_is_led ct_is_led), sl_is_led⟩) (c_is_led : PySem.W.codeIn K cd_is_led "is_led" = true) (k_is_led : PySem.W.keepIn K (.ref f_is_led) = true)
    {f_divisor : Addr} {od_divisor an_divisor : Option Addr} {sl_divisor : Array (Option Value)} {oc_divisor kV_divisor dc_divisor pm_divisor cd_divisor ct_divisor : Value}
    (a_divisor : PySem.W.nsIn K mainGlobals "divisor" = some (some (.ref f_divisor))) (l_divisor : K.lookup f_divisor = some ⟨oc_divisor, od_divisor, .func (PySem.W.fnOf "divisor" "divisor" (defArgs s_divisor) (defBody s_divisor) (defScope s_divisor) .none kV_divisor dc_divisor pm_divisor an_divisor cd_divisor ct_divisor), sl_divisor⟩) (c_divisor : PySem.W.codeIn K cd_divisor "divisor" = true) (k_divisor : PySem.W.keepIn K (.ref f_divisor) = true)
    {f_share : Addr} {od_share an_share : Option Addr} {sl_share : Array (Option Value)} {oc_share kV_share dc_share pm_share cd_share ct_share : Value}
    (a_share : PySem.W.nsIn K mainGlobals "share" = some (some (.ref f_share))) (l_share : K.lookup f_share = some ⟨oc_share, od_share, .func (PySem.W.fnOf "share" "share" (defArgs s_share) (defBody s_share) (defScope s_share) .none kV_share dc_share pm_share an_share cd_share ct_share), sl_share⟩) (c_share : PySem.W.codeIn K cd_share "share" = true) (k_share : PySem.W.keepIn K (.ref f_share) = true)
    {f_below : Addr} {od_below an_below : Option Addr} {sl_below : Array (Option Value)} {oc_below kV_below dc_below pm_below cd_below ct_below : Value}
    (a_below : PySem.W.nsIn K mainGlobals "below" = some (some (.ref f_below))) (l_below : K.lookup f_below = some ⟨oc_below, od_below, .func (PySem.W.fnOf "below" "below" (defArgs s_below) (defBody s_below) (defScope s_below) .none kV_below dc_below pm_below an_below cd_below ct_below), sl_below⟩) (c_below : PySem.W.codeIn K cd_below "below" = true) (k_below : PySem.W.keepIn K (.ref f_below) = true)
    {f_greatest_mean : Addr} {od_greatest_mean an_greatest_mean : Option Addr} {sl_greatest_mean : Array (Option Value)} {oc_greatest_mean kV_greatest_mean dc_greatest_mean pm_greatest_mean cd_greatest_mean ct_greatest_mean : Value}
    (a_greatest_mean : PySem.W.nsIn K mainGlobals "greatest_mean" = some (some (.ref f_greatest_mean))) (l_greatest_mean : K.lookup f_greatest_mean = some ⟨oc_greatest_mean, od_greatest_mean, .func (PySem.W.fnOf "greatest_mean" "greatest_mean" (defArgs s_greatest_mean) (defBody s_greatest_mean) (defScope s_greatest_mean) .none kV_greatest_mean dc_greatest_mean pm_greatest_mean an_greatest_mean cd_greatest_mean ct_greatest_mean), sl_greatest_mean⟩) (c_greatest_mean : PySem.W.codeIn K cd_greatest_mean "greatest_mean" = true) (k_greatest_mean : PySem.W.keepIn K (.ref f_greatest_mean) = true)
    {f_filled : Addr} {od_filled an_filled : Option Addr} {sl_filled : Array (Option Value)} {oc_filled kV_filled dc_filled pm_filled cd_filled ct_filled : Value}
    (a_filled : PySem.W.nsIn K mainGlobals "filled" = some (some (.ref f_filled))) (l_filled : K.lookup f_filled = some ⟨oc_filled, od_filled, .func (PySem.W.fnOf "filled" "filled" (defArgs s_filled) (defBody s_filled) (defScope s_filled) .none kV_filled dc_filled pm_filled an_filled cd_filled ct_filled), sl_filled⟩) (c_filled : PySem.W.codeIn K cd_filled "filled" = true) (k_filled : PySem.W.keepIn K (.ref f_filled) = true)
    {f_is_answer : Addr} {od_is_answer an_is_answer : Option Addr} {sl_is_answer : Array (Option Value)} {oc_is_answer kV_is_answer dc_is_answer pm_is_answer cd_is_answer ct_is_answer : Value}
    (a_is_answer : PySem.W.nsIn K mainGlobals "is_answer" = some (some (.ref f_is_answer))) (l_is_answer : K.lookup f_is_answer = some ⟨oc_is_answer, od_is_answer, .func (PySem.W.fnOf "is_answer" "is_answer" (defArgs s_is_answer) (defBody s_is_answer) (defScope s_is_answer) .none kV_is_answer dc_is_answer pm_is_answer an_is_answer cd_is_answer ct_is_answer), sl_is_answer⟩) (c_is_answer : PySem.W.codeIn K cd_is_answer "is_answer" = true) (k_is_answer : PySem.W.keepIn K (.ref f_is_answer) = true)
    {f_look_lacking : Addr} {od_look_lacking an_look_lacking : Option Addr} {sl_look_lacking : Array (Option Value)} {oc_look_lacking kV_look_lacking dc_look_lacking pm_look_lacking cd_look_lacking ct_look_lacking : Value}
    (a_look_lacking : PySem.W.nsIn K mainGlobals "look_lacking" = some (some (.ref f_look_lacking))) (l_look_lacking : K.lookup f_look_lacking = some ⟨oc_look_lacking, od_look_lacking, .func (PySem.W.fnOf "look" "look" (defArgs s_look_lacking) (defBody s_look_lacking) (defScope s_look_lacking) .none kV_look_lacking dc_look_lacking pm_look_lacking an_look_lacking cd_look_lacking ct_look_lacking), sl_look_lacking⟩) (c_look_lacking : PySem.W.codeIn K cd_look_lacking "look" = true) (k_look_lacking : PySem.W.keepIn K (.ref f_look_lacking) = true)
    {f_total_stretch : Addr} {od_total_stretch an_total_stretch : Option Addr} {sl_total_stretch : Array (Option Value)} {oc_total_stretch kV_total_stretch dc_total_stretch pm_total_stretch cd_total_stretch ct_total_stretch : Value}
    (a_total_stretch : PySem.W.nsIn K mainGlobals "total_stretch" = some (some (.ref f_total_stretch))) (l_total_stretch : K.lookup f_total_stretch = some ⟨oc_total_stretch, od_total_stretch, .func (PySem.W.fnOf "total_stretch" "total_stretch" (defArgs s_total_stretch) (defBody s_total_stretch) (defScope s_total_stretch) .none kV_total_stretch dc_total_stretch pm_total_stretch an_total_stretch cd_total_stretch ct_total_stretch), sl_total_stretch⟩) (c_total_stretch : PySem.W.codeIn K cd_total_stretch "total_stretch" = true) (k_total_stretch : PySem.W.keepIn K (.ref f_total_stretch) = true)
    {f_mean_stretch : Addr} {od_mean_stretch an_mean_stretch : Option Addr} {sl_mean_stretch : Array (Option Value)} {oc_mean_stretch kV_mean_stretch dc_mean_stretch pm_mean_stretch cd_mean_stretch ct_mean_stretch : Value}
    (a_mean_stretch : PySem.W.nsIn K mainGlobals "mean_stretch" = some (some (.ref f_mean_stretch))) (l_mean_stretch : K.lookup f_mean_stretch = some ⟨oc_mean_stretch, od_mean_stretch, .func (PySem.W.fnOf "mean_stretch" "mean_stretch" (defArgs s_mean_stretch) (defBody s_mean_stretch) (defScope s_mean_stretch) .none kV_mean_stretch dc_mean_stretch pm_mean_stretch an_mean_stretch cd_mean_stretch ct_mean_stretch), sl_mean_stretch⟩) (c_mean_stretch : PySem.W.codeIn K cd_mean_stretch "mean_stretch" = true) (k_mean_stretch : PySem.W.keepIn K (.ref f_mean_stretch) = true)
    {f__law_cell : Addr} {od__law_cell an__law_cell : Option Addr} {sl__law_cell : Array (Option Value)} {oc__law_cell kV__law_cell dc__law_cell pm__law_cell cd__law_cell ct__law_cell : Value}
    (a__law_cell : PySem.W.nsIn K mainGlobals "_law_cell" = some (some (.ref f__law_cell))) (l__law_cell : K.lookup f__law_cell = some ⟨oc__law_cell, od__law_cell, .func (PySem.W.fnOf "_law_cell" "_law_cell" (defArgs s__law_cell) (defBody s__law_cell) (defScope s__law_cell) .none kV__law_cell dc__law_cell pm__law_cell an__law_cell cd__law_cell ct__law_cell), sl__law_cell⟩) (c__law_cell : PySem.W.codeIn K cd__law_cell "_law_cell" = true) (k__law_cell : PySem.W.keepIn K (.ref f__law_cell) = true)
    {f__law_mix : Addr} {od__law_mix an__law_mix : Option Addr} {sl__law_mix : Array (Option Value)} {oc__law_mix kV__law_mix dc__law_mix pm__law_mix cd__law_mix ct__law_mix : Value}
    (a__law_mix : PySem.W.nsIn K mainGlobals "_law_mix" = some (some (.ref f__law_mix))) (l__law_mix : K.lookup f__law_mix = some ⟨oc__law_mix, od__law_mix, .func (PySem.W.fnOf "_law_mix" "_law_mix" (defArgs s__law_mix) (defBody s__law_mix) (defScope s__law_mix) .none kV__law_mix dc__law_mix pm__law_mix an__law_mix cd__law_mix ct__law_mix), sl__law_mix⟩) (c__law_mix : PySem.W.codeIn K cd__law_mix "_law_mix" = true) (k__law_mix : PySem.W.keepIn K (.ref f__law_mix) = true)
    {f__law_bad_list : Addr} {od__law_bad_list an__law_bad_list : Option Addr} {sl__law_bad_list : Array (Option Value)} {oc__law_bad_list kV__law_bad_list dc__law_bad_list pm__law_bad_list cd__law_bad_list ct__law_bad_list : Value}
    (a__law_bad_list : PySem.W.nsIn K mainGlobals "_law_bad_list" = some (some (.ref f__law_bad_list))) (l__law_bad_list : K.lookup f__law_bad_list = some ⟨oc__law_bad_list, od__law_bad_list, .func (PySem.W.fnOf "_law_bad_list" "_law_bad_list" (defArgs s__law_bad_list) (defBody s__law_bad_list) (defScope s__law_bad_list) .none kV__law_bad_list dc__law_bad_list pm__law_bad_list an__law_bad_list cd__law_bad_list ct__law_bad_list), sl__law_bad_list⟩) (c__law_bad_list : PySem.W.codeIn K cd__law_bad_list "_law_bad_list" = true) (k__law_bad_list : PySem.W.keepIn K (.ref f__law_bad_list) = true)
    {f__law_bad_unit : Addr} {od__law_bad_unit an__law_bad_unit : Option Addr} {sl__law_bad_unit : Array (Option Value)} {oc__law_bad_unit kV__law_bad_unit dc__law_bad_unit pm__law_bad_unit cd__law_bad_unit ct__law_bad_unit : Value}
    (a__law_bad_unit : PySem.W.nsIn K mainGlobals "_law_bad_unit" = some (some (.ref f__law_bad_unit))) (l__law_bad_unit : K.lookup f__law_bad_unit = some ⟨oc__law_bad_unit, od__law_bad_unit, .func (PySem.W.fnOf "_law_bad_unit" "_law_bad_unit" (defArgs s__law_bad_unit) (defBody s__law_bad_unit) (defScope s__law_bad_unit) .none kV__law_bad_unit dc__law_bad_unit pm__law_bad_unit an__law_bad_unit cd__law_bad_unit ct__law_bad_unit), sl__law_bad_unit⟩) (c__law_bad_unit : PySem.W.codeIn K cd__law_bad_unit "_law_bad_unit" = true) (k__law_bad_unit : PySem.W.keepIn K (.ref f__law_bad_unit) = true)
    {f__law_bad_answer : Addr} {od__law_bad_answer an__law_bad_answer : Option Addr} {sl__law_bad_answer : Array (Option Value)} {oc__law_bad_answer kV__law_bad_answer dc__law_bad_answer pm__law_bad_answer cd__law_bad_answer ct__law_bad_answer : Value}
    (a__law_bad_answer : PySem.W.nsIn K mainGlobals "_law_bad_answer" = some (some (.ref f__law_bad_answer))) (l__law_bad_answer : K.lookup f__law_bad_answer = some ⟨oc__law_bad_answer, od__law_bad_answer, .func (PySem.W.fnOf "_law_bad_answer" "_law_bad_answer" (defArgs s__law_bad_answer) (defBody s__law_bad_answer) (defScope s__law_bad_answer) .none kV__law_bad_answer dc__law_bad_answer pm__law_bad_answer an__law_bad_answer cd__law_bad_answer ct__law_bad_answer), sl__law_bad_answer⟩) (c__law_bad_answer : PySem.W.codeIn K cd__law_bad_answer "_law_bad_answer" = true) (k__law_bad_answer : PySem.W.keepIn K (.ref f__law_bad_answer) = true)
    {f__law_spoilt : Addr} {od__law_spoilt an__law_spoilt : Option Addr} {sl__law_spoilt : Array (Option Value)} {oc__law_spoilt kV__law_spoilt dc__law_spoilt pm__law_spoilt cd__law_spoilt ct__law_spoilt : Value}
    (a__law_spoilt : PySem.W.nsIn K mainGlobals "_law_spoilt" = some (some (.ref f__law_spoilt))) (l__law_spoilt : K.lookup f__law_spoilt = some ⟨oc__law_spoilt, od__law_spoilt, .func (PySem.W.fnOf "_law_spoilt" "_law_spoilt" (defArgs s__law_spoilt) (defBody s__law_spoilt) (defScope s__law_spoilt) .none kV__law_spoilt dc__law_spoilt pm__law_spoilt an__law_spoilt cd__law_spoilt ct__law_spoilt), sl__law_spoilt⟩) (c__law_spoilt : PySem.W.codeIn K cd__law_spoilt "_law_spoilt" = true) (k__law_spoilt : PySem.W.keepIn K (.ref f__law_spoilt) = true)
    {f__law_good : Addr} {od__law_good an__law_good : Option Addr} {sl__law_good : Array (Option Value)} {oc__law_good kV__law_good dc__law_good pm__law_good cd__law_good ct__law_good : Value}
    (a__law_good : PySem.W.nsIn K mainGlobals "_law_good" = some (some (.ref f__law_good))) (l__law_good : K.lookup f__law_good = some ⟨oc__law_good, od__law_good, .func (PySem.W.fnOf "_law_good" "_law_good" (defArgs s__law_good) (defBody s__law_good) (defScope s__law_good) .none kV__law_good dc__law_good pm__law_good an__law_good cd__law_good ct__law_good), sl__law_good⟩) (c__law_good : PySem.W.codeIn K cd__law_good "_law_good" = true) (k__law_good : PySem.W.keepIn K (.ref f__law_good) = true)
    {f__law_kind : Addr} {od__law_kind an__law_kind : Option Addr} {sl__law_kind : Array (Option Value)} {oc__law_kind kV__law_kind dc__law_kind pm__law_kind cd__law_kind ct__law_kind : Value}
    (a__law_kind : PySem.W.nsIn K mainGlobals "_law_kind" = some (some (.ref f__law_kind))) (l__law_kind : K.lookup f__law_kind = some ⟨oc__law_kind, od__law_kind, .func (PySem.W.fnOf "_law_kind" "_law_kind" (defArgs s__law_kind) (defBody s__law_kind) (defScope s__law_kind) .none kV__law_kind dc__law_kind pm__law_kind an__law_kind cd__law_kind ct__law_kind), sl__law_kind⟩) (c__law_kind : PySem.W.codeIn K cd__law_kind "_law_kind" = true) (k__law_kind : PySem.W.keepIn K (.ref f__law_kind) = true)
    {f_law : Addr} {od_law an_law : Option Addr} {sl_law : Array (Option Value)} {oc_law kV_law dc_law pm_law cd_law ct_law : Value}
    (a_law : PySem.W.nsIn K mainGlobals "law" = some (some (.ref f_law))) (l_law : K.lookup f_law = some ⟨oc_law, od_law, .func (PySem.W.fnOf "law" "law" (defArgs s_law) (defBody s_law) (defScope s_law) .none kV_law dc_law pm_law an_law cd_law ct_law), sl_law⟩) (c_law : PySem.W.codeIn K cd_law "law" = true) (k_law : PySem.W.keepIn K (.ref f_law) = true) : Txt K mg := by
  have e_Leading : cA mg "Leading" = C_Leading := cA_of (PySem.W.mg_of X G aC_Leading)
  have e_NoBounds : cA mg "NoBounds" = C_NoBounds := cA_of (PySem.W.mg_of X G aC_NoBounds)
  have e_NoAnswers : cA mg "NoAnswers" = C_NoAnswers := cA_of (PySem.W.mg_of X G aC_NoAnswers)
  have e_SpeakError : cA mg "SpeakError" = C_SpeakError := cA_of (PySem.W.mg_of X G aC_SpeakError)
  exact ⟨(PySem.W.mg_none_of X G z_n_bool), (PySem.W.mg_none_of X G z_n_int), (PySem.W.mg_none_of X G z_n_isinstance), (PySem.W.mg_none_of X G z_n_all), (PySem.W.mg_none_of X G z_n_len), (PySem.W.mg_none_of X G z_n_list), (⟨_, PySem.W.mg_of X G z_g_MOST_SUM, y_g_MOST_SUM⟩), (⟨_, PySem.W.mg_of X G z_g_MOST_SUMS, y_g_MOST_SUMS⟩), (PySem.W.mg_none_of X G z_n_sum), (PySem.W.mg_none_of X G z_n_zip), (by rw [e_Leading]; exact PySem.W.mg_of X G aC_Leading), (by rw [e_Leading]; exact ⟨pg_Leading, hd_Leading, po_Leading, sa_Leading⟩), (by rw [e_Leading]; exact na_Leading_rows), (by rw [e_Leading]; exact na_Leading_columns), (by rw [e_Leading]; exact na_Leading_units), (by rw [e_Leading]; exact na_Leading_weights), (PySem.W.mg_none_of X G z_n_enumerate), (PySem.W.mg_none_of X G z_n_range), (PySem.W.mg_none_of X G z_n_min), (PySem.W.mg_none_of X G z_n_sorted), (PySem.W.mg_none_of X G z_n_tuple), (⟨_, PySem.W.mg_of X G z_g_MOST_WEIGHT_led, y_g_MOST_WEIGHT_led⟩), (⟨_, PySem.W.mg_of X G z_g_MOST_UNITS, y_g_MOST_UNITS⟩), (by rw [e_NoBounds]; exact PySem.W.mg_of X G aC_NoBounds), (by rw [e_NoBounds]; exact ⟨xx_NoBounds, xk_NoBounds, xb_NoBounds, xt_NoBounds⟩), (PySem.W.mg_none_of X G z_n_any), (PySem.W.mg_none_of X G z_n_abs), (⟨_, PySem.W.mg_of X G z_g_FAR, y_g_FAR⟩), (⟨_, PySem.W.mg_of X G z_g_MOST_WEIGHT_lacking, y_g_MOST_WEIGHT_lacking⟩), (⟨_, PySem.W.mg_of X G z_g_MOST_ANSWERS, y_g_MOST_ANSWERS⟩), (by rw [e_NoAnswers]; exact PySem.W.mg_of X G aC_NoAnswers), (by rw [e_NoAnswers]; exact ⟨xx_NoAnswers, xk_NoAnswers, xb_NoAnswers, xt_NoAnswers⟩), (by rw [e_SpeakError]; exact PySem.W.mg_of X G aC_SpeakError), (by rw [e_SpeakError]; exact ⟨yb_SpeakError, yi_SpeakError, yt_SpeakError⟩), (PySem.W.mg_none_of X G z_n_max), (by rw [e_NoBounds]; exact ⟨z0_NoBounds, z1_NoBounds, z2_NoBounds, z3_NoBounds, z4_NoBounds, z5_NoBounds, z6_NoBounds, z7_NoBounds⟩), (by rw [e_NoAnswers]; exact ⟨z0_NoAnswers, z1_NoAnswers, z2_NoAnswers, z3_NoAnswers, z4_NoAnswers, z5_NoAnswers, z6_NoAnswers, z7_NoAnswers⟩), (by rw [e_NoBounds]; exact ⟨yb_NoBounds, yi_NoBounds, yt_NoBounds⟩), (by rw [e_NoAnswers]; exact ⟨yb_NoAnswers, yi_NoAnswers, yt_NoAnswers⟩), (by rw [e_NoBounds]; exact es_NoBounds_NoBounds), (by rw [e_NoBounds, e_NoAnswers]; exact es_NoBounds_NoAnswers), (by rw [e_NoBounds, e_SpeakError]; exact es_NoBounds_SpeakError), (by rw [e_NoAnswers]; exact es_NoAnswers_NoAnswers), (by rw [e_NoAnswers, e_NoBounds]; exact es_NoAnswers_NoBounds), (by rw [e_NoAnswers, e_SpeakError]; exact es_NoAnswers_SpeakError), (⟨f_is_whole, _, fun_mk (st := s_is_whole) l_is_whole c_is_whole k_is_whole, PySem.W.mg_of X G a_is_whole, (fun_mk (st := s_is_whole) l_is_whole c_is_whole k_is_whole).binds (ps := ["thing", "low", "high"]) fun _ _ _ _ _ _ us hl => match us, hl with | [_, _, _], _ => rfl⟩), (⟨f_are_sums, _, fun_mk (st := s_are_sums) l_are_sums c_are_sums k_are_sums, PySem.W.mg_of X G a_are_sums, (fun_mk (st := s_are_sums) l_are_sums c_are_sums k_are_sums).binds (ps := ["things"]) fun _ _ _ _ _ _ us hl => match us, hl with | [_], _ => rfl⟩), (by rw [e_Leading]; exact ⟨f_Leading_row_lack, _, fun_mk (st := s_Leading_row_lack) l_Leading_row_lack c_Leading_row_lack k_Leading_row_lack, ⟨a_Leading_row_lack, i_Leading_row_lack, k_Leading_row_lack⟩, (fun_mk (st := s_Leading_row_lack) l_Leading_row_lack c_Leading_row_lack k_Leading_row_lack).binds (ps := ["self", "row"]) fun _ _ _ _ _ _ us hl => match us, hl with | [_, _], _ => rfl⟩), (by rw [e_Leading]; exact ⟨f_Leading_column_lack, _, fun_mk (st := s_Leading_column_lack) l_Leading_column_lack c_Leading_column_lack k_Leading_column_lack, ⟨a_Leading_column_lack, i_Leading_column_lack, k_Leading_column_lack⟩, (fun_mk (st := s_Leading_column_lack) l_Leading_column_lack c_Leading_column_lack k_Leading_column_lack).binds (ps := ["self", "column"]) fun _ _ _ _ _ _ us hl => match us, hl with | [_, _], _ => rfl⟩), (by rw [e_Leading]; exact ⟨f_Leading___init__, _, fun_mk (st := s_Leading___init__) l_Leading___init__ c_Leading___init__ k_Leading___init__, ⟨mk_Leading, a_Leading___init__, i_Leading___init__, kc_Leading⟩, (fun_mk (st := s_Leading___init__) l_Leading___init__ c_Leading___init__ k_Leading___init__).binds (ps := ["self", "rows", "columns", "units"]) fun _ _ _ _ _ _ us hl => match us, hl with | [_, _, _, _], _ => rfl⟩), (by rw [e_Leading]; exact ⟨f_Leading_next_columns, _, fun_mk (st := s_Leading_next_columns) l_Leading_next_columns c_Leading_next_columns k_Leading_next_columns, ⟨a_Leading_next_columns, i_Leading_next_columns, k_Leading_next_columns⟩, (fun_mk (st := s_Leading_next_columns) l_Leading_next_columns c_Leading_next_columns k_Leading_next_columns).binds (ps := ["self", "last", "others"]) fun _ _ _ _ _ _ us hl => match us, hl with | [_, _, _], _ => rfl⟩), (by rw [e_Leading]; exact ⟨f_Leading_next_rows, _, fun_mk (st := s_Leading_next_rows) l_Leading_next_rows c_Leading_next_rows k_Leading_next_rows, ⟨a_Leading_next_rows, i_Leading_next_rows, k_Leading_next_rows⟩, (fun_mk (st := s_Leading_next_rows) l_Leading_next_rows c_Leading_next_rows k_Leading_next_rows).binds (ps := ["self", "last", "some"]) fun _ _ _ _ _ _ us hl => match us, hl with | [_, _, _], _ => rfl⟩), (by rw [e_Leading]; exact ⟨f_Leading_spread_out, _, fun_mk (st := s_Leading_spread_out) l_Leading_spread_out c_Leading_spread_out k_Leading_spread_out, ⟨a_Leading_spread_out, i_Leading_spread_out, k_Leading_spread_out⟩, (fun_mk (st := s_Leading_spread_out) l_Leading_spread_out c_Leading_spread_out k_Leading_spread_out).binds (ps := ["self"]) fun _ _ _ _ _ _ us hl => match us, hl with | [_], _ => rfl⟩), (by rw [e_Leading]; exact ⟨f_Leading_way_back, _, fun_mk (st := s_Leading_way_back) l_Leading_way_back c_Leading_way_back k_Leading_way_back, ⟨a_Leading_way_back, i_Leading_way_back, k_Leading_way_back⟩, (fun_mk (st := s_Leading_way_back) l_Leading_way_back c_Leading_way_back k_Leading_way_back).binds (ps := ["self", "some", "others", "column"]) fun _ _ _ _ _ _ us hl => match us, hl with | [_, _, _, _], _ => rfl⟩), (by rw [e_Leading]; exact ⟨f_Leading_carry, _, fun_mk (st := s_Leading_carry) l_Leading_carry c_Leading_carry k_Leading_carry, ⟨a_Leading_carry, i_Leading_carry, k_Leading_carry⟩, (fun_mk (st := s_Leading_carry) l_Leading_carry c_Leading_carry k_Leading_carry).binds (ps := ["self", "some", "others", "column"]) fun _ _ _ _ _ _ us hl => match us, hl with | [_, _, _, _], _ => rfl⟩), (by rw [e_Leading]; exact ⟨f_Leading_lead, _, fun_mk (st := s_Leading_lead) l_Leading_lead c_Leading_lead k_Leading_lead, ⟨a_Leading_lead, i_Leading_lead, k_Leading_lead⟩, (fun_mk (st := s_Leading_lead) l_Leading_lead c_Leading_lead k_Leading_lead).binds (ps := ["self"]) fun _ _ _ _ _ _ us hl => match us, hl with | [_], _ => rfl⟩), (⟨f_is_unit, _, fun_mk (st := s_is_unit) l_is_unit c_is_unit k_is_unit, PySem.W.mg_of X G a_is_unit, (fun_mk (st := s_is_unit) l_is_unit c_is_unit k_is_unit).binds (ps := ["thing", "rows", "columns"]) fun _ _ _ _ _ _ us hl => match us, hl with | [_, _, _], _ => rfl⟩), (⟨f_look_led, _, fun_mk (st := s_look_led) l_look_led c_look_led k_look_led, PySem.W.mg_of X G a_look_led, (fun_mk (st := s_look_led) l_look_led c_look_led k_look_led).binds (ps := ["rows", "columns", "units"]) fun _ _ _ _ _ _ us hl => match us, hl with | [_, _, _], _ => rfl⟩), (⟨f_led, _, fun_mk (st := s_led) l_led c_led k_led, PySem.W.mg_of X G a_led, (fun_mk (st := s_led) l_led c_led k_led).binds (ps := ["rows", "columns", "units"]) fun _ _ _ _ _ _ us hl => match us, hl with | [_, _, _], _ => rfl⟩), (⟨f_are_numbers, _, fun_mk (st := s_are_numbers) l_are_numbers c_are_numbers k_are_numbers, PySem.W.mg_of X G a_are_numbers, (fun_mk (st := s_are_numbers) l_are_numbers c_are_numbers k_are_numbers).binds (ps := ["some", "many"]) fun _ _ _ _ _ _ us hl => match us, hl with | [_, _], _ => rfl⟩), (⟨f_is_cut, _, fun_mk (st := s_is_cut) l_is_cut c_is_cut k_is_cut, PySem.W.mg_of X G a_is_cut, (fun_mk (st := s_is_cut) l_is_cut c_is_cut k_is_cut).binds (ps := ["rows", "columns", "units", "told"]) fun _ _ _ _ _ _ us hl => match us, hl with | [_, _, _, _], _ => rfl⟩), (⟨f_are_weights, _, fun_mk (st := s_are_weights) l_are_weights c_are_weights k_are_weights, PySem.W.mg_of X G a_are_weights, (fun_mk (st := s_are_weights) l_are_weights c_are_weights k_are_weights).binds (ps := ["rows", "columns", "units", "weights"]) fun _ _ _ _ _ _ us hl => match us, hl with | [_, _, _, _], _ => rfl⟩), (⟨f_is_led, _, fun_mk (st := s_is_led) l_is_led c_is_led k_is_led, PySem.W.mg_of X G a_is_led, (fun_mk (st := s_is_led) l_is_led c_is_led k_is_led).binds (ps := ["rows", "columns", "units", "told"]) fun _ _ _ _ _ _ us hl => match us, hl with | [_, _, _, _], _ => rfl⟩), (⟨f_divisor, _, fun_mk (st := s_divisor) l_divisor c_divisor k_divisor, PySem.W.mg_of X G a_divisor, (fun_mk (st := s_divisor) l_divisor c_divisor k_divisor).binds (ps := ["one", "other"]) fun _ _ _ _ _ _ us hl => match us, hl with | [_, _], _ => rfl⟩), (⟨f_share, _, fun_mk (st := s_share) l_share c_share k_share, PySem.W.mg_of X G a_share, (fun_mk (st := s_share) l_share c_share k_share).binds (ps := ["top", "bottom"]) fun _ _ _ _ _ _ us hl => match us, hl with | [_, _], _ => rfl⟩), (⟨f_below, _, fun_mk (st := s_below) l_below c_below k_below, PySem.W.mg_of X G a_below, (fun_mk (st := s_below) l_below c_below k_below).binds (ps := ["one", "other"]) fun _ _ _ _ _ _ us hl => match us, hl with | [_, _], _ => rfl⟩), (⟨f_greatest_mean, _, fun_mk (st := s_greatest_mean) l_greatest_mean c_greatest_mean k_greatest_mean, PySem.W.mg_of X G a_greatest_mean, (fun_mk (st := s_greatest_mean) l_greatest_mean c_greatest_mean k_greatest_mean).binds (ps := ["rows"]) fun _ _ _ _ _ _ us hl => match us, hl with | [_], _ => rfl⟩), (⟨f_filled, _, fun_mk (st := s_filled) l_filled c_filled k_filled, PySem.W.mg_of X G a_filled, (fun_mk (st := s_filled) l_filled c_filled k_filled).binds (ps := ["answers", "counted", "place"]) fun _ _ _ _ _ _ us hl => match us, hl with | [_, _, _], _ => rfl⟩), (⟨f_is_answer, _, fun_mk (st := s_is_answer) l_is_answer c_is_answer k_is_answer, PySem.W.mg_of X G a_is_answer, (fun_mk (st := s_is_answer) l_is_answer c_is_answer k_is_answer).binds (ps := ["thing", "many"]) fun _ _ _ _ _ _ us hl => match us, hl with | [_, _], _ => rfl⟩), (⟨f_look_lacking, _, fun_mk (st := s_look_lacking) l_look_lacking c_look_lacking k_look_lacking, PySem.W.mg_of X G a_look_lacking, (fun_mk (st := s_look_lacking) l_look_lacking c_look_lacking k_look_lacking).binds (ps := ["answers", "many"]) fun _ _ _ _ _ _ us hl => match us, hl with | [_, _], _ => rfl⟩), (⟨f_total_stretch, _, fun_mk (st := s_total_stretch) l_total_stretch c_total_stretch k_total_stretch, PySem.W.mg_of X G a_total_stretch, (fun_mk (st := s_total_stretch) l_total_stretch c_total_stretch k_total_stretch).binds (ps := ["answers"]) fun _ _ _ _ _ _ us hl => match us, hl with | [_], _ => rfl⟩), (⟨f_mean_stretch, _, fun_mk (st := s_mean_stretch) l_mean_stretch c_mean_stretch k_mean_stretch, PySem.W.mg_of X G a_mean_stretch, (fun_mk (st := s_mean_stretch) l_mean_stretch c_mean_stretch k_mean_stretch).binds (ps := ["answers"]) fun _ _ _ _ _ _ us hl => match us, hl with | [_], _ => rfl⟩), (⟨f__law_cell, _, fun_mk (st := s__law_cell) l__law_cell c__law_cell k__law_cell, PySem.W.mg_of X G a__law_cell, (fun_mk (st := s__law_cell) l__law_cell c__law_cell k__law_cell).binds (ps := ["_law_script", "_law_k"]) fun _ _ _ _ _ _ us hl => match us, hl with | [_, _], _ => rfl⟩), (⟨f__law_mix, _, fun_mk (st := s__law_mix) l__law_mix c__law_mix k__law_mix, PySem.W.mg_of X G a__law_mix, (fun_mk (st := s__law_mix) l__law_mix c__law_mix k__law_mix).binds (ps := ["_law_cell_here", "_law_k"]) fun _ _ _ _ _ _ us hl => match us, hl with | [_, _], _ => rfl⟩), (⟨f__law_bad_list, _, fun_mk (st := s__law_bad_list) l__law_bad_list c__law_bad_list k__law_bad_list, PySem.W.mg_of X G a__law_bad_list, (fun_mk (st := s__law_bad_list) l__law_bad_list c__law_bad_list k__law_bad_list).binds (ps := ["_law_cell_here", "_law_place"]) fun _ _ _ _ _ _ us hl => match us, hl with | [_, _], _ => rfl⟩), (⟨f__law_bad_unit, _, fun_mk (st := s__law_bad_unit) l__law_bad_unit c__law_bad_unit k__law_bad_unit, PySem.W.mg_of X G a__law_bad_unit, (fun_mk (st := s__law_bad_unit) l__law_bad_unit c__law_bad_unit k__law_bad_unit).binds (ps := ["_law_cell_here"]) fun _ _ _ _ _ _ us hl => match us, hl with | [_], _ => rfl⟩), (⟨f__law_bad_answer, _, fun_mk (st := s__law_bad_answer) l__law_bad_answer c__law_bad_answer k__law_bad_answer, PySem.W.mg_of X G a__law_bad_answer, (fun_mk (st := s__law_bad_answer) l__law_bad_answer c__law_bad_answer k__law_bad_answer).binds (ps := ["_law_cell_here", "_law_way"]) fun _ _ _ _ _ _ us hl => match us, hl with | [_, _], _ => rfl⟩), (⟨f__law_spoilt, _, fun_mk (st := s__law_spoilt) l__law_spoilt c__law_spoilt k__law_spoilt, PySem.W.mg_of X G a__law_spoilt, (fun_mk (st := s__law_spoilt) l__law_spoilt c__law_spoilt k__law_spoilt).binds (ps := ["_law_way", "_law_cell_here"]) fun _ _ _ _ _ _ us hl => match us, hl with | [_, _], _ => rfl⟩), (⟨f__law_good, _, fun_mk (st := s__law_good) l__law_good c__law_good k__law_good, PySem.W.mg_of X G a__law_good, (fun_mk (st := s__law_good) l__law_good c__law_good k__law_good).binds (ps := ["_law_way", "_law_edge"]) fun _ _ _ _ _ _ us hl => match us, hl with | [_, _], _ => rfl⟩), (⟨f__law_kind, _, fun_mk (st := s__law_kind) l__law_kind c__law_kind k__law_kind, PySem.W.mg_of X G a__law_kind, (fun_mk (st := s__law_kind) l__law_kind c__law_kind k__law_kind).binds (ps := ["_law_way", "_law_things"]) fun _ _ _ _ _ _ us hl => match us, hl with | [_, _], _ => rfl⟩), (⟨f_law, _, fun_mk (st := s_law) l_law c_law k_law, PySem.W.mg_of X G a_law, (fun_mk (st := s_law) l_law c_law k_law).binds (ps := ["_law_script"]) fun _ _ _ _ _ _ us hl => match us, hl with | [_], _ => rfl⟩)⟩
theorem law_mk {P : Program} {w : World} {K : PySem.W.Frag} {mg : Str → Option Value} {fa : Addr} (T : Txt K mg) (hfa : mg "law" = some (.ref fa)) :
    ∃ fd : FuncData, (∀ (s : Shared) (v : Value), BindsTo s fd ⟨[v], []⟩ [("_law_script", v)]) ∧ ∀ base : Heap, K.In base → base.Ns mainGlobals mg → FnOk P w K mg base CX0 6 fa fd ["_law_script"] (sp_law K mg) := by
  obtain ⟨f, fd, F, hm, b⟩ := T.d_law.ex
  have e := hfa.symm.trans hm
  cases e
  refine ⟨fd, fun s v => ?_, fun base _ _ => c_law T F⟩
  obtain ⟨oc, od, kV, doc, pm, an, cdv, ct, osl, rfl, lk, hcd⟩ := F.ex
  exact .of_eq rfl
end My
open PySem PySem.W PyProof.Rows
set_option maxRecDepth 100000 in
set_option maxHeartbeats 0 in
theorem PySem.Challenge.cw_fewspeak_k77_no_bounds_and_no_answers_holds : PySem.Challenge.rw_fewspeak_k77_no_bounds_and_no_answers.Holds := by
  w_on; o_law; k_head; (case hw => w_witness2)
  k_fill
  refine L2.walk_ofB (l := PySem.Challenge.rw_fewspeak_k77_no_bounds_and_no_answers) (n := 63) (k := 6) (x := "_law_script") (CX := fun _ => L2.CX0) (sp := fun w => My.sp_law _ (fun _ => none)) rfl (by decide) rfl ⟨rfl, by decide, by decide⟩ (fun w h Y => PySem.W.kIn_of Y) ?F (fun _ _ a ns hl hb _ hS => ⟨ns, hS, hl, hb, fun _ => rfl⟩) (fun _ _ _ _ _ h => h)
  case F =>
    intro w mg fa h KX G hmg
    refine' My.law_mk (My.txt_mk KX G ?z_n_bool ?z_n_int ?z_n_isinstance ?z_n_all ?z_n_len ?z_n_list ?z_g_MOST_SUM ?y_g_MOST_SUM ?z_g_MOST_SUMS ?y_g_MOST_SUMS ?z_n_sum ?z_n_zip ?aC_Leading ?pg_Leading ?hd_Leading ?po_Leading ?sa_Leading ?mk_Leading ?kc_Leading ?na_Leading_rows ?na_Leading_columns ?na_Leading_units ?na_Leading_weights ?z_n_enumerate ?z_n_range ?z_n_min ?z_n_sorted ?z_n_tuple ?z_g_MOST_WEIGHT_led ?y_g_MOST_WEIGHT_led ?z_g_MOST_UNITS ?y_g_MOST_UNITS ?aC_NoBounds ?xx_NoBounds ?xk_NoBounds ?xb_NoBounds ?xt_NoBounds ?z_n_any ?z_n_abs ?z_g_FAR ?y_g_FAR ?z_g_MOST_WEIGHT_lacking ?y_g_MOST_WEIGHT_lacking ?z_g_MOST_ANSWERS ?y_g_MOST_ANSWERS ?aC_NoAnswers ?xx_NoAnswers ?xk_NoAnswers ?xb_NoAnswers ?xt_NoAnswers ?aC_SpeakError ?yb_SpeakError ?yi_SpeakError ?yt_SpeakError ?z_n_max ?z0_NoBounds ?z1_NoBounds ?z2_NoBounds ?z3_NoBounds ?z4_NoBounds ?z5_NoBounds ?z6_NoBounds ?z7_NoBounds ?z0_NoAnswers ?z1_NoAnswers ?z2_NoAnswers ?z3_NoAnswers ?z4_NoAnswers ?z5_NoAnswers ?z6_NoAnswers ?z7_NoAnswers ?yb_NoBounds ?yi_NoBounds ?yt_NoBounds ?yb_NoAnswers ?yi_NoAnswers ?yt_NoAnswers ?es_NoBounds_NoBounds ?es_NoBounds_NoAnswers ?es_NoBounds_SpeakError ?es_NoAnswers_NoAnswers ?es_NoAnswers_NoBounds ?es_NoAnswers_SpeakError ?a_is_whole ?l_is_whole ?c_is_whole ?k_is_whole ?a_are_sums ?l_are_sums ?c_are_sums ?k_are_sums ?a_Leading_row_lack ?i_Leading_row_lack ?l_Leading_row_lack ?c_Leading_row_lack ?k_Leading_row_lack ?a_Leading_column_lack ?i_Leading_column_lack ?l_Leading_column_lack ?c_Leading_column_lack ?k_Leading_column_lack ?a_Leading___init__ ?i_Leading___init__ ?l_Leading___init__ ?c_Leading___init__ ?k_Leading___init__ ?a_Leading_next_columns ?i_Leading_next_columns ?l_Leading_next_columns ?c_Leading_next_columns ?k_Leading_next_columns ?a_Leading_next_rows ?i_Leading_next_rows ?l_Leading_next_rows ?c_Leading_next_rows ?k_Leading_next_rows ?a_Leading_spread_out ?i_Leading_spread_out ?l_Leading_spread_out ?c_Leading_spread_out ?k_Leading_spread_out ?a_Leading_way_back ?i_Leading_way_back ?l_Leading_way_back ?c_Leading_way_back ?k_Leading_way_back ?a_Leading_carry ?i_Leading_carry ?l_Leading_carry ?c_Leading_carry ?k_Leading_carry ?a_Leading_lead ?i_Leading_lead ?l_Leading_lead ?c_Leading_lead ?k_Leading_lead ?a_is_unit ?l_is_unit ?c_is_unit ?k_is_unit ?a_look_led ?l_look_led ?c_look_led ?k_look_led ?a_led ?l_led ?c_led ?k_led ?a_are_numbers ?l_are_numbers ?c_are_numbers ?k_are_numbers ?a_is_cut ?l_is_cut ?c_is_cut ?k_is_cut ?a_are_weights ?l_are_weights ?c_are_weights ?k_are_weights ?a_is_led ?l_is_led ?c_is_led ?k_is_led ?a_divisor ?l_divisor ?c_divisor ?k_divisor ?a_share ?l_share ?c_share ?k_share ?a_below ?l_below ?c_below ?k_below ?a_greatest_mean ?l_greatest_mean ?c_greatest_mean ?k_greatest_mean ?a_filled ?l_filled ?c_filled ?k_filled ?a_is_answer ?l_is_answer ?c_is_answer ?k_is_answer ?a_look_lacking ?l_look_lacking ?c_look_lacking ?k_look_lacking ?a_total_stretch ?l_total_stretch ?c_total_stretch ?k_total_stretch ?a_mean_stretch ?l_mean_stretch ?c_mean_stretch ?k_mean_stretch ?a__law_cell ?l__law_cell ?c__law_cell ?k__law_cell ?a__law_mix ?l__law_mix ?c__law_mix ?k__law_mix ?a__law_bad_list ?l__law_bad_list ?c__law_bad_list ?k__law_bad_list ?a__law_bad_unit ?l__law_bad_unit ?c__law_bad_unit ?k__law_bad_unit ?a__law_bad_answer ?l__law_bad_answer ?c__law_bad_answer ?k__law_bad_answer ?a__law_spoilt ?l__law_spoilt ?c__law_spoilt ?k__law_spoilt ?a__law_good ?l__law_good ?c__law_good ?k__law_good ?a__law_kind ?l__law_kind ?c__law_kind ?k__law_kind ?a_law ?l_law ?c_law ?k_law) hmg
    (case z_n_bool => k_is)
    (case z_n_int => k_is)
    (case z_n_isinstance => k_is)
    (case z_n_all => k_is)
    (case z_n_len => k_is)
    (case z_n_list => k_is)
    (case z_g_MOST_SUM => k_is)
    (case y_g_MOST_SUM => exact ⟨_, rfl⟩)
    (case z_g_MOST_SUMS => k_is)
    (case y_g_MOST_SUMS => exact ⟨_, rfl⟩)
    (case z_n_sum => k_is)
    (case z_n_zip => k_is)
    (case aC_Leading => k_is)
    (case pg_Leading => k_is)
    (case hd_Leading => k_is)
    (case po_Leading => k_is)
    (case sa_Leading => k_is)
    (case mk_Leading => k_is)
    (case kc_Leading => k_is)
    (case na_Leading_rows => k_is)
    (case na_Leading_columns => k_is)
    (case na_Leading_units => k_is)
    (case na_Leading_weights => k_is)
    (case z_n_enumerate => k_is)
    (case z_n_range => k_is)
    (case z_n_min => k_is)
    (case z_n_sorted => k_is)
    (case z_n_tuple => k_is)
    (case z_g_MOST_WEIGHT_led => k_is)
    (case y_g_MOST_WEIGHT_led => exact ⟨_, rfl⟩)
    (case z_g_MOST_UNITS => k_is)
    (case y_g_MOST_UNITS => exact ⟨_, rfl⟩)
    (case aC_NoBounds => k_is)
    (case xx_NoBounds => k_exc)
    (case xk_NoBounds => k_is)
    (case xb_NoBounds => k_is)
    (case xt_NoBounds => k_is)
    (case z_n_any => k_is)
    (case z_n_abs => k_is)
    (case z_g_FAR => k_is)
    (case y_g_FAR => exact ⟨_, rfl⟩)
    (case z_g_MOST_WEIGHT_lacking => k_is)
    (case y_g_MOST_WEIGHT_lacking => exact ⟨_, rfl⟩)
    (case z_g_MOST_ANSWERS => k_is)
    (case y_g_MOST_ANSWERS => exact ⟨_, rfl⟩)
    (case aC_NoAnswers => k_is)
    (case xx_NoAnswers => k_exc)
    (case xk_NoAnswers => k_is)
    (case xb_NoAnswers => k_is)
    (case xt_NoAnswers => k_is)
    (case aC_SpeakError => k_is)
    (case yb_SpeakError => k_is)
    (case yi_SpeakError => k_is)
    (case yt_SpeakError => k_is)
    (case z_n_max => k_is)
    (case z0_NoBounds => k_is)
    (case z1_NoBounds => k_is)
    (case z2_NoBounds => k_is)
    (case z3_NoBounds => k_is)
    (case z4_NoBounds => k_is)
    (case z5_NoBounds => k_is)
    (case z6_NoBounds => k_is)
    (case z7_NoBounds => k_is)
    (case z0_NoAnswers => k_is)
    (case z1_NoAnswers => k_is)
    (case z2_NoAnswers => k_is)
    (case z3_NoAnswers => k_is)
    (case z4_NoAnswers => k_is)
    (case z5_NoAnswers => k_is)
    (case z6_NoAnswers => k_is)
    (case z7_NoAnswers => k_is)
    (case yb_NoBounds => k_is)
    (case yi_NoBounds => k_is)
    (case yt_NoBounds => k_is)
    (case yb_NoAnswers => k_is)
    (case yi_NoAnswers => k_is)
    (case yt_NoAnswers => k_is)
    (case es_NoBounds_NoBounds => first | rfl | k_is)
    (case es_NoBounds_NoAnswers => first | rfl | k_is)
    (case es_NoBounds_SpeakError => first | rfl | k_is)
    (case es_NoAnswers_NoAnswers => first | rfl | k_is)
    (case es_NoAnswers_NoBounds => first | rfl | k_is)
    (case es_NoAnswers_SpeakError => first | rfl | k_is)
    (case a_is_whole => k_is)
    (case l_is_whole => k_is)
    (case c_is_whole => k_is)
    (case k_is_whole => k_is)
    (case a_are_sums => k_is)
    (case l_are_sums => k_is)
    (case c_are_sums => k_is)
    (case k_are_sums => k_is)
    (case a_Leading_row_lack => k_is)
    (case i_Leading_row_lack => k_is)
    (case l_Leading_row_lack => k_is)
    (case c_Leading_row_lack => k_is)
    (case k_Leading_row_lack => k_is)
    (case a_Leading_column_lack => k_is)
    (case i_Leading_column_lack => k_is)
    (case l_Leading_column_lack => k_is)
    (case c_Leading_column_lack => k_is)
    (case k_Leading_column_lack => k_is)
    (case a_Leading___init__ => k_is)
    (case i_Leading___init__ => k_is)
    (case l_Leading___init__ => k_is)
    (case c_Leading___init__ => k_is)
    (case k_Leading___init__ => k_is)
    (case a_Leading_next_columns => k_is)
    (case i_Leading_next_columns => k_is)
    (case l_Leading_next_columns => k_is)
    (case c_Leading_next_columns => k_is)
    (case k_Leading_next_columns => k_is)
    (case a_Leading_next_rows => k_is)
    (case i_Leading_next_rows => k_is)
    (case l_Leading_next_rows => k_is)
    (case c_Leading_next_rows => k_is)
    (case k_Leading_next_rows => k_is)
    (case a_Leading_spread_out => k_is)
    (case i_Leading_spread_out => k_is)
    (case l_Leading_spread_out => k_is)
    (case c_Leading_spread_out => k_is)
    (case k_Leading_spread_out => k_is)
    (case a_Leading_way_back => k_is)
    (case i_Leading_way_back => k_is)
    (case l_Leading_way_back => k_is)
    (case c_Leading_way_back => k_is)
    (case k_Leading_way_back => k_is)
    (case a_Leading_carry => k_is)
    (case i_Leading_carry => k_is)
    (case l_Leading_carry => k_is)
    (case c_Leading_carry => k_is)
    (case k_Leading_carry => k_is)
    (case a_Leading_lead => k_is)
    (case i_Leading_lead => k_is)
    (case l_Leading_lead => k_is)
    (case c_Leading_lead => k_is)
    (case k_Leading_lead => k_is)
    (case a_is_unit => k_is)
    (case l_is_unit => k_is)
    (case c_is_unit => k_is)
    (case k_is_unit => k_is)
    (case a_look_led => k_is)
    (case l_look_led => k_is)
    (case c_look_led => k_is)
    (case k_look_led => k_is)
    (case a_led => k_is)
    (case l_led => k_is)
    (case c_led => k_is)
    (case k_led => k_is)
    (case a_are_numbers => k_is)
    (case l_are_numbers => k_is)
    (case c_are_numbers => k_is)
    (case k_are_numbers => k_is)
    (case a_is_cut => k_is)
    (case l_is_cut => k_is)
    (case c_is_cut => k_is)
    (case k_is_cut => k_is)
    (case a_are_weights => k_is)
    (case l_are_weights => k_is)
    (case c_are_weights => k_is)
    (case k_are_weights => k_is)
    (case a_is_led => k_is)
    (case l_is_led => k_is)
    (case c_is_led => k_is)
    (case k_is_led => k_is)
    (case a_divisor => k_is)
    (case l_divisor => k_is)
    (case c_divisor => k_is)
    (case k_divisor => k_is)
    (case a_share => k_is)
    (case l_share => k_is)
    (case c_share => k_is)
    (case k_share => k_is)
    (case a_below => k_is)
    (case l_below => k_is)
    (case c_below => k_is)
    (case k_below => k_is)
    (case a_greatest_mean => k_is)
    (case l_greatest_mean => k_is)
    (case c_greatest_mean => k_is)
    (case k_greatest_mean => k_is)
    (case a_filled => k_is)
    (case l_filled => k_is)
    (case c_filled => k_is)
    (case k_filled => k_is)
    (case a_is_answer => k_is)
    (case l_is_answer => k_is)
    (case c_is_answer => k_is)
    (case k_is_answer => k_is)
    (case a_look_lacking => k_is)
    (case l_look_lacking => k_is)
    (case c_look_lacking => k_is)
    (case k_look_lacking => k_is)
    (case a_total_stretch => k_is)
    (case l_total_stretch => k_is)
    (case c_total_stretch => k_is)
    (case k_total_stretch => k_is)
    (case a_mean_stretch => k_is)
    (case l_mean_stretch => k_is)
    (case c_mean_stretch => k_is)
    (case k_mean_stretch => k_is)
    (case a__law_cell => k_is)
    (case l__law_cell => k_is)
    (case c__law_cell => k_is)
    (case k__law_cell => k_is)
    (case a__law_mix => k_is)
    (case l__law_mix => k_is)
    (case c__law_mix => k_is)
    (case k__law_mix => k_is)
    (case a__law_bad_list => k_is)
    (case l__law_bad_list => k_is)
    (case c__law_bad_list => k_is)
    (case k__law_bad_list => k_is)
    (case a__law_bad_unit => k_is)
    (case l__law_bad_unit => k_is)
    (case c__law_bad_unit => k_is)
    (case k__law_bad_unit => k_is)
    (case a__law_bad_answer => k_is)
    (case l__law_bad_answer => k_is)
    (case c__law_bad_answer => k_is)
    (case k__law_bad_answer => k_is)
    (case a__law_spoilt => k_is)
    (case l__law_spoilt => k_is)
    (case c__law_spoilt => k_is)
    (case k__law_spoilt => k_is)
    (case a__law_good => k_is)
    (case l__law_good => k_is)
    (case c__law_good => k_is)
    (case k__law_good => k_is)
    (case a__law_kind => k_is)
    (case l__law_kind => k_is)
    (case c__law_kind => k_is)
    (case k__law_kind => k_is)
    (case a_law => k_is)
    (case l_law => k_is)
    (case c_law => k_is)
    (case k_law => k_is)
#print axioms PySem.Challenge.cw_fewspeak_k77_no_bounds_and_no_answers_holds

