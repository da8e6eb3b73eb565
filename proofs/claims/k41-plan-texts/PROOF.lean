import PyProof.Rows.All
import Wide.All
import OpenK.AllK
import Wide.FinOn
import HandS.ForMost
import HandS.Exc
import HandS.TryOnly
import HandS.ExcOwn
import HandS.WordsExc
import HandS.Wide
import HandS.IsInst
import HandS.EndBits
import HandS.Conv
import HandS.Style
import HandS.TupAny
import HandS.Evl
import HandS.Walk
import HandS.ExcIs
import HandS.ExcInit
import HandS.ExcField
import HandS.ExcValue
import HandS.SetKeys
import KE.KExcIs
import HandS.Iter
import HandS.Defaults
import HandS.CallSlots
import HandS.More
import PyProof.StrBlock2
import HandS.Text
import HandS.ListItems
import HandS.Codes
import HandS.FStr
import KE.IntTextText
import KE.KIntText
import PySem.Challenge.RW_fewspeak_k41_plans_as_texts
set_option Elab.async false
set_option linter.all false
set_option maxRecDepth 100000
set_option maxHeartbeats 4000000
namespace Kt
open PySem PySem.Spec PyProof.Rows L2
/-- a def of the top, as it stands behind the top -/
structure DefAt (K : PySem.W.Frag) (mg : Str → Option Value) (x : Str) (st : Stmt) (ps : List Str) : Prop where
  ex : ∃ (f : Addr) (fd : FuncData), Fun K x x st f fd ∧ mg x = some (.ref f) ∧ Binds K fd ps []
/-- a method of the class at C -/
structure MethAt (K : PySem.W.Frag) (C : Addr) (m qual : Str) (st : Stmt) (ps : List Str) : Prop where
  ex : ∃ (f : Addr) (fd : FuncData), Fun K m qual st f fd ∧ Meth K C m f ∧ Binds K fd ps []
structure InitAt (K : PySem.W.Frag) (C : Addr) (qual : Str) (st : Stmt) (ps : List Str) : Prop where
  ex : ∃ (f : Addr) (fd : FuncData), Fun K "__init__" qual st f fd ∧ Mk K C f ∧ Binds K fd ps []
/-- the class that a name of the module holds -/
def cA (mg : Str → Option Value) (x : Str) : Addr := match mg x with | some (.ref a) => a | _ => 0
theorem cA_of {mg : Str → Option Value} {x : Str} {a : Addr} (h : mg x = some (.ref a)) : cA mg x = a := by unfold cA; rw [h]
/-- a def that may be called by its name; a method of the class at C; a class that may be made -/
structure Cal (P : Program) (w : World) (K : PySem.W.Frag) (mg : Str → Option Value) (base : Heap) (k : Nat) (x : Str) (sp : Sp) : Prop where
  ex : ∃ (f : Addr) (fd : FuncData) (ps : List Str), FnOk P w K mg base CX0 k f fd ps sp ∧ mg x = some (.ref f) ∧ PySem.W.keepIn K (.ref f) = true ∧ Binds K fd ps []
structure Met (P : Program) (w : World) (K : PySem.W.Frag) (mg : Str → Option Value) (base : Heap) (k : Nat) (C : Addr) (m : Str) (sp : Sp) : Prop where
  ex : ∃ (f : Addr) (fd : FuncData) (ps : List Str), Cls K C ∧ Meth K C m f ∧ FnOk P w K mg base CX0 k f fd ps sp ∧ Binds K fd ps []
structure Mak (P : Program) (w : World) (K : PySem.W.Frag) (mg : Str → Option Value) (base : Heap) (k : Nat) (x : Str) (C : Addr) (sp : Sp) : Prop where
  ex : ∃ (f : Addr) (fd : FuncData) (ps : List Str), Mk K C f ∧ FnOk P w K mg base CX0 k f fd ps sp ∧ mg x = some (.ref C) ∧ Binds K fd ps []
section
variable {P : Program} {w : World} {K : PySem.W.Frag} {mg : Str → Option Value} {base : Heap}
theorem DefAt.cal {x : Str} {st : Stmt} {N ps : List Str} {k : Nat} {sp : Sp} (d : DefAt K mg x st ps) (S : FnScope N ps (defScope st)) (len : ∀ vs H Q E, sp vs H Q E → vs.length = ps.length)
    (hbody : ∀ (f : Addr) (cdv : Value) (A : Around) (outer : List Env) (s : Shared) (H : Hp) (vs : List V) (Q : VK) (E : XK), Room k (A.deeper (envOfC x (defScope st) s.heap.objs.size f cdv)) → sp vs H Q E →
      ∃ t, PSs (cxOf CX0 P w K mg base N x (defScope st) f cdv A outer s H E).nox (defBody st) t ∧ t { nx := fun _ H' => Q .non H', rt := Q } (start N vs) H) : Cal P w K mg base (k + 1) x sp := by
  obtain ⟨f, fd, F, hm, b⟩ := d.ex
  exact ⟨f, fd, ps, F.ok S len (hbody f), hm, F.kp, b⟩
/-- a def of the top by one more name -/
structure DefAtA (K : PySem.W.Frag) (mg : Str → Option Value) (x nm : Str) (st : Stmt) (ps : List Str) : Prop where
  ex : ∃ (f : Addr) (fd : FuncData), Fun K nm nm st f fd ∧ mg x = some (.ref f) ∧ Binds K fd ps []
theorem DefAtA.cal {x nm : Str} {st : Stmt} {N ps : List Str} {k : Nat} {sp : Sp} (d : DefAtA K mg x nm st ps) (S : FnScope N ps (defScope st)) (len : ∀ vs H Q E, sp vs H Q E → vs.length = ps.length)
    (hbody : ∀ (f : Addr) (cdv : Value) (A : Around) (outer : List Env) (s : Shared) (H : Hp) (vs : List V) (Q : VK) (E : XK), Room k (A.deeper (envOfC nm (defScope st) s.heap.objs.size f cdv)) → sp vs H Q E →
      ∃ t, PSs (cxOf CX0 P w K mg base N nm (defScope st) f cdv A outer s H E).nox (defBody st) t ∧ t { nx := fun _ H' => Q .non H', rt := Q } (start N vs) H) : Cal P w K mg base (k + 1) x sp := by
  obtain ⟨f, fd, F, hm, b⟩ := d.ex
  exact ⟨f, fd, ps, F.ok S len (hbody f), hm, F.kp, b⟩
theorem MethAt.met {C : Addr} {m qual : Str} {st : Stmt} {N ps : List Str} {k : Nat} {sp : Sp} (c : Cls K C) (d : MethAt K C m qual st ps) (S : FnScope N ps (defScope st)) (len : ∀ vs H Q E, sp vs H Q E → vs.length = ps.length)
    (hbody : ∀ (f : Addr) (cdv : Value) (A : Around) (outer : List Env) (s : Shared) (H : Hp) (vs : List V) (Q : VK) (E : XK), Room k (A.deeper (envOfC qual (defScope st) s.heap.objs.size f cdv)) → sp vs H Q E →
      ∃ t, PSs (cxOf CX0 P w K mg base N qual (defScope st) f cdv A outer s H E).nox (defBody st) t ∧ t { nx := fun _ H' => Q .non H', rt := Q } (start N vs) H) : Met P w K mg base (k + 1) C m sp := by
  obtain ⟨f, fd, F, hm, b⟩ := d.ex
  exact ⟨f, fd, ps, c, hm, F.ok S len (hbody f), b⟩
theorem InitAt.mak {x : Str} {C : Addr} {qual : Str} {st : Stmt} {N ps : List Str} {k : Nat} {sp : Sp} (hx : mg x = some (.ref C)) (d : InitAt K C qual st ps) (S : FnScope N ps (defScope st)) (len : ∀ vs H Q E, sp vs H Q E → vs.length = ps.length)
    (hbody : ∀ (f : Addr) (cdv : Value) (A : Around) (outer : List Env) (s : Shared) (H : Hp) (vs : List V) (Q : VK) (E : XK), Room k (A.deeper (envOfC qual (defScope st) s.heap.objs.size f cdv)) → sp vs H Q E →
      ∃ t, PSs (cxOf CX0 P w K mg base N qual (defScope st) f cdv A outer s H E).nox (defBody st) t ∧ t { nx := fun _ H' => Q .non H', rt := Q } (start N vs) H) : Mak P w K mg base (k + 1) x C sp := by
  obtain ⟨f, fd, F, hm, b⟩ := d.ex
  exact ⟨f, fd, ps, hm, F.ok S len (hbody f), hx, b⟩
/-- a def that may raise -/
structure CalX (P : Program) (w : World) (K : PySem.W.Frag) (mg : Str → Option Value) (base : Heap) (k : Nat) (x : Str) (sp : Sp) : Prop where
  ex : ∃ (f : Addr) (fd : FuncData) (ps : List Str), FnOk P w K mg base (L2.CX P w) k f fd ps sp ∧ mg x = some (.ref f) ∧ PySem.W.keepIn K (.ref f) = true ∧ Binds K fd ps []
theorem DefAt.calX {x : Str} {st : Stmt} {N ps : List Str} {k : Nat} {sp : Sp} (d : DefAt K mg x st ps) (S : FnScope N ps (defScope st)) (len : ∀ vs H Q E, sp vs H Q E → vs.length = ps.length)
    (hbody : ∀ (f : Addr) (cdv : Value) (A : Around) (outer : List Env) (s : Shared) (H : Hp) (vs : List V) (Q : VK) (E : XK), Room k (A.deeper (envOfC x (defScope st) s.heap.objs.size f cdv)) → sp vs H Q E →
      ∃ t, PSs (cxOf (L2.CX P w) P w K mg base N x (defScope st) f cdv A outer s H E) (defBody st) t ∧ t { nx := fun _ H' => Q .non H', rt := Q } (start N vs) H) : CalX P w K mg base (k + 1) x sp := by
  obtain ⟨f, fd, F, hm, b⟩ := d.ex
  exact ⟨f, fd, ps, F.okX S len (hbody f), hm, F.kp, b⟩
theorem DefAtA.calX {x nm : Str} {st : Stmt} {N ps : List Str} {k : Nat} {sp : Sp} (d : DefAtA K mg x nm st ps) (S : FnScope N ps (defScope st)) (len : ∀ vs H Q E, sp vs H Q E → vs.length = ps.length)
    (hbody : ∀ (f : Addr) (cdv : Value) (A : Around) (outer : List Env) (s : Shared) (H : Hp) (vs : List V) (Q : VK) (E : XK), Room k (A.deeper (envOfC nm (defScope st) s.heap.objs.size f cdv)) → sp vs H Q E →
      ∃ t, PSs (cxOf (L2.CX P w) P w K mg base N nm (defScope st) f cdv A outer s H E) (defBody st) t ∧ t { nx := fun _ H' => Q .non H', rt := Q } (start N vs) H) : CalX P w K mg base (k + 1) x sp := by
  obtain ⟨f, fd, F, hm, b⟩ := d.ex
  exact ⟨f, fd, ps, F.okX S len (hbody f), hm, F.kp, b⟩
end
section
variable {X : Cx} {k j : Nat} {C : Addr} {x m : Str} {sp : Sp} {p pos apos : Pos} {e o : Expr} {es : List Expr} {ta : TE} {t : TA}
theorem pe_c (c : Cal X.prog X.w X.K X.mg X.base k x sp) (hr : Room j X.A) (hk : k ≤ j) (hg : Gl X x) (ha : PA X (e :: es) t)
    (hdb : (x == ("__debug__" : Str)) = false := by decide) (he : starEach (e :: es) X.env = (false, eval e X.env) :: starEach es X.env := by rfl) (hpl : (backTo pos (starEach es X.env)).any (·.1) = false := by rfl) :
    PE X (.Call (.Name x p) (e :: es) [] pos) (tCall sp [] E0 t) := by
  obtain ⟨f, fd, ps, F, hm, kp, b⟩ := c.ex
  exact pe_call F (hr.mono hk) hg hm kp b .nil pass0 ha hdb he hpl
theorem pe_c0 (c : Cal X.prog X.w X.K X.mg X.base k x sp) (hr : Room j X.A) (hk : k ≤ j) (hg : Gl X x)
    (hdb : (x == ("__debug__" : Str)) = false := by decide) :
    PE X (.Call (.Name x p) [] [] pos) (tCall sp [] E0 tNil) := by
  obtain ⟨f, fd, ps, F, hm, kp, b⟩ := c.ex
  exact pe_call0 F (hr.mono hk) hg hm kp b .nil pass0 hdb
theorem pe_mk (c : Mak X.prog X.w X.K X.mg X.base k x C sp) (hr : Room j X.A) (hk : k + 1 ≤ j) (hg : Gl X x) (ha : PA X (e :: es) t)
    (hdb : (x == ("__debug__" : Str)) = false := by decide) (he : starEach (e :: es) X.env = (false, eval e X.env) :: starEach es X.env := by rfl) (hpl : (backTo pos (starEach es X.env)).any (·.1) = false := by rfl) :
    PE X (.Call (.Name x p) (e :: es) [] pos) (tMake C sp [] E0 t) := by
  obtain ⟨f, fd, ps, M, F, hm, b⟩ := c.ex
  exact pe_make M F (hr.mono hk) hg hm b .nil pass0 ha hdb he hpl
theorem pe_mk0 (c : Mak X.prog X.w X.K X.mg X.base k x C sp) (hr : Room j X.A) (hk : k + 1 ≤ j) (hg : Gl X x)
    (hdb : (x == ("__debug__" : Str)) = false := by decide) : PE X (.Call (.Name x p) [] [] pos) (tMake C sp [] E0 tNil) := by
  obtain ⟨f, fd, ps, M, F, hm, b⟩ := c.ex
  exact pe_make0 M F (hr.mono hk) hg hm b .nil pass0 hdb
theorem pe_mt {pl : Sem Bool} (c : Met X.prog X.w X.K X.mg X.base k C m sp) (hr : Room j X.A) (hk : k ≤ j) (he : PE X o ta) (ha : PA X (e :: es) t)
    (hst : starEach (e :: es) X.env = (false, eval e X.env) :: starEach es X.env := by rfl) (hpl : (backTo pos (starEach es X.env)).any (·.1) = false := by rfl)
    (ht : eval (.Call (.Attribute o m apos) (e :: es) [] pos) X.env = (do
      let ov ← eval o X.env
      standAt apos.atName
      let (f, first) ← holding [ov] (getMethod ov m pl)
      callWith pos f first (backTo pos (starEach (e :: es) X.env)) (backToKw pos (keywordEach [] X.env))) := by rfl) :
    PE X (.Call (.Attribute o m apos) (e :: es) [] pos) (tMeth C m sp [] E0 ta t) := by
  obtain ⟨f, fd, ps, hc, hm, F, b⟩ := c.ex
  exact pe_meth (pl := pl) he hc hm F (hr.mono hk) b .nil pass0 ha hst hpl ht
theorem pe_mt0 {pl : Sem Bool} (c : Met X.prog X.w X.K X.mg X.base k C m sp) (hr : Room j X.A) (hk : k ≤ j) (he : PE X o ta)
    (ht : eval (.Call (.Attribute o m apos) [] [] pos) X.env = (do
      let ov ← eval o X.env
      standAt apos.atName
      let (f, first) ← holding [ov] (getMethod ov m pl)
      callWith pos f first (backTo pos (starEach [] X.env)) (backToKw pos (keywordEach [] X.env))) := by rfl) :
    PE X (.Call (.Attribute o m apos) [] [] pos) (tMeth C m sp [] E0 ta tNil) := by
  obtain ⟨f, fd, ps, hc, hm, F, b⟩ := c.ex
  exact pe_meth0 (pl := pl) he hc hm F (hr.mono hk) b .nil pass0 ht
/-- a call of a def that may raise, where nothing is raised -/
theorem pe_x0 (c : CalX X.prog X.w X.K X.mg X.base k x sp) (hr : Room j X.A) (hk : k ≤ j) (hg : Gl X x) (ha : PA X (e :: es) t)
    (hdb : (x == ("__debug__" : Str)) = false := by decide) (he : starEach (e :: es) X.env = (false, eval e X.env) :: starEach es X.env := by rfl) (hpl : (backTo pos (starEach es X.env)).any (·.1) = false := by rfl) :
    PE X (.Call (.Name x p) (e :: es) [] pos) (tCall sp [] E0 t) := by
  obtain ⟨f, fd, ps, F, hm, kp, b⟩ := c.ex
  exact pe_call F (hr.mono hk) hg hm kp b .nil passL ha hdb he hpl
end
/-- a built-in class as a value -/
theorem pe_ty {X : Cx} {x : Str} {pos : Pos} (n : String) (hg : Gl X x) (hm : X.mg x = none) (hv : bootBuiltins x = some (.type n)) (hn : x ≠ "__name__" := by decide) (hdb : (x == ("__debug__" : Str)) = false := by decide) : PE X (.Name x pos) (tC (.ty n)) :=
  pe_bltn hg hm hv rfl hn hdb
/-- a constant of the module -/
theorem pe_gc {X : Cx} {x : Str} {pos : Pos} {v : V} (hg : Gl X x) (h : ∃ u, X.mg x = some u ∧ RelV v u) (hdb : (x == ("__debug__" : Str)) = false := by decide) : PE X (.Name x pos) (tC v) := by
  obtain ⟨u, h1, h2⟩ := h
  exact pe_glob hg h1 h2 hdb
/-! ### heaps -/
theorem hp_new {H : Hp} {a b : Addr} {o o' : HO} (h : H a = none) (h' : H b = some o') : upd H a o b = some o' := by
  rw [upd_ne (ne_of_none h' h)]; exact h'
theorem hp_same {H H' : Hp} {b : Addr} {o : HO} (e : Same H H') (h : H b = some o) : H' b = some o := e b o h
theorem same_upd {H H' : Hp} {a : Addr} {o : HO} (e : Same H H') (h : H' a = none) : Same H (upd H' a o) := fun b o' q => hp_new h (e b o' q)
theorem same_new {H : Hp} {a : Addr} {o : HO} (h : H a = none) : Same H (upd H a o) := fun b o' q => hp_new h q
theorem cxOf_K {CX : CXT} {P : Program} {w : World} {K : PySem.W.Frag} {mg : Str → Option Value} {base : Heap} {N : List Str} {qual : Str} {scope : Scope} {f : Addr} {cd : Value} {A : Around} {outer : List Env} {s : Shared} {H : Hp} {E : XK} : (cxOf CX P w K mg base N qual scope f cd A outer s H E).nox.K = K := rfl
theorem cxOf_K' {CX : CXT} {P : Program} {w : World} {K : PySem.W.Frag} {mg : Str → Option Value} {base : Heap} {N : List Str} {qual : Str} {scope : Scope} {f : Addr} {cd : Value} {A : Around} {outer : List Env} {s : Shared} {H : Hp} {E : XK} : (cxOf CX P w K mg base N qual scope f cd A outer s H E).K = K := rfl
theorem cxOf_mg {CX : CXT} {P : Program} {w : World} {K : PySem.W.Frag} {mg : Str → Option Value} {base : Heap} {N : List Str} {qual : Str} {scope : Scope} {f : Addr} {cd : Value} {A : Around} {outer : List Env} {s : Shared} {H : Hp} {E : XK} : (cxOf CX P w K mg base N qual scope f cd A outer s H E).nox.mg = mg := rfl
theorem cxOf_mg' {CX : CXT} {P : Program} {w : World} {K : PySem.W.Frag} {mg : Str → Option Value} {base : Heap} {N : List Str} {qual : Str} {scope : Scope} {f : Addr} {cd : Value} {A : Around} {outer : List Env} {s : Shared} {H : Hp} {E : XK} : (cxOf CX P w K mg base N qual scope f cd A outer s H E).mg = mg := rfl
/-- a new tuple, a new list: all that stood stands -/
def NewT (H : Hp) (xs : List V) (Q : VK) : Prop := ∀ p H', H p = none → Same H H' → H' p = some (.tup xs) → Q (.ref p) H'
def NewL (H : Hp) (xs : List V) (Q : VK) : Prop := ∀ p H', H p = none → Same H H' → H' p = some (.lst xs) → Q (.ref p) H'
theorem NewT.at {H : Hp} {xs : List V} {Q : VK} (q : NewT H xs Q) (p : Addr) (h : H p = none) : Q (.ref p) (upd H p (.tup xs)) := q p _ h (same_new h) upd_same
theorem NewL.at {H : Hp} {xs : List V} {Q : VK} (q : NewL H xs Q) (p : Addr) (h : H p = none) : Q (.ref p) (upd H p (.lst xs)) := q p _ h (same_new h) upd_same
theorem NewT.of {H H' : Hp} {xs : List V} {Q : VK} (q : NewT H xs Q) (e : Same H H') : NewT H' xs Q := fun p H2 h s x => q p H2 (e.free h) (e.trans s) x
theorem NewL.of {H H' : Hp} {xs : List V} {Q : VK} (q : NewL H xs Q) (e : Same H H') : NewL H' xs Q := fun p H2 h s x => q p H2 (e.free h) (e.trans s) x
/-! ### readings by name -/
section
variable {X : Cx}
def aAdd (K : PySem.W.Frag) : R2 := fun x y H Q => rI0 (fun i j => .int (i + j)) x y H Q ∨ (∃ i j, x = .str i ∧ y = .str j ∧ i.length + j.length ≤ sizeLine ∧ Q (.str (i ++ j)) H) ∨ rCat x y H Q ∨ rCatA K x y H Q
theorem op_addA : OpR X (binaryOp .Add) (aAdd X.K) := op_add.or (op_add_str.or (op_cat.or op_catA))
def aMul : R2 := fun x y H Q => rI CMulW (fun i j => .int (i * j)) x y H Q ∨ rRep x y H Q
theorem op_mulA : OpR X (binaryOp .Mult) aMul := op_mulW.or op_rep
def aEq (K : PySem.W.Frag) : R2 := fun x y H Q => rEq x y H Q ∨ rEqD K x y H Q
theorem op_eqA {k : Nat} (hr : Room k X.A) : OpR X (compareOp .Eq) (aEq X.K) := op_eq.or (op_eqD hr.units)
def aNe (K : PySem.W.Frag) : R2 := fun x y H Q => rNe x y H Q ∨ rNeD K x y H Q
theorem op_neA {k : Nat} (hr : Room k X.A) : OpR X (compareOp .NotEq) (aNe X.K) := op_ne.or (op_neD hr.units)
def aLe : R2 := fun x y H Q => rI0 (fun i j => .bl (decide (i ≤ j))) x y H Q ∨ ∃ i j, x = .str i ∧ y = .str j ∧ Q (.bl (!decide (j.cps.toList < i.cps.toList))) H
theorem op_leA : OpR X (compareOp .LtE) aLe := op_le.or op_le_str
def aLt : R2 := fun x y H Q => rI0 (fun i j => .bl (decide (i < j))) x y H Q ∨ ∃ i j, x = .str i ∧ y = .str j ∧ Q (.bl (decide (i.cps.toList < j.cps.toList))) H
theorem op_ltA : OpR X (compareOp .Lt) aLt := op_lt.or op_lt_str
def aIn (K : PySem.W.Frag) : R2 := fun x y H Q => (∃ (c : Nat) (z : Str), x = .str ⟨#[c]⟩ ∧ y = .str z ∧ Q (.bl (decide (c ∈ z.cps.toList))) H) ∨ rIn K false x y H Q
theorem op_inA : OpR X (compareOp .In) (aIn X.K) := op_in_sign.or op_in_seq
def aNotIn (K : PySem.W.Frag) : R2 := fun x y H Q => (∃ (c : Nat) (z : Str), x = .str ⟨#[c]⟩ ∧ y = .str z ∧ Q (.bl (!decide (c ∈ z.cps.toList))) H) ∨ rIn K true x y H Q
theorem op_notInA : OpR X (compareOp .NotIn) (aNotIn X.K) := op_notIn_sign.or op_notIn_seq
def aLen (K : PySem.W.Frag) : List V → Hp → VK → Prop := fun xs H Q => (∃ p ys, xs = [.ref p] ∧ (SqL K H p ys ∨ SqT K H p ys) ∧ Q (.int ys.length) H) ∨ (∃ z, xs = [.str z] ∧ z.length ≤ sizeLine ∧ Q (.int z.length) H) ∨ (∃ a kvs, xs = [V.ref a] ∧ H a = some (.dK kvs) ∧ Q (.int kvs.length) H)
theorem call_lenA : CallR X (.builtin "len") (aLen X.K) := call_len_seq.or (call_len_str.or call_lenD)
def aAbs : List V → Hp → VK → Prop := fun xs H Q => ∃ i, xs = [.int i] ∧ Q (.int (if i < 0 then -i else i)) H
theorem call_absA : CallR X (.builtin "abs") aAbs := call_abs
def aMax2 : List V → Hp → VK → Prop := fun xs H Q => ∃ i j, xs = [.int i, .int j] ∧ Q (.int (if j > i then j else i)) H
theorem call_max2A (hc : X.calm = true) : CallR X (.builtin "max") aMax2 := call_max2 hc
def aMin2 : List V → Hp → VK → Prop := fun xs H Q => ∃ i j, xs = [.int i, .int j] ∧ Q (.int (if j < i then j else i)) H
theorem call_min2A (hc : X.calm = true) : CallR X (.builtin "min") aMin2 := call_min2 hc
def aInt1 : List V → Hp → VK → Prop := fun xs H Q => (∃ i, xs = [.int i] ∧ Q (.int i) H) ∨ ∃ k, xs = [.bl k] ∧ Q (.int (if k then 1 else 0)) H
theorem call_int1A : CallR X (.type "int") aInt1 := call_int1
def aStr1 : List V → Hp → VK → Prop := fun xs H Q => ∃ i, xs = [.int i] ∧ i.natAbs.log2 < 1920 ∧ Q (.str (toString i)) H
theorem call_str1A : CallR X (.type "str") aStr1 := call_str_int
def aList1 (K : PySem.W.Frag) : List V → Hp → VK → Prop := fun xs H Q => ∃ p ys, xs = [.ref p] ∧ (SqL K H p ys ∨ SqT K H p ys) ∧ ∀ l, H l = none → Q (.ref l) (upd H l (.lst ys))
theorem call_list1A : CallR X (.type "list") (aList1 X.K) := call_list_of
def aTuple1 (K : PySem.W.Frag) : List V → Hp → VK → Prop := fun xs H Q => ∃ p ys, xs = [.ref p] ∧ ((SqL K H p ys ∧ ∀ l, H l = none → Q (.ref l) (upd H l (.tup ys))) ∨ (SqT K H p ys ∧ Q (.ref p) H))
theorem call_tuple1A : CallR X (.type "tuple") (aTuple1 X.K) := call_tuple_of
def aTru (K : PySem.W.Frag) (ta : TE) : TT := fun σ H Q => ta σ H fun x H' => ∃ k, TruV K x H' k ∧ Q k H'
theorem pt_tru {a : Expr} {ta : TE} (ha : PE X a ta) (he : ∀ whole, isTrue a X.env whole = (do let v ← whole; standAt a.pos; holding [v] (truthy v))) : PT X a (aTru X.K ta) := pt_truth ha he
def aIsN : R2 := fun x y H Q => y = .non ∧ Q (.bl (decide (x = .non))) H
theorem op_isNA : OpR X (compareOp .Is) aIsN := op_isN
def aNotN : R2 := fun x y H Q => y = .non ∧ Q (.bl (!decide (x = .non))) H
theorem op_notNA : OpR X (compareOp .IsNot) aNotN := op_notN
end
/-! ### one step of a reading -/
section
variable {K : PySem.W.Frag} {σ : L2.St} {H : Hp} {N B C : L2.St → Hp → Prop} {R : VK} {t u : TS} {c d : TT} {ta tb te tc : TE} {tr : TA} {Q : VK} {g : TG} {i j : Nat} {v x y : V} {r r' : R2}
theorem L_seq (h : t ⟨u ⟨N, R, B, C⟩, R, B, C⟩ σ H) : tSeq t u ⟨N, R, B, C⟩ σ H := h
theorem L_next (h : N σ H) : tNext ⟨N, R, B, C⟩ σ H := h
theorem L_brk (h : B σ H) : tBreak ⟨N, R, B, C⟩ σ H := h
theorem L_cont (h : C σ H) : tCont ⟨N, R, B, C⟩ σ H := h
theorem L_ret (h : te σ H R) : tRet te ⟨N, R, B, C⟩ σ H := h
theorem L_retN (h : R .non H) : tRetN ⟨N, R, B, C⟩ σ H := h
theorem L_drop (h : te σ H fun _ H1 => N σ H1) : tDrop te ⟨N, R, B, C⟩ σ H := h
theorem L_asg (h : te σ H fun x H1 => g x σ H1 N) : tAsg te g ⟨N, R, B, C⟩ σ H := h
theorem L_gname {Q : L2.St → Hp → Prop} (h : Q (σ.set i (some v)) H) : gName i v σ H Q := h
theorem L_aug {ti : TIp} (hx : σ[i]? = some (some x)) (h : te σ H fun y H1 => ti x y H1 fun z H2 => N (σ.set i (some z)) H2) : tAug i te ti ⟨N, R, B, C⟩ σ H := ⟨x, hx, h⟩
theorem L_ipI {f : Int → Int → Int} {a b : Int} (h : Q (.int (f a b)) H) : ipI f (.int a) (.int b) H Q := ⟨a, b, rfl, rfl, h⟩
theorem L_ifS (h : c σ H fun b H1 => if b = true then t ⟨N, R, B, C⟩ σ H1 else u ⟨N, R, B, C⟩ σ H1) : tIfS c t u ⟨N, R, B, C⟩ σ H := h
theorem L_par (h : tr σ H fun vs H1 => ∃ v w, vs = [v, w] ∧ N ((σ.set i (some v)).set j (some w)) H1) : tPar i j tr ⟨N, R, B, C⟩ σ H := h
theorem L_par3 {l : Nat} (h : tr σ H fun vs H1 => ∃ u v w, vs = [u, v, w] ∧ N (((σ.set i (some u)).set j (some v)).set l (some w)) H1) : tPar3 i j l tr ⟨N, R, B, C⟩ σ H := h
theorem L_vs2 {Q : V → V → Prop} (h : Q x y) : ∃ v w, [x, y] = [v, w] ∧ Q v w := ⟨x, y, rfl, h⟩
theorem L_vs3 {z : V} {Q : V → V → V → Prop} (h : Q x y z) : ∃ u v w, [x, y, z] = [u, v, w] ∧ Q u v w := ⟨x, y, z, rfl, h⟩
theorem L_var (h : σ[i]? = some (some v)) (q : Q v H) : tVar i σ H Q := ⟨v, h, q⟩
theorem L_c (q : Q v H) : tC v σ H Q := q
theorem L_op (h : ta σ H fun x H1 => tb σ H1 fun y H2 => r x y H2 Q) : tOp r ta tb σ H Q := h
theorem L_un {r : V → Hp → VK → Prop} (h : ta σ H fun x H1 => r x H1 Q) : tUn r ta σ H Q := h
theorem L_rU {g : Int → V} {i : Int} (q : Q (g i) H) : rU g (.int i) H Q := ⟨i, rfl, q⟩
theorem L_I0 {g : Int → Int → V} {i j : Int} (q : Q (g i j) H) : rI0 g (.int i) (.int j) H Q := ⟨i, j, rfl, rfl, q⟩
theorem L_I {C : Int → Int → Prop} {g : Int → Int → V} {i j : Int} (hc : C i j) (q : Q (g i j) H) : rI C g (.int i) (.int j) H Q := ⟨i, j, rfl, rfl, hc, q⟩
theorem L_addI {i j : Int} (q : Q (.int (i + j)) H) : aAdd K (.int i) (.int j) H Q := .inl ⟨i, j, rfl, rfl, q⟩
theorem L_addS {a b : Str} (hl : a.length + b.length ≤ sizeLine) (q : Q (.str (a ++ b)) H) : aAdd K (.str a) (.str b) H Q := .inr (.inl ⟨a, b, rfl, rfl, hl, q⟩)
theorem L_addL {a b : Addr} {xs ys : List V} (ha : H a = some (.lst xs)) (hb : H b = some (.lst ys)) (hl : xs.length + ys.length ≤ sizeLine) (q : ∀ p, H p = none → Q (.ref p) (upd H p (.lst (xs ++ ys)))) : aAdd K (.ref a) (.ref b) H Q := .inr (.inr (.inl ⟨a, b, xs, ys, rfl, rfl, ha, hb, hl, q⟩))
theorem L_mulI {i j : Int} (hc : CMulW i j) (q : Q (.int (i * j)) H) : aMul (.int i) (.int j) H Q := .inl ⟨i, j, rfl, rfl, hc, q⟩
theorem L_eqI {i j : Int} (q : Q (.bl (decide (i = j))) H) : aEq K (.int i) (.int j) H Q := .inl ⟨rfl, by rw [show decide (V.int i = V.int j) = decide (i = j) by simp]; exact q⟩
theorem L_eqS {i j : Str} (q : Q (.bl (decide (i = j))) H) : aEq K (.str i) (.str j) H Q := .inl ⟨rfl, by rw [show decide (V.str i = V.str j) = decide (i = j) by simp]; exact q⟩
theorem L_eqB {i j : Bool} (q : Q (.bl (decide (i = j))) H) : aEq K (.bl i) (.bl j) H Q := .inl ⟨rfl, by rw [show decide (V.bl i = V.bl j) = decide (i = j) by simp]; exact q⟩
theorem L_neI {i j : Int} (q : Q (.bl (!decide (i = j))) H) : aNe K (.int i) (.int j) H Q := .inl ⟨rfl, by rw [show decide (V.int i = V.int j) = decide (i = j) by simp]; exact q⟩
theorem L_neS {i j : Str} (q : Q (.bl (!decide (i = j))) H) : aNe K (.str i) (.str j) H Q := .inl ⟨rfl, by rw [show decide (V.str i = V.str j) = decide (i = j) by simp]; exact q⟩
theorem L_eqD {d e : PyData} (hx : Dp K H x d) (hy : Dp K H y e) (sd : SeqAt.shaped d = true) (se : SeqAt.shaped e = true) (q : Q (.bl (PyData.eqv d e)) H) : aEq K x y H Q := .inr ⟨d, e, hx, hy, sd, se, q⟩
theorem L_neD {d e : PyData} (hx : Dp K H x d) (hy : Dp K H y e) (sd : SeqAt.shaped d = true) (se : SeqAt.shaped e = true) (q : Q (.bl (!PyData.eqv d e)) H) : aNe K x y H Q := .inr ⟨d, e, hx, hy, sd, se, q⟩
theorem L_leI {i j : Int} (q : Q (.bl (decide (i ≤ j))) H) : aLe (.int i) (.int j) H Q := .inl ⟨i, j, rfl, rfl, q⟩
theorem L_leS {i j : Str} (q : Q (.bl (!decide (j.cps.toList < i.cps.toList))) H) : aLe (.str i) (.str j) H Q := .inr ⟨i, j, rfl, rfl, q⟩
theorem L_ltI {i j : Int} (q : Q (.bl (decide (i < j))) H) : aLt (.int i) (.int j) H Q := .inl ⟨i, j, rfl, rfl, q⟩
theorem L_isN (q : Q (.bl (decide (x = .non))) H) : aIsN x .non H Q := ⟨rfl, q⟩
theorem L_notN (q : Q (.bl (!decide (x = .non))) H) : aNotN x .non H Q := ⟨rfl, q⟩
theorem L_inC {a : Nat} {z : Str} (q : Q (.bl (decide (a ∈ z.cps.toList))) H) : aIn K (.str ⟨#[a]⟩) (.str z) H Q := .inl ⟨a, z, rfl, rfl, q⟩
theorem L_notInC {a : Nat} {z : Str} (q : Q (.bl (!decide (a ∈ z.cps.toList))) H) : aNotIn K (.str ⟨#[a]⟩) (.str z) H Q := .inl ⟨a, z, rfl, rfl, q⟩
theorem L_fld {f : Str} (h : ta σ H fun x H1 => ∃ a C dx fs v, x = .ref a ∧ H1 a = some (.ins C dx fs) ∧ Cls K C ∧ NoAttr K C f ∧ fs.lookup f = some v ∧ Q v H1) : tFld K ta f σ H Q := h
theorem L_fldv {a C dx : Addr} {fs : List (Str × V)} {f : Str} {Q : V → Prop} (h : H a = some (.ins C dx fs)) (cl : Cls K C) (n : NoAttr K C f) (l : fs.lookup f = some v) (q : Q v) :
    ∃ a' C dx fs v, V.ref a = V.ref a' ∧ H a' = some (.ins C dx fs) ∧ Cls K C ∧ NoAttr K C f ∧ fs.lookup f = some v ∧ Q v := ⟨a, C, dx, fs, v, rfl, h, cl, n, l, q⟩
theorem L_tTest {Q : Bool → Hp → Prop} (h : te σ H fun x H' => ∃ k, x = .bl k ∧ Q k H') : tTest te σ H Q := h
theorem L_tB {Q : Bool → Hp → Prop} (h : te σ H fun x H' => ∃ k, x = .bl k ∧ Q k H') : tB te σ H Q := h
theorem L_k {b : Bool} {Q : Bool → Prop} (q : Q b) : ∃ k, V.bl b = V.bl k ∧ Q k := ⟨b, rfl, q⟩
theorem L_tru {Q : Bool → Hp → Prop} (h : te σ H fun x H' => ∃ k, TruV K x H' k ∧ Q k H') : aTru K te σ H Q := h
theorem L_truB {b : Bool} {Q : Bool → Prop} (q : Q b) : ∃ k, TruV K (.bl b) H k ∧ Q k := ⟨b, rfl, q⟩
theorem L_truI {i : Int} {Q : Bool → Prop} (q : Q (i != 0)) : ∃ k, TruV K (.int i) H k ∧ Q k := ⟨_, rfl, q⟩
theorem L_and {Q : Bool → Hp → Prop} (h : c σ H fun b H1 => if b = true then d σ H1 Q else Q false H1) : tAnd c d σ H Q := h
theorem L_or {Q : Bool → Hp → Prop} (h : c σ H fun b H1 => if b = true then Q true H1 else d σ H1 Q) : tOr c d σ H Q := h
theorem L_not {Q : Bool → Hp → Prop} (h : c σ H fun b H1 => Q (!b) H1) : tNot c σ H Q := h
theorem L_andV (h : ta σ H fun x H1 => ∃ c, x = .bl c ∧ if c = true then tb σ H1 Q else Q (.bl false) H1) : tAndV ta tb σ H Q := h
theorem L_orV (h : ta σ H fun x H1 => ∃ c, x = .bl c ∧ if c = true then Q (.bl true) H1 else tb σ H1 Q) : tOrV ta tb σ H Q := h
theorem L_notV (h : ta σ H fun x H1 => ∃ c, x = .bl c ∧ Q (.bl (!c)) H1) : tNotV ta σ H Q := h
theorem L_ifE (h : c σ H fun b H1 => if b = true then ta σ H1 Q else tb σ H1 Q) : tIf c ta tb σ H Q := h
theorem L_chain (h : ta σ H fun x H1 => tb σ H1 fun y H2 => r x y H2 fun z H3 => ∃ k, z = .bl k ∧ (if k = true then tc σ H3 fun w' H4 => r' y w' H4 Q else Q (.bl false) H3)) : tChain r r' ta tb tc σ H Q := h
theorem L_T {A B : Prop} (a : A) : if true = true then A else B := by rw [if_pos rfl]; exact a
theorem L_F {A B : Prop} (b : B) : if false = true then A else B := by rw [if_neg Bool.false_ne_true]; exact b
theorem L_dT {p : Prop} [Decidable p] {A B : Prop} (h : p) (a : A) : if decide p = true then A else B := by rw [decide_eq_true h]; exact L_T a
theorem L_dF {p : Prop} [Decidable p] {A B : Prop} (h : ¬ p) (b : B) : if decide p = true then A else B := by rw [decide_eq_false h]; exact L_F b
theorem L_d {p : Prop} [Decidable p] {A B : Prop} (a : p → A) (b : ¬ p → B) : if decide p = true then A else B := by
  by_cases h : p
  · exact L_dT h (a h)
  · exact L_dF h (b h)
theorem L_nd {p : Prop} [Decidable p] {A B : Prop} (a : ¬ p → A) (b : p → B) : if (!decide p) = true then A else B := by
  by_cases h : p
  · rw [decide_eq_true h]; exact L_F (b h)
  · rw [decide_eq_false h]; exact L_T (a h)
theorem L_ndT {p : Prop} [Decidable p] {A B : Prop} (h : ¬ p) (a : A) : if (!decide p) = true then A else B := by rw [decide_eq_false h]; exact L_T a
theorem L_ndF {p : Prop} [Decidable p] {A B : Prop} (h : p) (b : B) : if (!decide p) = true then A else B := by rw [decide_eq_true h]; exact L_F b
theorem L_b {k : Bool} {A B : Prop} (a : k = true → A) (b : k = false → B) : if k = true then A else B := by
  cases k with
  | true => exact L_T (a rfl)
  | false => exact L_F (b rfl)
theorem L_nT {A B : Prop} (b : B) : if (!true) = true then A else B := L_F b
theorem L_nF {A B : Prop} (a : A) : if (!false) = true then A else B := L_T a
theorem L_nil {Q : List V → Hp → Prop} (q : Q [] H) : tNil σ H Q := q
theorem L_cons {Q : List V → Hp → Prop} (h : ta σ H fun x H1 => tr σ H1 fun xs H2 => Q (x :: xs) H2) : tCons ta tr σ H Q := h
theorem L_tup (h : tr σ H fun xs H1 => xs.length ≤ sizeLine ∧ ∀ p, H1 p = none → Q (.ref p) (upd H1 p (.tup xs))) : tTup tr σ H Q := h
theorem L_lst (h : tr σ H fun xs H1 => xs.length ≤ sizeLine ∧ ∀ p, H1 p = none → Q (.ref p) (upd H1 p (.lst xs))) : tLst tr σ H Q := h
theorem L_new {n : Nat} {R : Prop} (hl : n ≤ sizeLine) (q : R) : n ≤ sizeLine ∧ R := ⟨hl, q⟩
theorem L_call {sp : Sp} {E : XK} (h : tr σ H fun vs H1 => sp vs H1 Q E) : tCall sp [] E tr σ H Q := by
  unfold tCall
  simp only [List.append_nil]
  exact h
theorem L_cb {r : List V → Hp → VK → Prop} (h : tr σ H fun vs H1 => r vs H1 Q) : tCB r tr σ H Q := h
theorem L_lenL {a : Addr} {xs : List V} (h : SqL K H a xs) (q : Q (.int xs.length) H) : aLen K [.ref a] H Q := .inl ⟨a, xs, rfl, .inl h, q⟩
theorem L_lenT {a : Addr} {xs : List V} (h : SqT K H a xs) (q : Q (.int xs.length) H) : aLen K [.ref a] H Q := .inl ⟨a, xs, rfl, .inr h, q⟩
theorem L_lenS {z : Str} (h : z.length ≤ sizeLine) (q : Q (.int z.length) H) : aLen K [.str z] H Q := .inr (.inl ⟨z, rfl, h, q⟩)
theorem L_abs {i : Int} (q : Q (.int (if i < 0 then -i else i)) H) : aAbs [.int i] H Q := ⟨i, rfl, q⟩
theorem L_max2 {i j : Int} (q : Q (.int (max i j)) H) : aMax2 [.int i, .int j] H Q := ⟨i, j, rfl, by rw [show (if j > i then j else i) = max i j by omega]; exact q⟩
theorem L_min2 {i j : Int} (q : Q (.int (min i j)) H) : aMin2 [.int i, .int j] H Q := ⟨i, j, rfl, by rw [show (if j < i then j else i) = min i j by omega]; exact q⟩
theorem L_int1 {i : Int} (q : Q (.int i) H) : aInt1 [.int i] H Q := .inl ⟨i, rfl, q⟩
theorem L_int1B {k : Bool} (q : Q (.int (if k then 1 else 0)) H) : aInt1 [.bl k] H Q := .inr ⟨k, rfl, q⟩
theorem L_isi {a n : String} {b : Bool} (hx : TyX K H x (.type a)) (hk : kitB a n = some b) (q : Q (.bl b) H) : rIsi K [x, .ty n] H Q := ⟨x, .ty n, .type a, .type n, b, rfl, .ty n, hx, kit_ty hk, q⟩
theorem L_ixL {p : Addr} {xs : List V} {i : Int} (h : SqL K H p xs) (ha : atI xs i = some v) (q : Q v H) : rIx K (.ref p) (.int i) H Q := .inl ⟨p, xs, i, v, rfl, rfl, h, ha, q⟩
theorem L_ixT {p : Addr} {xs : List V} {i : Int} (h : SqT K H p xs) (ha : atI xs i = some v) (q : Q v H) : rIx K (.ref p) (.int i) H Q := .inr (.inl ⟨p, xs, i, v, rfl, rfl, h, ha, q⟩)
theorem L_ixS {z : Str} {i : Int} {a : Nat} (h : z.length ≤ sizeLine) (ha : atI z.cps.toList i = some a) (q : Q (.str ⟨#[a]⟩) H) : rIx K (.str z) (.int i) H Q := .inr (.inr ⟨z, i, a, rfl, rfl, h, ha, q⟩)
theorem L_bm {T : String} {r : V → List V → Hp → VK → Prop} (h : te σ H fun x H1 => tyV K T x H1 ∧ tr σ H1 fun xs H2 => r x xs H2 Q) : tBM K T r te tr σ H Q := h
theorem L_tyL {a : Addr} {xs : List V} {R : Prop} (h : SqL K H a xs) (q : R) : tyV K "list" (.ref a) H ∧ R := ⟨.inl ⟨rfl, xs, h⟩, q⟩
theorem L_app {a : Addr} {xs : List V} (h : H a = some (.lst xs)) (hl : xs.length < sizeLine) (q : Q .non (upd H a (.lst (xs ++ [v])))) : rAppend (.ref a) [v] H Q := ⟨a, xs, v, rfl, rfl, h, hl, q⟩
theorem L_sum {a : Addr} {ns : List Int} (h : SqL K H a (ns.map V.int)) (q : Q (.int ns.sum) H) : rSum K [.ref a] H Q := ⟨a, ns, rfl, h, q⟩
theorem L_while (W : Nat → L2.St → Hp → Prop) (h0 : ∃ m, W m σ H) (hs : ∀ m σ H, W m σ H → c σ H fun b H1 => if b = true then ∃ M : L2.St → Hp → Prop, (∀ σ' H', M σ' H' → ∃ m', m' < m ∧ W m' σ' H') ∧ t ⟨M, R, N, M⟩ σ H1 else N σ H1) : tWhile c t ⟨N, R, B, C⟩ σ H := ⟨W, h0, hs⟩
theorem L_N {W : Nat → L2.St → Hp → Prop} {m : Nat} (h : t ⟨fun σ' H' => ∃ m', m' < m ∧ W m' σ' H', R, N, fun σ' H' => ∃ m', m' < m ∧ W m' σ' H'⟩ σ H) :
    ∃ M : L2.St → Hp → Prop, (∀ σ' H', M σ' H' → ∃ m', m' < m ∧ W m' σ' H') ∧ t ⟨M, R, N, M⟩ σ H := ⟨_, fun _ _ h => h, h⟩
theorem L_cut {Mid : L2.St → Hp → Prop} (h : t ⟨Mid, R, B, C⟩ σ H) (k : ∀ σ' H', Mid σ' H' → u ⟨N, R, B, C⟩ σ' H') : Evl.tCut t u ⟨N, R, B, C⟩ σ H := ⟨Mid, h, k⟩
theorem L_for {wi : TI} (h : wi σ H fun J H1 => ∃ W : Nat → Nat → L2.St → Hp → Prop, (∃ m, W 0 m σ H1) ∧ ∀ i m σ H, W i m σ H →
      (J.stop i H ∧ N σ H) ∨ (J.go i H ∧ ∃ M : L2.St → Hp → Prop, (∀ σ' H', M σ' H' → ∃ m', m' < m ∧ W (i + 1) m' σ' H') ∧ ∀ x H', J.yld i H x H' → g x σ H' fun σ2 H2 => t ⟨M, R, N, M⟩ σ2 H2)) : tFor wi g t ⟨N, R, B, C⟩ σ H := h
theorem L_iRng1 {R : It → Hp → Prop} (h : tr σ H fun vs H1 => ∃ j : Int, vs = [.int j] ∧ -(2 ^ 62) ≤ j ∧ j < 2 ^ 62 ∧ R (Itr 0 j.toNat) H1) : iRng1 tr σ H R := h
theorem L_iRng2 {R : It → Hp → Prop} (h : tr σ H fun vs H1 => ∃ i j : Int, vs = [.int i, .int j] ∧ (-(2 ^ 62) ≤ i ∧ i < 2 ^ 62 ∧ -(2 ^ 62) ≤ j ∧ j < 2 ^ 62) ∧ R (Itr i (j - i).toNat) H1) : iRng2 tr σ H R := h
theorem L_iList {R : It → Hp → Prop} (h : te σ H fun x H1 => ∃ a, x = .ref a ∧ (∃ xs, SqL K H1 a xs) ∧ R (Itl K a) H1) : iList K te σ H R := h
theorem L_iTup {R : It → Hp → Prop} (h : te σ H fun x H1 => ∃ a, x = .ref a ∧ (∃ xs, SqT K H1 a xs) ∧ R (Itt K a) H1) : iTup K te σ H R := h
theorem L_r1 {n : Int} {R : Int → Prop} (h1 : -(2 ^ 62) ≤ n) (h2 : n < 2 ^ 62) (q : R n) : ∃ j : Int, [V.int n] = [V.int j] ∧ -(2 ^ 62) ≤ j ∧ j < 2 ^ 62 ∧ R j := ⟨n, rfl, h1, h2, q⟩
theorem L_r2 {a n : Int} {R : Int → Int → Prop} (h : -(2 ^ 62) ≤ a ∧ a < 2 ^ 62 ∧ -(2 ^ 62) ≤ n ∧ n < 2 ^ 62) (q : R a n) : ∃ i j : Int, [V.int a, V.int n] = [V.int i, V.int j] ∧ (-(2 ^ 62) ≤ i ∧ i < 2 ^ 62 ∧ -(2 ^ 62) ≤ j ∧ j < 2 ^ 62) ∧ R i j := ⟨a, n, rfl, h, q⟩
theorem L_rl {a : Addr} {xs : List V} {R : Addr → Prop} (h : SqL K H a xs) (q : R a) : ∃ b, V.ref a = V.ref b ∧ (∃ xs, SqL K H b xs) ∧ R b := ⟨a, rfl, ⟨xs, h⟩, q⟩
theorem L_rt {a : Addr} {xs : List V} {R : Addr → Prop} (h : SqT K H a xs) (q : R a) : ∃ b, V.ref a = V.ref b ∧ (∃ xs, SqT K H b xs) ∧ R b := ⟨a, rfl, ⟨xs, h⟩, q⟩
end
theorem sz_dec {n : Nat} (h : n ≤ 1000000) : n ≤ sizeLine := Nat.le_trans h (by decide)
theorem sz_lt {n : Nat} (h : n < 1000000) : n < sizeLine := Nat.lt_of_lt_of_le h (by decide)
/-! ### sizes of ints -/
/-- less than n bits -/
def Bd (n : Nat) (i : Int) : Prop := i.natAbs < 2 ^ n
theorem Bd.mono {n m : Nat} {i : Int} (h : Bd n i) (hm : n ≤ m) : Bd m i := Nat.lt_of_lt_of_le h (Nat.pow_le_pow_right (by decide) hm)
theorem Bd.mul {n m : Nat} {i j : Int} (h : Bd n i) (k : Bd m j) : Bd (n + m) (i * j) := wide_lt h k
theorem Bd.add {n m : Nat} {i j : Int} (h : Bd n i) (k : Bd m j) : Bd (max n m + 1) (i + j) := by
  have a := h.mono (Nat.le_max_left n m)
  have b := k.mono (Nat.le_max_right n m)
  unfold Bd at *
  rw [Nat.pow_succ]
  have := Int.natAbs_add_le i j
  omega
theorem Bd.neg {n : Nat} {i : Int} (h : Bd n i) : Bd n (-i) := by unfold Bd at *; rw [Int.natAbs_neg]; exact h
theorem Bd.sub {n m : Nat} {i j : Int} (h : Bd n i) (k : Bd m j) : Bd (max n m + 1) (i - j) := by
  rw [Int.sub_eq_add_neg]; exact h.add k.neg
theorem Bd.cmul {n m : Nat} {i j : Int} (h : Bd n i) (k : Bd m j) (hz : n + m + 2 ≤ 1000000 := by decide) : CMulW i j :=
  wide_mul (h.mono (Nat.le_succ n)) (k.mono (Nat.le_succ m)) (Nat.succ_pos _) (Nat.succ_pos _) (by omega)
theorem Bd.cdiv {n : Nat} {i j : Int} (k : Bd n j) (h : 0 < j) (hz : n + 1 ≤ 9000 := by decide) : CDivW i j := wide_div h (k.mono (Nat.le_succ n)) (Nat.succ_pos _) hz
theorem bd_lit {i : Int} (h : -4294967296 < i ∧ i < 4294967296) : Bd 32 i := by
  unfold Bd
  have : (2 : Nat) ^ 32 = 4294967296 := by decide
  omega
theorem bd_64 {i : Int} (h : -18446744073709551616 < i ∧ i < 18446744073709551616) : Bd 64 i := by
  unfold Bd
  have : (2 : Nat) ^ 64 = 18446744073709551616 := by decide
  omega
/-- an item of the script, or what stands in its place -/
def cellAt (ns : List Int) (k d : Int) : Int := if k < (ns.length : Int) then ns.getD k.toNat 0 else d
theorem cellAt_in {ns : List Int} {k d : Int} (h0 : 0 ≤ k) (h : k < (ns.length : Int)) : atI (ns.map V.int) k = some (V.int (cellAt ns k d)) := by
  obtain ⟨j, rfl⟩ : ∃ j : Nat, k = (j : Int) := ⟨k.toNat, by omega⟩
  have hl : j < ns.length := by omega
  unfold cellAt
  rw [if_pos h]
  refine atI_nat ?_
  rw [List.getElem?_map, List.getElem?_eq_getElem hl]
  simp [List.getD, List.getElem?_eq_getElem hl]
theorem cellAt_out {ns : List Int} {k d : Int} (h : ¬ k < (ns.length : Int)) : cellAt ns k d = d := if_neg h
theorem cellAt_mem {ns : List Int} {k d : Int} (h0 : 0 ≤ k) : cellAt ns k d ∈ ns ∨ cellAt ns k d = d := by
  unfold cellAt
  split
  · rename_i h
    have hl : k.toNat < ns.length := by omega
    left
    simp [List.getD, List.getElem?_eq_getElem hl]
  · exact .inr rfl
theorem _root_.L2.Same.seqT {K : PySem.W.Frag} {H H' : Hp} {a : Addr} {xs : List V} (e : Same H H') (h : SqT K H a xs) : SqT K H' a xs := by
  rcases h with (h | ⟨o, h⟩) | h
  · exact .inl (.inl (e _ _ h))
  · exact .inl (.inr ⟨o, e _ _ h⟩)
  · exact .inr h
/-! ### what is walked: more -/
section
variable {K : PySem.W.Frag} {σ : L2.St} {H : Hp} {te : TE} {tr : TA} {Q : VK} {g : TG} {tt : TT}
theorem L_yes {Q : Bool → Hp → Prop} (q : Q true H) : tYes σ H Q := q
theorem L_iZip {R : It → Hp → Prop} (h : tr σ H fun vs H1 => ∃ a b xs ys, vs = [.ref a, .ref b] ∧ SqL K H1 a xs ∧ SqL K H1 b ys ∧ R (Itz K a b) H1) : iZip K tr σ H R := h
theorem L_iEnum {R : It → Hp → Prop} (h : tr σ H fun vs H1 => ∃ a xs, vs = [.ref a] ∧ SqL K H1 a xs ∧ R (Ite K a) H1) : iEnum K tr σ H R := h
theorem L_iStr {R : It → Hp → Prop} (h : te σ H fun v H1 => ∃ x, v = .str x ∧ R (Its x) H1) : iStr te σ H R := h
theorem L_iRng3 {R : It → Hp → Prop} (h : tr σ H fun vs H1 => ∃ (i j c : Int) (n : Nat), vs = [.int i, .int j, .int c] ∧ RgC i j c n ∧ R (Itc i c n) H1) : iRng3 tr σ H R := h
theorem L_rz {a b : Addr} {xs ys : List V} {R : Addr → Addr → Prop} (h1 : SqL K H a xs) (h2 : SqL K H b ys) (q : R a b) : ∃ a' b' xs ys, [V.ref a, V.ref b] = [.ref a', .ref b'] ∧ SqL K H a' xs ∧ SqL K H b' ys ∧ R a' b' := ⟨a, b, xs, ys, rfl, h1, h2, q⟩
theorem L_re {a : Addr} {xs : List V} {R : Addr → Prop} (h1 : SqL K H a xs) (q : R a) : ∃ a' xs, [V.ref a] = [.ref a'] ∧ SqL K H a' xs ∧ R a' := ⟨a, xs, rfl, h1, q⟩
theorem L_rs {z : Str} {R : Str → Prop} (q : R z) : ∃ x, V.str z = .str x ∧ R x := ⟨z, rfl, q⟩
theorem L_r3 {i j c : Int} {n : Nat} {R : Int → Int → Nat → Prop} (h : RgC i j c n) (q : R i c n) : ∃ (i' j' c' : Int) (n : Nat), [V.int i, V.int j, V.int c] = [.int i', .int j', .int c'] ∧ RgC i' j' c' n ∧ R i' c' n := ⟨i, j, c, n, rfl, h, q⟩
theorem L_lc {wi : TI} {vs : List Nat} (h : wi σ H fun J H1 => ∀ D, H1 D = none → ∃ W : Nat → Nat → Hp → Prop, (∃ m, W 0 m (upd H1 D (.lst []))) ∧ ∀ i m H, W i m H →
  (J.stop i H ∧ Q (.ref D) H) ∨ (J.go i H ∧ ∃ Nx : Hp → Prop, (∀ H', Nx H' → ∃ m', m' < m ∧ W (i + 1) m' H') ∧ ∀ x H', J.yld i H x H' → g x (wipe σ vs) H' fun σ2 H2 => wipe σ2 vs = wipe σ vs ∧ tt σ2 H2 fun b H3 =>
    if b = true then te σ2 H3 fun y H4 => ∃ acc, H4 D = some (.lst acc) ∧ acc.length < sizeLine ∧ Nx (upd H4 D (.lst (acc ++ [y]))) else Nx H3)) : tLc wi g tt te vs σ H Q := h
theorem fm_succ (f : Nat → Option V) (i : Nat) : (List.range (i + 1)).filterMap f = (List.range i).filterMap f ++ (match f i with | some y => [y] | none => []) := by
  rw [List.range_succ, List.filterMap_append]
  cases h : f i <;> simp [h]
theorem fm_len (f : Nat → Option V) (i : Nat) : ((List.range i).filterMap f).length ≤ i := by
  have := List.length_filterMap_le f (List.range i)
  simpa using this
/-- a comprehension whose things are told one by one: f i is what turn i gives, none where its test is false -/
theorem lc_fm {J : It} {n : Nat} {G : Hp → Prop} {Y : Nat → Hp → V → Hp → Prop} (w : L2.Walk J n G Y) {vs : List Nat} {Qd : Addr → Hp → Prop} (f : Nat → Option V) (hn : n ≤ 1000000) (hG : ∀ H', Same H H' → G H')
    (hs : ∀ i x H2 H' (R : V → Hp → Prop) (R' : Hp → Prop), i < n → Same H H2 → Y i H2 x H' → (∀ y H4, f i = some y → Same H2 H4 → R y H4) → (∀ H3, f i = none → Same H2 H3 → R' H3) →
      g x (wipe σ vs) H' fun σ2 H2 => wipe σ2 vs = wipe σ vs ∧ tt σ2 H2 fun b H3 => if b = true then te σ2 H3 R else R' H3)
    (q : ∀ p H', H p = none → Same H H' → H' p = some (.lst ((List.range n).filterMap f)) → Qd p H') :
    ∀ D, H D = none → ∃ W : Nat → Nat → Hp → Prop, (∃ m, W 0 m (upd H D (.lst []))) ∧ ∀ i m H, W i m H →
      (J.stop i H ∧ Qd D H) ∨ (J.go i H ∧ ∃ Nx : Hp → Prop, (∀ H', Nx H' → ∃ m', m' < m ∧ W (i + 1) m' H') ∧ ∀ x H', J.yld i H x H' → g x (wipe σ vs) H' fun σ2 H2 => wipe σ2 vs = wipe σ vs ∧ tt σ2 H2 fun b H3 =>
        if b = true then te σ2 H3 fun y H4 => ∃ acc, H4 D = some (.lst acc) ∧ acc.length < sizeLine ∧ Nx (upd H4 D (.lst (acc ++ [y]))) else Nx H3) := by
  intro D hD
  refine lc_it w (fun i H2 => Same H H2 ∧ H2 D = some (.lst ((List.range i).filterMap f))) ⟨same_new hD, upd_same⟩ (fun i H2 _ p => hG H2 p.1) ?_ (fun H2 p => q D H2 hD p.1 p.2)
  intro i x H2 H' hi ⟨p1, p2⟩ y
  refine hs i x H2 H' _ _ hi p1 y (fun y H4 e s => ?_) (fun H3 e s => ?_)
  · refine ⟨_, s _ _ p2, sz_lt (by have := fm_len f i; omega), ?_, ?_⟩
    · intro b o hb
      rw [upd_ne (ne_of_none hb hD)]
      exact s _ _ (p1 _ _ hb)
    · rw [fm_succ, e]; exact upd_same
  · refine ⟨p1.trans s, ?_⟩
    rw [fm_succ, e, List.append_nil]
    exact s _ _ p2
theorem fm_map {α : Type} (f : Nat → α) (h : α → V) (n : Nat) : (List.range n).filterMap (fun i => some (h (f i))) = ((List.range n).map f).map h := by
  rw [List.map_map]
  induction n with
  | zero => rfl
  | succ n ih => rw [fm_succ (fun i => some (h (f i))), ih, List.range_succ, List.map_append]; rfl
theorem rgC_up {i j c : Int} (hc : 0 < c) (hc2 : c < 1000000) (hi : -1000000000 ≤ i ∧ i ≤ 1000000000) (hj : -1000000000 ≤ j ∧ j ≤ 1000000000) : RgC i j c (if i < j then ((j - i - 1) / c + 1).toNat else 0) := by
  have e : Builtin.Range.rangeSize i j c = ((if i < j then ((j - i - 1) / c + 1).toNat else 0 : Nat) : Int) := by
    unfold Builtin.Range.rangeSize
    rw [if_pos (by omega)]
    split
    · have : 0 ≤ (j - i - 1) / c := Int.ediv_nonneg (by omega) (by omega)
      omega
    · rfl
  refine ⟨by omega, by omega, ?_, e⟩
  unfold Builtin.Range.small
  rw [e]
  have hz : ((if i < j then ((j - i - 1) / c + 1).toNat else 0 : Nat) : Int) * c ≤ 4000000000 ∧ ((if i < j then ((j - i - 1) / c + 1).toNat else 0 : Nat) : Int) ≤ 4000000000 ∧ 0 ≤ ((if i < j then ((j - i - 1) / c + 1).toNat else 0 : Nat) : Int) := by
    split
    · have h0 : 0 ≤ (j - i - 1) / c := Int.ediv_nonneg (by omega) (by omega)
      have h1 : (j - i - 1) / c * c ≤ j - i - 1 := Int.ediv_mul_le _ (by omega)
      have h2 : (j - i - 1) / c ≤ j - i - 1 := Int.ediv_le_self _ (by omega)
      have h3 : (((j - i - 1) / c + 1).toNat : Int) = (j - i - 1) / c + 1 := by omega
      rw [h3, Int.add_mul]
      omega
    · simp
  generalize ((if i < j then ((j - i - 1) / c + 1).toNat else 0 : Nat) : Int) = n at *
  simp only [Builtin.Range.rangeFitsLong, Bool.and_eq_true, Bool.or_eq_true, decide_eq_true_eq, beq_iff_eq]
  refine ⟨by omega, .inr ?_⟩
  rw [if_pos (by omega), Bool.and_eq_true, decide_eq_true_eq, decide_eq_true_eq]
  omega
/-- what making an instance asks -/
def MakeP (C : Addr) (sp : Sp) (E : XK) (vs : List V) (H : Hp) (Q : VK) : Prop := ∀ x dx, H x = none → H dx = none → dx ≠ x → sp (.ref x :: vs) (upd (upd H dx (.own x)) x (.ins C dx [])) (fun v H2 => v = .non ∧ Q (.ref x) H2) E
theorem L_make {C : Addr} {sp : Sp} {E : XK} (h : tr σ H fun vs H1 => MakeP C sp E vs H1 Q) : tMake C sp [] E tr σ H Q := by
  unfold tMake
  simp only [List.append_nil]
  exact h
/-- a new instance: all that stood stands -/
def NewI (H : Hp) (C : Addr) (fs : List (Str × V)) (Q : VK) : Prop := ∀ p H' dx, H p = none → Same H H' → H' p = some (.ins C dx fs) → Q (.ref p) H'
theorem L_gTup {n : Nat} {t : TGs} {a : Addr} {xs : List V} {Q : L2.St → Hp → Prop} (h : SqT K H a xs) (hn : xs.length = n) (q : t xs σ H Q) : gTup K n t (.ref a) σ H Q := ⟨a, xs, rfl, h, hn, q⟩
theorem L_gLst {n : Nat} {t : TGs} {a : Addr} {xs : List V} {Q : L2.St → Hp → Prop} (h : SqL K H a xs) (hn : xs.length = n) (q : t xs σ H Q) : gLst K n t (.ref a) σ H Q := ⟨a, xs, rfl, h, hn, q⟩
theorem L_gCons {v : V} {r : List V} {t : TG} {u : TGs} {Q : L2.St → Hp → Prop} (q : t v σ H fun σ' H' => u r σ' H' Q) : gCons t u (v :: r) σ H Q := ⟨v, r, rfl, q⟩
theorem L_gNil {Q : L2.St → Hp → Prop} (q : Q σ H) : gNil [] σ H Q := ⟨rfl, q⟩
theorem L_sub {to ti : TE} {t : TSet} {v : V} {Q : L2.St → Hp → Prop} (h : to σ H fun o H1 => ti σ H1 fun i H2 => t o i v H2 fun H3 => Q σ H3) : gSub to ti t v σ H Q := h
theorem L_setL {p : Addr} {xs : List V} {k : Int} {j : Nat} {v : V} {Q : Hp → Prop} (h : H p = some (.lst xs)) (hj : ixN xs.length k = some j) (q : Q (upd H p (.lst (xs.set j v)))) : rSetL (.ref p) (.int k) v H Q := ⟨p, xs, k, j, rfl, rfl, h, hj, q⟩
theorem ixN_of {n : Nat} {k : Int} (h0 : 0 ≤ k) (h : k < n) : ixN n k = some k.toNat := by
  unfold ixN
  rw [if_pos h0, if_pos h]
theorem L_sFld {f : Str} {ta tv : TE} {N B C' : L2.St → Hp → Prop} {R : VK} (h : tv σ H fun y H1 => ta σ H1 fun x H2 => ∃ a C dx fs, x = .ref a ∧ H2 a = some (.ins C dx fs) ∧ Cls K C ∧ NoAttr K C f ∧ fs.length < 1000 ∧ N σ (upd H2 a (.ins C dx (putF f y fs)))) : sFld K ta tv f ⟨N, R, B, C'⟩ σ H := h
theorem L_sFldv {a C dx : Addr} {fs : List (Str × V)} {f : Str} {Q : Addr → Addr → Addr → List (Str × V) → Prop} (h : H a = some (.ins C dx fs)) (cl : Cls K C) (n : NoAttr K C f) (l : fs.length < 1000) (q : Q a C dx fs) :
    ∃ a' C dx fs, V.ref a = V.ref a' ∧ H a' = some (.ins C dx fs) ∧ Cls K C ∧ NoAttr K C f ∧ fs.length < 1000 ∧ Q a' C dx fs := ⟨a, C, dx, fs, rfl, h, cl, n, l, q⟩
theorem L_repL {a : Addr} {xs : List V} {k : Int} (h : H a = some (.lst xs)) (h1 : -(2 ^ 63) ≤ k) (h2 : k < 2 ^ 63) (h3 : xs.length * k.toNat ≤ sizeLine) (q : ∀ p, H p = none → Q (.ref p) (upd H p (.lst (List.replicate k.toNat xs).flatten))) : aMul (.ref a) (.int k) H Q := .inr ⟨a, k, xs, rfl, rfl, h, h1, h2, h3, q⟩
theorem atI_int {xs : List V} {k : Int} {v : V} (h0 : 0 ≤ k) (h : xs[k.toNat]? = some v) : atI xs k = some v := by
  obtain ⟨j, rfl⟩ : ∃ j : Nat, k = (j : Int) := ⟨k.toNat, by omega⟩
  exact atI_nat h
theorem atI_ints {xs : List Int} {k : Int} (h0 : 0 ≤ k) (h : k < xs.length) : atI (xs.map V.int) k = some (.int (xs.getD k.toNat 0)) := by
  refine atI_int h0 ?_
  have hl : k.toNat < xs.length := by omega
  rw [List.getElem?_map, List.getElem?_eq_getElem hl]
  simp [List.getD, List.getElem?_eq_getElem hl]
theorem L_nw {xs : List V} {R : Prop} (q : R) (hl : xs.length ≤ 1000000 := by simp) : xs.length ≤ sizeLine ∧ R := ⟨sz_dec hl, q⟩
end
theorem fm_succ' {α : Type} (f : Nat → Option α) (i : Nat) : (List.range (i + 1)).filterMap f = (List.range i).filterMap f ++ (match f i with | some y => [y] | none => []) := by
  rw [List.range_succ, List.filterMap_append]
  cases h : f i <;> simp [h]
theorem fm_len' {α : Type} (f : Nat → Option α) (i : Nat) : ((List.range i).filterMap f).length ≤ i := by
  have := List.length_filterMap_le f (List.range i)
  simpa using this
/-! ### data as trees -/
mutual
theorem Dp_same {K : PySem.W.Frag} {H H' : Hp} (e : Same H H') : ∀ (d : PyData) {v : V}, Dp K H v d → Dp K H' v d
  | .none, _, h => by cases h; exact .non
  | .bool b, _, h => by cases h; exact .bl b
  | .int i, _, h => by cases h; exact .int i
  | .str x, _, h => by cases h; exact .str x
  | .list ds, _, h => by cases h with | lst hs ha => exact .lst (e.seq hs) (DpAll_same e ds ha)
  | .tuple ds, _, h => by cases h with | tup hs ha => exact .tup (e.seqT hs) (DpAll_same e ds ha)
  | .dict _, _, h => by cases h
theorem DpAll_same {K : PySem.W.Frag} {H H' : Hp} (e : Same H H') : ∀ (ds : List PyData) {vs : List V}, DpAll K H vs ds → DpAll K H' vs ds
  | [], _, h => by cases h; exact .nil
  | d :: ds, _, h => by cases h with | cons h1 h2 => exact .cons (Dp_same e d h1) (DpAll_same e ds h2)
end
section
variable {K : PySem.W.Frag} {H H' : Hp} {v : V} {vs : List V} {d : PyData} {ds : List PyData}
theorem _root_.L2.Dp.same (h : Dp K H v d) (e : Same H H') : Dp K H' v d := Dp_same e d h
theorem _root_.L2.DpAll.same (h : DpAll K H vs ds) (e : Same H H') : DpAll K H' vs ds := DpAll_same e ds h
theorem _root_.L2.DpAll.len : ∀ {ds : List PyData} {vs : List V}, DpAll K H vs ds → vs.length = ds.length
  | [], _, h => by cases h; rfl
  | d :: ds, _, h => by cases h with | cons h1 h2 => rw [List.length_cons, List.length_cons, h2.len]
theorem _root_.L2.DpAll.at : ∀ {ds : List PyData} {vs : List V} {i : Nat}, DpAll K H vs ds → ds[i]? = some d → ∃ v, vs[i]? = some v ∧ Dp K H v d
  | [], _, i, h, e => by simp at e
  | c :: ds, _, 0, h, e => by
    cases h with
    | cons h1 h2 =>
      rename_i v vs
      have : c = d := by simpa using e
      subst this
      exact ⟨v, by simp, h1⟩
  | c :: ds, _, i + 1, h, e => by
    cases h with
    | cons h1 h2 =>
      obtain ⟨v, q1, q2⟩ := h2.at (i := i) (by simpa using e)
      exact ⟨v, by simpa using q1, q2⟩
theorem _root_.L2.DpAll.of : ∀ {ds : List PyData} {vs : List V} {i : Nat}, DpAll K H vs ds → vs[i]? = some v → ∃ d, ds[i]? = some d ∧ Dp K H v d
  | [], _, i, h, e => by cases h; simp at e
  | c :: ds, _, 0, h, e => by
    cases h with
    | cons h1 h2 =>
      rename_i w vs
      have : w = v := by simpa using e
      subst this
      exact ⟨c, by simp, h1⟩
  | c :: ds, _, i + 1, h, e => by
    cases h with
    | cons h1 h2 =>
      obtain ⟨d, q1, q2⟩ := h2.of (i := i) (by simpa using e)
      exact ⟨d, by simpa using q1, q2⟩
theorem _root_.L2.DpAll.app : ∀ {ds es : List PyData} {vs us : List V}, DpAll K H vs ds → DpAll K H us es → DpAll K H (vs ++ us) (ds ++ es)
  | [], _, _, _, h, g => by cases h; exact g
  | d :: ds, _, _, _, h, g => by cases h with | cons h1 h2 => exact .cons h1 (h2.app g)
theorem _root_.L2.DpAll.snoc (h : DpAll K H vs ds) (g : Dp K H v d) : DpAll K H (vs ++ [v]) (ds ++ [d]) := h.app (.cons g .nil)
theorem dp_ints : ∀ (ns : List Int), DpAll K H (ns.map V.int) (ns.map PyData.int)
  | [] => .nil
  | n :: ns => .cons (.int n) (dp_ints ns)
theorem dp_strs : ∀ (ns : List Str), DpAll K H (ns.map V.str) (ns.map PyData.str)
  | [] => .nil
  | n :: ns => .cons (.str n) (dp_strs ns)
theorem of_ints : ∀ {ns : List Int} {vs : List V}, DpAll K H vs (ns.map PyData.int) → vs = ns.map V.int
  | [], _, h => by cases h; rfl
  | n :: ns, _, h => by
    cases h with
    | cons h1 h2 => cases h1; rw [of_ints h2]; rfl
theorem of_strs : ∀ {ns : List Str} {vs : List V}, DpAll K H vs (ns.map PyData.str) → vs = ns.map V.str
  | [], _, h => by cases h; rfl
  | n :: ns, _, h => by
    cases h with
    | cons h1 h2 => cases h1; rw [of_strs h2]; rfl
theorem of_tup (h : Dp K H v (.tuple ds)) : ∃ a xs, v = .ref a ∧ SqT K H a xs ∧ DpAll K H xs ds := by
  cases h with | tup h1 h2 => exact ⟨_, _, rfl, h1, h2⟩
theorem of_lst (h : Dp K H v (.list ds)) : ∃ a xs, v = .ref a ∧ SqL K H a xs ∧ DpAll K H xs ds := by
  cases h with | lst h1 h2 => exact ⟨_, _, rfl, h1, h2⟩
theorem of_int {i : Int} (h : Dp K H v (.int i)) : v = .int i := by cases h; rfl
theorem of_str {i : Str} (h : Dp K H v (.str i)) : v = .str i := by cases h; rfl
theorem of_bl {i : Bool} (h : Dp K H v (.bool i)) : v = .bl i := by cases h; rfl
theorem of_non (h : Dp K H v .none) : v = .non := by cases h; rfl
theorem of_t2 {d e : PyData} (h : Dp K H v (.tuple [d, e])) : ∃ a x y, v = .ref a ∧ SqT K H a [x, y] ∧ Dp K H x d ∧ Dp K H y e := by
  obtain ⟨a, xs, rfl, h1, h2⟩ := of_tup h
  cases h2 with
  | cons p1 p2 => cases p2 with | cons p3 p4 => cases p4; exact ⟨a, _, _, rfl, h1, p1, p3⟩
theorem of_t3 {d e f : PyData} (h : Dp K H v (.tuple [d, e, f])) : ∃ a x y z, v = .ref a ∧ SqT K H a [x, y, z] ∧ Dp K H x d ∧ Dp K H y e ∧ Dp K H z f := by
  obtain ⟨a, xs, rfl, h1, h2⟩ := of_tup h
  cases h2 with
  | cons p1 p2 => cases p2 with | cons p3 p4 => cases p4 with | cons p5 p6 => cases p6; exact ⟨a, _, _, _, rfl, h1, p1, p3, p5⟩
theorem of_t4 {d e f g : PyData} (h : Dp K H v (.tuple [d, e, f, g])) : ∃ a x y z w, v = .ref a ∧ SqT K H a [x, y, z, w] ∧ Dp K H x d ∧ Dp K H y e ∧ Dp K H z f ∧ Dp K H w g := by
  obtain ⟨a, xs, rfl, h1, h2⟩ := of_tup h
  cases h2 with
  | cons p1 p2 => cases p2 with | cons p3 p4 => cases p4 with | cons p5 p6 => cases p6 with | cons p7 p8 => cases p8; exact ⟨a, _, _, _, _, rfl, h1, p1, p3, p5, p7⟩
end
/-- the part of a heap at which P holds -/
noncomputable def rs (P : Addr → Prop) (H : Hp) : Hp := fun a => @ite _ (P a) (Classical.propDecidable _) (H a) none
theorem rs_at {P : Addr → Prop} {H : Hp} {a : Addr} {o : HO} (p : P a) (h : H a = some o) : rs P H a = some o := by unfold rs; rw [if_pos p]; exact h
theorem rs_of {P : Addr → Prop} {H : Hp} {a : Addr} {o : HO} (h : rs P H a = some o) : P a ∧ H a = some o := by
  unfold rs at h
  split at h
  · rename_i p; exact ⟨p, h⟩
  · cases h
theorem rs_same {P P' : Addr → Prop} {H H' : Hp} (h : ∀ a o, P a → H a = some o → P' a ∧ H' a = some o) : Same (rs P H) (rs P' H') := fun a o e => by
  obtain ⟨p, q⟩ := rs_of e
  obtain ⟨p', q'⟩ := h a o p q
  exact rs_at p' q'
theorem rs_sub {P : Addr → Prop} {H : Hp} : Same (rs P H) H := fun a o e => (rs_of e).2
theorem rs_in {P : Addr → Prop} {H H' : Hp} (h : ∀ a o, P a → H a = some o → H' a = some o) : Same (rs P H) H' := fun a o e => h a o (rs_of e).1 (rs_of e).2
theorem rs_all {P : Addr → Prop} {H H' : Hp} (h : ∀ a o, H a = some o → P a ∧ H' a = some o) : Same H (rs P H') := fun a o e => rs_at (h a o e).1 (h a o e).2
/-- a list that changes: what stood ahead of it stands -/
theorem same_mut {H H' : Hp} {a : Addr} {o : HO} (e : Same H H') (h : H a = none) : Same H (upd H' a o) := fun b o' q => by
  rw [upd_ne (fun z => by rw [z, h] at q; cases q)]; exact e b o' q
section
variable {K : PySem.W.Frag} {σ : L2.St} {H : Hp} {g : TG} {tt : TT} {te : TE} {tb : TS} {D : Ends} {x y : V} {Q : VK}
theorem L_rlD {v : V} {ds : List PyData} {R : Addr → Prop} (h : Dp K H v (.list ds)) (q : ∀ a, v = .ref a → R a) : ∃ b, v = V.ref b ∧ (∃ xs, SqL K H b xs) ∧ R b := by
  obtain ⟨a, xs, rfl, h1, h2⟩ := of_lst h
  exact ⟨a, rfl, ⟨xs, h1⟩, q a rfl⟩
/-- for x in a list of data -/
theorem for_dp {a : Addr} {ds : List PyData} (h : Dp K H (.ref a) (.list ds)) (Pv : Nat → L2.St → Hp → Prop) (h0 : Pv 0 σ H) (hG : ∀ i σ' H', i ≤ ds.length → Pv i σ' H' → Same H H')
    (hs : ∀ i d x σ' H', i < ds.length → ds[i]? = some d → Pv i σ' H' → Dp K H' x d → g x σ' H' fun σ2 H2 => tb { D with nx := Pv (i + 1), ct := Pv (i + 1), bk := D.nx } σ2 H2) (hd : ∀ σ' H', Pv ds.length σ' H' → D.nx σ' H') :
    ∃ W : Nat → Nat → L2.St → Hp → Prop, (∃ m, W 0 m σ H) ∧ ∀ i m σ H, W i m σ H →
      ((Itl K a).stop i H ∧ D.nx σ H) ∨ ((Itl K a).go i H ∧ ∃ N : L2.St → Hp → Prop, (∀ σ' H', N σ' H' → ∃ m', m' < m ∧ W (i + 1) m' σ' H') ∧ ∀ x H', (Itl K a).yld i H x H' → g x σ H' fun σ2 H2 => tb { D with nx := N, ct := N, bk := D.nx } σ2 H2) := by
  obtain ⟨a', xs, ea, h1, h2⟩ := of_lst h
  cases ea
  have hl := h2.len
  refine for_it walk_list Pv h0 (fun i σ' H' hi p => (hG i σ' H' (by omega) p).seq h1) (fun i x σ' H' H'' hi p ⟨e1, e2⟩ => ?_) (fun σ' H' p => hd σ' H' (by rw [← hl]; exact p))
  subst e1
  obtain ⟨d, e3, e4⟩ := h2.of e2
  exact hs i d x σ' _ (by omega) e3 p (e4.same (hG i σ' _ (by omega) p))
/-- a comprehension: what turn i gives is told as data, or none; the new list's things stand apart from it -/
theorem lc_dp {J : It} {n : Nat} {G : Hp → Prop} {Y : Nat → Hp → V → Hp → Prop} (w : L2.Walk J n G Y) {vs : List Nat} {Qd : Addr → Hp → Prop} (f : Nat → Option PyData) (hn : n ≤ 1000000) (hG : ∀ H', Same H H' → G H')
    (hs : ∀ i x p H2 H' (R : V → Hp → Prop) (R' : Hp → Prop), i < n → H p = none → Same H H2 → (∃ o, H2 p = some o) → Y i H2 x H' → (∀ y d H4, f i = some d → Same H2 H4 → Dp K (rs (· ≠ p) H4) y d → R y H4) → (∀ H3, f i = none → Same H2 H3 → R' H3) →
      g x (wipe σ vs) H' fun σ2 H2 => wipe σ2 vs = wipe σ vs ∧ tt σ2 H2 fun b H3 => if b = true then te σ2 H3 R else R' H3)
    (q : ∀ p H' vs, H p = none → Same H H' → H' p = some (.lst vs) → DpAll K (rs (· ≠ p) H') vs ((List.range n).filterMap f) → Qd p H') :
    ∀ D, H D = none → ∃ W : Nat → Nat → Hp → Prop, (∃ m, W 0 m (upd H D (.lst []))) ∧ ∀ i m H, W i m H →
      (J.stop i H ∧ Qd D H) ∨ (J.go i H ∧ ∃ Nx : Hp → Prop, (∀ H', Nx H' → ∃ m', m' < m ∧ W (i + 1) m' H') ∧ ∀ x H', J.yld i H x H' → g x (wipe σ vs) H' fun σ2 H2 => wipe σ2 vs = wipe σ vs ∧ tt σ2 H2 fun b H3 =>
        if b = true then te σ2 H3 fun y H4 => ∃ acc, H4 D = some (.lst acc) ∧ acc.length < sizeLine ∧ Nx (upd H4 D (.lst (acc ++ [y]))) else Nx H3) := by
  intro D hD
  refine lc_it w (fun i H2 => Same H H2 ∧ ∃ us, H2 D = some (.lst us) ∧ DpAll K (rs (· ≠ D) H2) us ((List.range i).filterMap f)) ⟨same_new hD, [], upd_same, .nil⟩ (fun i H2 _ p => hG H2 p.1) ?_ (fun H2 ⟨p1, us, p2, p3⟩ => q D H2 us hD p1 p2 p3)
  rintro i x H2 H' hi ⟨p1, us, p2, p3⟩ y
  refine hs i x D H2 H' _ _ hi hD p1 ⟨_, p2⟩ y (fun y d H4 e s dy => ?_) (fun H3 e s => ?_)
  · have e4 : Same (rs (· ≠ D) H2) (rs (· ≠ D) H4) := rs_same fun a o h1 h2 => ⟨h1, s _ _ h2⟩
    have e5 : Same (rs (· ≠ D) H4) (rs (· ≠ D) (upd H4 D (.lst (us ++ [y])))) := rs_same fun a o h1 h2 => ⟨h1, by rw [upd_ne h1]; exact h2⟩
    refine ⟨us, s _ _ p2, sz_lt (by have := p3.len; have := fm_len' f i; omega), same_mut (p1.trans s) hD, _, upd_same, ?_⟩
    rw [fm_succ', e]
    exact ((p3.same e4).same e5).snoc (dy.same e5)
  · refine ⟨p1.trans s, us, s _ _ p2, ?_⟩
    rw [fm_succ', e, List.append_nil]
    exact p3.same (rs_same fun a o h1 h2 => ⟨h1, s _ _ h2⟩)
end
/-! ### defs that may raise -/
structure MetX (P : Program) (w : World) (K : PySem.W.Frag) (mg : Str → Option Value) (base : Heap) (k : Nat) (C : Addr) (m : Str) (sp : Sp) : Prop where
  ex : ∃ (f : Addr) (fd : FuncData) (ps : List Str), Cls K C ∧ Meth K C m f ∧ FnOk P w K mg base (L2.CX P w) k f fd ps sp ∧ Binds K fd ps []
structure MakX (P : Program) (w : World) (K : PySem.W.Frag) (mg : Str → Option Value) (base : Heap) (k : Nat) (x : Str) (C : Addr) (sp : Sp) : Prop where
  ex : ∃ (f : Addr) (fd : FuncData) (ps : List Str), Mk K C f ∧ FnOk P w K mg base (L2.CX P w) k f fd ps sp ∧ mg x = some (.ref C) ∧ Binds K fd ps []
section
variable {P : Program} {w : World} {K : PySem.W.Frag} {mg : Str → Option Value} {base : Heap}
theorem MethAt.metX {C : Addr} {m qual : Str} {st : Stmt} {N ps : List Str} {k : Nat} {sp : Sp} (c : Cls K C) (d : MethAt K C m qual st ps) (S : FnScope N ps (defScope st)) (len : ∀ vs H Q E, sp vs H Q E → vs.length = ps.length)
    (hbody : ∀ (f : Addr) (cdv : Value) (A : Around) (outer : List Env) (s : Shared) (H : Hp) (vs : List V) (Q : VK) (E : XK), Room k (A.deeper (envOfC qual (defScope st) s.heap.objs.size f cdv)) → sp vs H Q E →
      ∃ t, PSs (cxOf (L2.CX P w) P w K mg base N qual (defScope st) f cdv A outer s H E) (defBody st) t ∧ t { nx := fun _ H' => Q .non H', rt := Q } (start N vs) H) : MetX P w K mg base (k + 1) C m sp := by
  obtain ⟨f, fd, F, hm, b⟩ := d.ex
  exact ⟨f, fd, ps, c, hm, F.okX S len (hbody f), b⟩
theorem InitAt.makX {x : Str} {C : Addr} {qual : Str} {st : Stmt} {N ps : List Str} {k : Nat} {sp : Sp} (hx : mg x = some (.ref C)) (d : InitAt K C qual st ps) (S : FnScope N ps (defScope st)) (len : ∀ vs H Q E, sp vs H Q E → vs.length = ps.length)
    (hbody : ∀ (f : Addr) (cdv : Value) (A : Around) (outer : List Env) (s : Shared) (H : Hp) (vs : List V) (Q : VK) (E : XK), Room k (A.deeper (envOfC qual (defScope st) s.heap.objs.size f cdv)) → sp vs H Q E →
      ∃ t, PSs (cxOf (L2.CX P w) P w K mg base N qual (defScope st) f cdv A outer s H E) (defBody st) t ∧ t { nx := fun _ H' => Q .non H', rt := Q } (start N vs) H) : MakX P w K mg base (k + 1) x C sp := by
  obtain ⟨f, fd, F, hm, b⟩ := d.ex
  exact ⟨f, fd, ps, hm, F.okX S len (hbody f), hx, b⟩
end
/-- where no exception is wanted -/
theorem passN {X : Cx} (σ : L2.St) : PassesAt (L2.CX X.prog X.w) X σ ((fun _ => E0) σ) := fun pins H s e s' I c => passL pins σ H s e s' I c
/-- x.m(..), C(..), where what is raised is wished for at the caller's slots -/
def tMethE (C : Addr) (m : Str) (sp : Sp) (E : L2.St → XK) (ta : TE) (t : TA) : TE := fun σ H Q => ta σ H fun x H1 => ∃ a dx fs, x = .ref a ∧ H1 a = some (.ins C dx fs) ∧ fs.lookup m = none ∧ t σ H1 fun vs H2 => sp (x :: vs) H2 Q (E σ)
def tMakeE (C : Addr) (sp : Sp) (E : L2.St → XK) (t : TA) : TE := fun σ H Q => t σ H fun vs H1 => ∀ x dx, H1 x = none → H1 dx = none → dx ≠ x →
  sp (.ref x :: vs) (upd (upd H1 dx (.own x)) x (.ins C dx [])) (fun v H2 => v = .non ∧ Q (.ref x) H2) (E σ)
section
variable {X : Cx} {CX : CXT} {k j : Nat} {f C : Addr} {fd : FuncData} {ps : List Str} {x m : Str} {sp : Sp} {p pos apos : Pos} {e o : Expr} {es : List Expr} {ta : TE} {t : TA} {E : L2.St → XK}
theorem run_makeS {pins : List (Addr × Obj)} {σ : L2.St} {H : Hp} {s : Shared} {Q : VK} {us : List Value} {vs : List V} (M : Mk X.K C f) (F : FnOk X.prog X.w X.K X.mg X.base CX k f fd ps sp) (hr : Room (k + 1) X.A) (hb : Binds X.K fd ps [])
    (hx : PassesAt CX X σ (E σ)) (I : Inv X pins σ H s) (r : Vals vs us)
    (h : ∀ x dx, H x = none → H dx = none → dx ≠ x → sp (.ref x :: vs) (upd (upd H dx (.own x)) x (.ins C dx [])) (fun v H2 => v = .non ∧ Q (.ref x) H2) (E σ)) :
    wpAny (model X.prog X.w) X.A (call (.ref C) us) (EP X pins σ Q) X.xe s := by
  -- the new object's place, its dict's place
  obtain ⟨dn, hdn⟩ : ∃ dn, dn = s.heap.objs.size := ⟨_, rfl⟩
  have fresh1 : H dn = none := I.hok.fresh (Nat.le_of_eq hdn.symm)
  have fresh2 : H (dn + 1) = none := I.hok.fresh (Nat.le_succ_of_le (Nat.le_of_eq hdn.symm))
  have asked := h (dn + 1) dn fresh2 fresh1 (Nat.ne_of_lt (Nat.lt_succ_self _))
  have J := Inv.made (C := C) I
  rw [← hdn] at J
  have args : Vals (V.ref (dn + 1) :: vs) (Value.ref (dn + 1) :: us) := .cons rfl r
  have many : (Value.ref (dn + 1) :: us).length = ps.length := args.length.symm.trans (F.len _ _ _ _ asked)
  have bound := hb _ (Value.ref (dn + 1) :: us) J.kIn (by rw [List.append_nil]; exact many)
  rw [List.append_nil] at bound
  subst hdn
  refine wpAny_call (make_map (f := f) I.kIn M.makes M.init (beq_iff_eq.mp M.fn) ?_)
  refine codeAny_mono (F.run _ X.stack _ _ ⟨_, []⟩ _ _ _ (E σ) (hr.make C us []) (J.env0.make C us []) bound args asked) fun out s' ho => ?_
  match out, ho with
  | .error e, ho => exact hx pins _ _ e s' J ho
  | .ok (.ret u), ho =>
    obtain ⟨v, H', J', rel, hv, rest⟩ := J.after ho
    cases hv
    exact ⟨rel, .ref (s.heap.objs.size + 1), H', J', rfl, rest⟩
  | .ok .next, ho => exact ho.elim
  | .ok .brk, ho => exact ho.elim
  | .ok .cont, ho => exact ho.elim
theorem pe_xS (c : CalX X.prog X.w X.K X.mg X.base k x sp) (hr : Room j X.A) (hk : k ≤ j) (hg : Gl X x) (hx : ∀ σ, PassesAt (L2.CX X.prog X.w) X σ (E σ)) (ha : PA X (e :: es) t)
    (hdb : (x == ("__debug__" : Str)) = false := by decide) (he : starEach (e :: es) X.env = (false, eval e X.env) :: starEach es X.env := by rfl) (hpl : (backTo pos (starEach es X.env)).any (·.1) = false := by rfl) :
    PE X (.Call (.Name x p) (e :: es) [] pos) (tCallS sp E t) := by
  obtain ⟨f, fd, ps, F, hm, kp, b⟩ := c.ex
  exact pe_callS F (hr.mono hk) hg hm kp b hx ha hdb he hpl
theorem pe_xMk (c : MakX X.prog X.w X.K X.mg X.base k x C sp) (hr : Room j X.A) (hk : k + 1 ≤ j) (hg : Gl X x) (hx : ∀ σ, PassesAt (L2.CX X.prog X.w) X σ (E σ)) (ha : PA X (e :: es) t)
    (hdb : (x == ("__debug__" : Str)) = false := by decide) (he : starEach (e :: es) X.env = (false, eval e X.env) :: starEach es X.env := by rfl) (hpl : (backTo pos (starEach es X.env)).any (·.1) = false := by rfl) :
    PE X (.Call (.Name x p) (e :: es) [] pos) (tMakeE C sp E t) := by
  obtain ⟨f, fd, ps, M, F, hm, hb⟩ := c.ex
  refine ⟨fun pins s σ H Q I h => ?_⟩
  refine wpAny_Call_Name_kw (ld_glob I hg hm ?_ hdb)
  refine PySem.W.callWith_K (h₀ := X.base) I.ok.mod.kin M.kp (thn (ha.run pos pins s σ H _ I h) fun us s1 ⟨vs, H1, I1, r, q⟩ => ⟨I1.kIn, ?_⟩) he hpl
  exact run_makeS M F (hr.mono hk) hb (hx σ) I1 r q
theorem pe_xMt {pl : Sem Bool} (c : MetX X.prog X.w X.K X.mg X.base k C m sp) (hr : Room j X.A) (hk : k ≤ j) (hx : ∀ σ, PassesAt (L2.CX X.prog X.w) X σ (E σ)) (he : PE X o ta) (ha : PA X (e :: es) t)
    (hst : starEach (e :: es) X.env = (false, eval e X.env) :: starEach es X.env := by rfl) (hpl : (backTo pos (starEach es X.env)).any (·.1) = false := by rfl)
    (ht : eval (.Call (.Attribute o m apos) (e :: es) [] pos) X.env = (do
      let ov ← eval o X.env
      standAt apos.atName
      let (f, first) ← holding [ov] (getMethod ov m pl)
      callWith pos f first (backTo pos (starEach (e :: es) X.env)) (backToKw pos (keywordEach [] X.env))) := by rfl) :
    PE X (.Call (.Attribute o m apos) (e :: es) [] pos) (tMethE C m sp E ta t) := by
  obtain ⟨f, fd, ps, hc, hm, F, hb⟩ := c.ex
  refine ⟨fun pins s σ H Q I h => ?_⟩
  refine PySem.W.methodCall_KW (pl := pl) (thn (he.run pins s σ H _ I h) fun u s1 ⟨x, H1, I1, rx, a, dx, fs, ex, ea, l, q⟩ => ?_) ht
  subst ex
  obtain rfl : u = Value.ref a := rx
  refine getmeth_ok I1 ea hc hm l ?_
  refine PySem.W.callWith_K (first := [.ref a]) (h₀ := X.base) I.ok.mod.kin hm.kp (thn (ha.run pos pins s1 σ H1 _ I1 q) fun us s2 ⟨vs, H2, I2, r, q2⟩ => ⟨I2.kIn, ?_⟩) hst hpl
  exact run_fnS (us := .ref a :: us) (vs := .ref a :: vs) F (hr.mono hk) hb (hx σ) I2 (.cons rfl r) q2
theorem pe_xMt0 {pl : Sem Bool} (c : MetX X.prog X.w X.K X.mg X.base k C m sp) (hr : Room j X.A) (hk : k ≤ j) (hx : ∀ σ, PassesAt (L2.CX X.prog X.w) X σ (E σ)) (he : PE X o ta)
    (ht : eval (.Call (.Attribute o m apos) [] [] pos) X.env = (do
      let ov ← eval o X.env
      standAt apos.atName
      let (f, first) ← holding [ov] (getMethod ov m pl)
      callWith pos f first (backTo pos (starEach [] X.env)) (backToKw pos (keywordEach [] X.env))) := by rfl) :
    PE X (.Call (.Attribute o m apos) [] [] pos) (tMethE C m sp E ta tNil) := by
  obtain ⟨f, fd, ps, hc, hm, F, hb⟩ := c.ex
  refine ⟨fun pins s σ H Q I h => ?_⟩
  refine PySem.W.methodCall_KW (pl := pl) (thn (he.run pins s σ H _ I h) fun u s1 ⟨x, H1, I1, rx, a, dx, fs, ex, ea, l, q⟩ => ?_) ht
  subst ex
  obtain rfl : u = Value.ref a := rx
  refine getmeth_ok I1 ea hc hm l ?_
  exact PySem.W.callWith_K0 (first := [.ref a]) I1.kIn hm.kp (run_fnS (us := [.ref a]) (vs := [.ref a]) F (hr.mono hk) hb (hx σ) I1 (.cons rfl .nil) q)
end
/-- an own exception class that is raised; one that is caught -/
structure ExcAt (K : PySem.W.Frag) (C : Addr) : Prop where
  x : PySem.W.excIn K C [.type "ValueError", .type "Exception", .type "BaseException", .type "object"] "ValueError.__new__" = true
  k : PySem.W.keepIn K (.ref C) = true
  b : PySem.W.subIn K (.ref C) (.type "BaseException") = some true
  t : PySem.W.typeIn K (.ref C) = some (.type "type")
structure ExcK (K : PySem.W.Frag) (C : Addr) : Prop where
  b : PySem.W.subIn K (.ref C) (.type "BaseException") = some true
  i : PySem.W.isClsIn K C = true
  t : PySem.W.typeIn K (.ref C) = some (.type "type")
theorem ExcK.exm {K : PySem.W.Frag} {C D : Addr} {r : Bool} (c : ExcK K C) (h : PySem.W.subIn K (.ref D) (.ref C) = some r) : PySem.W.exmOne K (.ref D) (.ref C) = some r := by
  have e1 : (PySem.W.subIn K (.ref C) (.type "BaseException") == some true) = true := by rw [c.b] <;> rfl
  have e2 : ((PySem.W.clsIn K C).isSome && PySem.W.typeIn K (.ref C) == some (.type "type")) = true := by
    have h2' : (PySem.W.clsIn K C).isSome = true := c.i
    rw [h2', c.t] <;> rfl
  show (if (PySem.W.subIn K (.ref C) (.type "BaseException") == some true) = true then (if ((PySem.W.clsIn K C).isSome && PySem.W.typeIn K (.ref C) == some (.type "type")) = true then PySem.W.subIn K (.ref D) (.ref C) else none) else none) = some r
  rw [if_pos e1, if_pos e2]
  exact h
/-- C() -/
theorem pmk_own0 {X : Cx} {C : Addr} {x : Str} {p pos : Pos} (c : ExcAt X.K C) (gC : X.mg x = some (.ref C)) (hg : Gl X x) (hdb : (x == ("__debug__" : Str)) = false := by decide) :
    PMk X (.Call (.Name x p) [] [] pos) (fun _ H Q => Q (.ref C) none H) := by
  intro pins s σ H Q I h
  refine wpAny_Call_Name_kw (ld_glob I hg gC ?_ hdb)
  refine PySem.W.callWith_K0 I.kIn c.k ?_
  obtain ⟨bm, N, nm, qn, bs, hdct, sn, sub, ab, col, dd, k0, k1, k2, k3, k5, mN, hC, hN, hni, T⟩ := exc_obj I.kIn c.x
  refine wpAny_call_exc_subT PySem.F.excBase_ValueError T hC hN hni (fun h' e hm => ?_) (Nat.zero_le _)
  exact mk_of I hm (raises_own c.b c.t) h (I.hok.gone hm.new)
section
variable {K : PySem.W.Frag} {σ : L2.St} {H : Hp} {ta : TE} {tr : TA} {Q : VK} {E : L2.St → XK} {C : Addr} {m : Str} {sp : Sp}
theorem L_callS (h : tr σ H fun vs H1 => sp vs H1 Q (E σ)) : tCallS sp E tr σ H Q := h
theorem L_methE (h : ta σ H fun x H1 => ∃ a dx fs, x = .ref a ∧ H1 a = some (.ins C dx fs) ∧ fs.lookup m = none ∧ tr σ H1 fun vs H2 => sp (x :: vs) H2 Q (E σ)) : tMethE C m sp E ta tr σ H Q := h
theorem L_makeE (h : tr σ H fun vs H1 => MakeP C sp (E σ) vs H1 Q) : tMakeE C sp E tr σ H Q := h
theorem L_meth {E : XK} (h : ta σ H fun x H1 => ∃ a dx fs, x = .ref a ∧ H1 a = some (.ins C dx fs) ∧ fs.lookup m = none ∧ tr σ H1 fun vs H2 => sp (x :: vs) H2 Q E) : tMeth C m sp [] E ta tr σ H Q := by
  unfold tMeth
  simp only [List.append_nil]
  exact h
theorem L_methv {a dx : Addr} {fs : List (Str × V)} {R : Prop} (h : H a = some (.ins C dx fs)) (l : fs.lookup m = none) (q : R) : ∃ a' dx fs, V.ref a = V.ref a' ∧ H a' = some (.ins C dx fs) ∧ fs.lookup m = none ∧ R := ⟨a, dx, fs, rfl, h, l, q⟩
theorem L_only {c : Value} {ts : Addr → Value → Option Addr → TS} {Wout : WX} {D : Ends} {cls : Value} {d : Option Addr} (h : PySem.W.exmOne K cls c = some true) (q : ∀ a, H a = none → ts a cls d D σ H) : wOnly K c ts Wout D cls d σ H := ⟨true, h, fun _ => q, fun z => nomatch z⟩
end
/-- no whole number: another kind of thing, or a truth -/
def NotW (K : PySem.W.Frag) (H : Hp) (v : V) : Prop := (∃ b, v = .bl b) ∨ ∃ a, TyX K H v (.type a) ∧ kitB a "int" = some false
/-- what is_whole denies -/
def BadW (K : PySem.W.Frag) (H : Hp) (v : V) (lo hi : Int) : Prop := NotW K H v ∨ ∃ t, v = .int t ∧ ¬ (lo ≤ t ∧ t ≤ hi)
section
variable {K : PySem.W.Frag} {H : Hp}
theorem notw_non : NotW K H .non := .inr ⟨_, .base .non, by decide +kernel⟩
theorem notw_bl {b : Bool} : NotW K H (.bl b) := .inl ⟨b, rfl⟩
theorem notw_str {z : Str} : NotW K H (.str z) := .inr ⟨_, .base (.str z), by decide +kernel⟩
theorem notw_lst {a : Addr} {xs : List V} (h : H a = some (.lst xs)) : NotW K H (.ref a) := .inr ⟨_, .base (.lst h), by decide +kernel⟩
theorem notw_tup {a : Addr} {xs : List V} (h : H a = some (.tup xs)) : NotW K H (.ref a) := .inr ⟨_, .base (.tup h), by decide +kernel⟩
theorem notw_dK {a : Addr} {xs : List (Key × V)} (h : H a = some (.dK xs)) : NotW K H (.ref a) := .inr ⟨_, .base (.dK h), by decide +kernel⟩
theorem badw_int {t lo hi : Int} (h : ¬ (lo ≤ t ∧ t ≤ hi)) : BadW K H (.int t) lo hi := .inr ⟨t, rfl, h⟩
theorem NotW.bad {v : V} {lo hi : Int} (h : NotW K H v) : BadW K H v lo hi := .inl h
end
section
variable {K : PySem.W.Frag} {H H' : Hp}
theorem tyx_T {a : Addr} {xs : List V} (h : SqT K H a xs) : TyX K H (.ref a) (.type "tuple") := by
  rcases h with (h | ⟨o, h⟩) | ⟨o, _, _, h, c, _⟩
  · exact .base (.tup h)
  · exact .fTuple h
  · exact .kTuple h c
theorem tyx_L {a : Addr} {xs : List V} (h : SqL K H a xs) : TyX K H (.ref a) (.type "list") := by
  rcases h with (h | ⟨o, h⟩) | ⟨o, _, _, h, c, _⟩
  · exact .base (.lst h)
  · exact .base (.frz h)
  · exact .kList h c
variable {σ : L2.St} {Q : VK}
theorem L_sort2 {a : Addr} {x y : Int} (h : SqL K H a [V.int x, V.int y]) (q : ∀ p, H p = none → Q (.ref p) (upd H p (.lst [V.int (min x y), V.int (max x y)]))) : rSorted K [.ref a] H Q := by
  refine ⟨a, [x, y], rfl, h, by simp, fun ns p hp hs hn => ?_⟩
  have hl := hp.length_eq
  match ns, hl with
  | [u, v], _ =>
    have hle : u ≤ v := by simpa using hs
    have hm : (u = x ∧ v = y) ∨ (u = y ∧ v = x) := by
      have h1 : u ∈ [x, y] := hp.mem_iff.mp (by simp)
      have h2 : v ∈ [x, y] := hp.mem_iff.mp (by simp)
      have h3 : x ∈ [u, v] := hp.mem_iff.mpr (by simp)
      have h4 : y ∈ [u, v] := hp.mem_iff.mpr (by simp)
      simp only [List.mem_cons, List.not_mem_nil, or_false] at h1 h2 h3 h4
      rcases h1 with h1 | h1 <;> rcases h2 with h2 | h2 <;> rcases h3 with h3 | h3 <;> rcases h4 with h4 | h4 <;> omega
    have e : [u, v] = [min x y, max x y] := by
      rcases hm with ⟨rfl, rfl⟩ | ⟨rfl, rfl⟩
      · rw [Int.min_eq_left hle, Int.max_eq_right hle]
      · rw [Int.min_eq_right hle, Int.max_eq_left hle]
    rw [e]
    exact q p hn
theorem L_list1 {a : Addr} {xs : List V} (h : SqL K H a xs) (q : ∀ l, H l = none → Q (.ref l) (upd H l (.lst xs))) : aList1 K [.ref a] H Q := ⟨a, xs, rfl, .inl h, q⟩
theorem L_tuple1 {a : Addr} {xs : List V} (h : SqL K H a xs) (q : ∀ l, H l = none → Q (.ref l) (upd H l (.tup xs))) : aTuple1 K [.ref a] H Q := ⟨a, xs, rfl, .inl ⟨h, q⟩⟩
theorem eqv_same {d : PyData} (h : SeqAt.shaped d = true) : PyData.eqv d d = true := SeqAt.eqv_refl d (SeqAt.canLay_of_shaped h)
theorem L_eqR {x y : V} {d : PyData} (hx : Dp K H x d) (hy : Dp K H y d) (s : SeqAt.shaped d = true) (q : Q (.bl true) H) : aEq K x y H Q := L_eqD hx hy s s (by rw [eqv_same s]; exact q)
theorem L_neR {x y : V} {d : PyData} (hx : Dp K H x d) (hy : Dp K H y d) (s : SeqAt.shaped d = true) (q : Q (.bl false) H) : aNe K x y H Q := L_neD hx hy s s (by rw [eqv_same s]; exact q)
theorem L_zipA {a b : Addr} {xs ys : List V} {R : Addr → Addr → Prop} (h1 : SqL K H a xs) (h2 : SqL K H b ys) (q : R a b) : ∃ a' b' xs ys, [V.ref a, V.ref b] = [.ref a', .ref b'] ∧ SqL K H a' xs ∧ SqL K H b' ys ∧ R a' b' := ⟨a, b, xs, ys, rfl, h1, h2, q⟩
end
/-- data that == may be asked of, at most n deep -/
structure Shp (n : Nat) (d : PyData) : Prop where
  c : d.canLay0 = true
  d : d.depth ≤ n
theorem Shp.ok {n : Nat} {d : PyData} (h : Shp n d) (hn : n ≤ 64 := by decide) : SeqAt.shaped d = true := by
  unfold SeqAt.shaped
  rw [h.c, decide_eq_true (Nat.le_trans h.d hn)]; rfl
theorem shp_int {n : Nat} {i : Int} : Shp n (.int i) := ⟨by simp [PyData.canLay0], by simp [PyData.depth]⟩
theorem shp_bl {n : Nat} {i : Bool} : Shp n (.bool i) := ⟨by simp [PyData.canLay0], by simp [PyData.depth]⟩
theorem shp_non {n : Nat} : Shp n .none := ⟨by simp [PyData.canLay0], by simp [PyData.depth]⟩
theorem shp_str {n : Nat} {z : Str} (h : PyData.strOk z = true) : Shp n (.str z) := ⟨by simpa [PyData.canLay0] using h, by simp [PyData.depth]⟩
theorem shp_all {n : Nat} : ∀ {ds : List PyData}, (∀ d ∈ ds, Shp n d) → PyData.canLayAll0 ds = true ∧ PyData.depthAll ds ≤ n
  | [], _ => ⟨by simp [PyData.canLayAll0], by simp [PyData.depthAll]⟩
  | d :: ds, h => by
    have h1 := h d (List.mem_cons_self ..)
    have h2 := shp_all fun x hx => h x (List.mem_cons_of_mem _ hx)
    exact ⟨by simp [PyData.canLayAll0, h1.c, h2.1], by simp only [PyData.depthAll]; exact Nat.max_le.mpr ⟨h1.d, h2.2⟩⟩
theorem shp_lst {n : Nat} {ds : List PyData} (h : ∀ d ∈ ds, Shp n d) : Shp (n + 1) (.list ds) := ⟨by simp only [PyData.canLay0]; exact (shp_all h).1, by simp only [PyData.depth]; have := (shp_all h).2; omega⟩
theorem shp_tup {n : Nat} {ds : List PyData} (h : ∀ d ∈ ds, Shp n d) : Shp (n + 1) (.tuple ds) := ⟨by simp only [PyData.canLay0]; exact (shp_all h).1, by simp only [PyData.depth]; have := (shp_all h).2; omega⟩
theorem shp_nil {n : Nat} : ∀ d ∈ ([] : List PyData), Shp n d := fun _ h => nomatch h
theorem shp_cons {n : Nat} {d : PyData} {ds : List PyData} (h : Shp n d) (t : ∀ d ∈ ds, Shp n d) : ∀ x ∈ d :: ds, Shp n x := fun x hx => by
  rcases List.mem_cons.mp hx with rfl | hx
  · exact h
  · exact t x hx
theorem shp_map {n : Nat} {α : Type} {f : α → PyData} {l : List α} (h : ∀ a ∈ l, Shp n (f a)) : ∀ d ∈ l.map f, Shp n d := fun d hd => by
  obtain ⟨a, ha, rfl⟩ := List.mem_map.mp hd
  exact h a ha
theorem shp_ints {n : Nat} {l : List Int} : Shp (n + 1) (.list (l.map .int)) := shp_lst (shp_map fun _ _ => shp_int)
theorem _root_.L2.Dp.ints {K : PySem.W.Frag} {H : Hp} {a : Addr} {ns : List Int} (h : SqL K H a (ns.map V.int)) : Dp K H (.ref a) (.list (ns.map .int)) := .lst h (dp_ints ns)
section
variable {K : PySem.W.Frag} {H : Hp} {Q : VK}
theorem L_powE {i j n : Int} (h : CPow i j) (e : i ^ j.toNat = n) (q : Q (.int n) H) : rI CPow (fun i j => .int (i ^ j.toNat)) (.int i) (.int j) H Q := ⟨i, j, rfl, rfl, h, by subst e; exact q⟩
/-- one of some ints -/
theorem L_menu {ns : List Int} {p : Addr} {i : Int} (h : SqL K H p (ns.map V.int)) (h0 : 0 ≤ i) (h1 : i < ns.length) (q : ∀ v ∈ ns, Q (.int v) H) : rIx K (.ref p) (.int i) H Q := by
  have hl : i.toNat < ns.length := by omega
  refine L_ixL h (atI_ints h0 h1) (q _ ?_)
  rw [List.getD_eq_getElem?_getD, List.getElem?_eq_getElem hl]
  exact List.getElem_mem hl
/-- an item of a list of ints, some property of all its items kept -/
theorem L_ixP {ns : List Int} {p : Addr} {i : Int} {P : Int → Prop} (h : SqL K H p (ns.map V.int)) (hP : ∀ v ∈ ns, P v) (h0 : 0 ≤ i) (h1 : i < ns.length) (q : ∀ v, P v → Q (.int v) H) : rIx K (.ref p) (.int i) H Q :=
  L_menu h h0 h1 fun v hv => q v (hP v hv)
end
theorem cdiv_lit {i j : Int} (h : 0 < j ∧ j < 1000000000000) : CDivW i j := (bd_64 (by omega)).cdiv h.1
theorem cpow_lit {i j : Int} (h : 0 ≤ j ∧ j ≤ 1000 ∧ -1000000 < i ∧ i < 1000000) : CPow i j := by
  have e : (2 : Nat) ^ 64 = 18446744073709551616 := by decide
  exact ⟨h.1, by omega, by omega⟩
theorem same_newE {H Hn : Hp} {p : Addr} {o : HO} (e : upd H p o = Hn) (h : H p = none) : Same H Hn := e ▸ same_new h
theorem upd_at {H Hn : Hp} {p : Addr} {o : HO} (e : upd H p o = Hn) : Hn p = some o := e ▸ upd_same
section
variable {K : PySem.W.Frag} {H H' : Hp} {p q : Addr} {us xs : List V} {ds : List PyData} {d : PyData} {y : V} {o : HO}
/-- a list grows: its things stand apart from it -/
theorem dp_grow (hdp : DpAll K (rs (· ≠ p) H) us ds) (s : Same H H') (hy : Dp K (rs (· ≠ p) H') y d) : DpAll K (rs (· ≠ p) (upd H' p o)) (us ++ [y]) (ds ++ [d]) :=
  (hdp.same (rs_same fun a u na ha => ⟨na, by rw [upd_ne na]; exact s _ _ ha⟩)).snoc (hy.same (rs_same fun a u na ha => ⟨na, by rw [upd_ne na]; exact ha⟩))
theorem dp_tupN (h : H q = some (.tup xs)) (n : q ≠ p) (ha : DpAll K (rs (· ≠ p) H) xs ds) : Dp K (rs (· ≠ p) H) (.ref q) (.tuple ds) := .tup (.of (rs_at n h)) ha
theorem dp_lstN (h : H q = some (.lst xs)) (n : q ≠ p) (ha : DpAll K (rs (· ≠ p) H) xs ds) : Dp K (rs (· ≠ p) H) (.ref q) (.list ds) := .lst (.of (rs_at n h)) ha
/-- data that stood ahead of p -/
theorem dp_old {H0 : Hp} (h : Dp K H0 y d) (n : H0 p = none) (s : Same H0 H) : Dp K (rs (· ≠ p) H) y d := h.same (rs_all fun a u ha => ⟨fun z => (by rw [z, n] at ha; cases ha), s _ _ ha⟩)
theorem dpA_old {H0 : Hp} (h : DpAll K H0 us ds) (n : H0 p = none) (s : Same H0 H) : DpAll K (rs (· ≠ p) H) us ds := h.same (rs_all fun a u ha => ⟨fun z => (by rw [z, n] at ha; cases ha), s _ _ ha⟩)
theorem dp_whole (h : DpAll K (rs (· ≠ p) H) us ds) (e : H p = some (.lst us)) : Dp K H (.ref p) (.list ds) := .lst (.of e) (h.same rs_sub)
theorem ne_new (h : H p = none) (h' : ∃ o, H q = some o) : p ≠ q := fun z => by
  obtain ⟨o, e⟩ := h'
  rw [z, e] at h; cases h
end
theorem fm_get {α β : Type} (g : α → β) : ∀ (l : List α), (List.range l.length).filterMap (fun i => l[i]?.map g) = l.map g
  | [] => rfl
  | a :: l => by
    have ih := fm_get g l
    rw [List.length_cons, List.range_succ_eq_map]
    simp only [List.filterMap_cons, List.getElem?_cons_zero, Option.map_some, List.filterMap_map, Function.comp_def, List.getElem?_cons_succ, List.map_cons]
    rw [ih]
theorem sum_take {α : Type} {l : List α} {f : α → Int} {i : Nat} {x : α} (h : l[i]? = some x) : ((l.take (i + 1)).map f).sum = ((l.take i).map f).sum + f x := by
  rw [List.take_succ, h]
  simp
theorem sum_takeAll {α : Type} {l : List α} {f : α → Int} {n : Nat} (h : l.length ≤ n) : ((l.take n).map f).sum = (l.map f).sum := by rw [List.take_of_length_le h]
/-! ### loops, the ends told one by one -/
section
variable {K : PySem.W.Frag} {σ : L2.St} {H : Hp} {g : TG} {tb : TS} {N : L2.St → Hp → Prop} {R : VK}
/-- what a for asks behind its iterable -/
abbrev ForT (J : It) (σ : L2.St) (H : Hp) (g : TG) (tb : TS) (N : L2.St → Hp → Prop) (R : VK) : Prop :=
  ∃ W : Nat → Nat → L2.St → Hp → Prop, (∃ m, W 0 m σ H) ∧ ∀ i m σ H, W i m σ H →
      (J.stop i H ∧ N σ H) ∨ (J.go i H ∧ ∃ M : L2.St → Hp → Prop, (∀ σ' H', M σ' H' → ∃ m', m' < m ∧ W (i + 1) m' σ' H') ∧ ∀ x H', J.yld i H x H' → g x σ H' fun σ2 H2 => tb ⟨M, R, N, M⟩ σ2 H2)
theorem f_it {J : It} {n : Nat} {G : Hp → Prop} {Y : Nat → Hp → V → Hp → Prop} (w : L2.Walk J n G Y) (Pv : Nat → L2.St → Hp → Prop) (h0 : Pv 0 σ H) (hG : ∀ i σ H, i ≤ n → Pv i σ H → G H)
    (hs : ∀ i x σ H H', i < n → Pv i σ H → Y i H x H' → g x σ H' fun σ2 H2 => tb ⟨Pv (i + 1), R, N, Pv (i + 1)⟩ σ2 H2) (hd : ∀ σ H, Pv n σ H → N σ H) : ForT J σ H g tb N R :=
  for_it (D := ⟨N, R, N, N⟩) w Pv h0 hG hs hd
theorem f_range {lo : Int} {n : Nat} (Pv : Nat → L2.St → Hp → Prop) (h0 : Pv 0 σ H)
    (hs : ∀ i σ H, i < n → Pv i σ H → g (.int (lo + i)) σ H fun σ2 H2 => tb ⟨Pv (i + 1), R, N, Pv (i + 1)⟩ σ2 H2) (hd : ∀ σ H, Pv n σ H → N σ H) : ForT (Itr lo n) σ H g tb N R :=
  for_range (D := ⟨N, R, N, N⟩) Pv h0 hs hd
theorem f_rangeC {lo c : Int} {n : Nat} (Pv : Nat → L2.St → Hp → Prop) (h0 : Pv 0 σ H)
    (hs : ∀ i σ H, i < n → Pv i σ H → g (.int (lo + (i : Nat) * c)) σ H fun σ2 H2 => tb ⟨Pv (i + 1), R, N, Pv (i + 1)⟩ σ2 H2) (hd : ∀ σ H, Pv n σ H → N σ H) : ForT (Itc lo c n) σ H g tb N R :=
  for_rangeC (D := ⟨N, R, N, N⟩) Pv h0 hs hd
theorem f_dp {a : Addr} {ds : List PyData} (h : Dp K H (.ref a) (.list ds)) (Pv : Nat → L2.St → Hp → Prop) (h0 : Pv 0 σ H) (hG : ∀ i σ' H', i ≤ ds.length → Pv i σ' H' → Same H H')
    (hs : ∀ i d x σ' H', i < ds.length → ds[i]? = some d → Pv i σ' H' → Dp K H' x d → g x σ' H' fun σ2 H2 => tb ⟨Pv (i + 1), R, N, Pv (i + 1)⟩ σ2 H2) (hd : ∀ σ' H', Pv ds.length σ' H' → N σ' H') : ForT (Itl K a) σ H g tb N R :=
  for_dp (D := ⟨N, R, N, N⟩) h Pv h0 hG hs hd
end
section
variable {σ σ' : L2.St} {H : Hp} {i : Nat} {v x : V} {B C : L2.St → Hp → Prop} {N : L2.St → Hp → Prop} {R : VK} {te : TE}
theorem L_gnameE {Q : L2.St → Hp → Prop} (e : σ.set i (some v) = σ') (h : Q σ' H) : gName i v σ H Q := by subst e; exact h
end
section
variable {K : PySem.W.Frag} {H H' : Hp} {σ : L2.St} {Q : VK} {te : TE} {tl th : TO}
theorem TyX_same {v : V} {t : Value} (e : Same H H') (h : TyX K H v t) : TyX K H' v t := by
  cases h with
  | base h =>
    refine .base ?_
    cases h with
    | non => exact .non
    | bl x => exact .bl x
    | int x => exact .int x
    | str x => exact .str x
    | flt x => exact .flt x
    | lst h => exact .lst (e _ _ h)
    | frz h => exact .frz (e _ _ h)
    | tup h => exact .tup (e _ _ h)
    | dK h => exact .dK (e _ _ h)
    | dT h => exact .dT (e _ _ h)
    | ins h cl ha hn htk hm => exact .ins (e _ _ h) cl ha hn htk hm
  | byt b => exact .byt b
  | set h => exact .set (e _ _ h)
  | kList h c => exact .kList h c
  | kTuple h c => exact .kTuple h c
  | kDict h c => exact .kDict h c
  | fTuple h => exact .fTuple (e _ _ h)
  | fDict h => exact .fDict (e _ _ h)
theorem NotW.same {v : V} (h : NotW K H v) (e : Same H H') : NotW K H' v := by
  rcases h with h | ⟨a, h1, h2⟩
  · exact .inl h
  · exact .inr ⟨a, TyX_same e h1, h2⟩
theorem BadW.same {v : V} {lo hi : Int} (h : BadW K H v lo hi) (e : Same H H') : BadW K H' v lo hi := by
  rcases h with h | h
  · exact .inl (h.same e)
  · exact .inr h
theorem L_sl {r : V → Option Int → Option Int → Hp → VK → Prop} (h : te σ H fun x H1 => tl σ H1 fun l H2 => th σ H2 fun u H3 => r x l u H3 Q) : L2.tSl r te tl th σ H Q := h
theorem L_noPart {R : Option Int → Hp → Prop} (h : R none H) : tNoPart σ H R := h
theorem L_part {t : TE} {R : Option Int → Hp → Prop} (h : t σ H fun x H1 => ∃ i, x = .int i ∧ R (some i) H1) : tPart t σ H R := h
theorem L_ki {i : Int} {R : Int → Prop} (h : R i) : ∃ j, V.int i = V.int j ∧ R j := ⟨i, rfl, h⟩
theorem L_slL {a : Addr} {xs : List V} {lo hi : Option Int} (h : SqL K H a xs) (q : ∀ p, H p = none → Q (.ref p) (upd H p (.lst (cutV xs lo hi)))) : rSlL K (.ref a) lo hi H Q := ⟨a, xs, rfl, h, q⟩
end
def cutG {α : Type} (xs : List α) (lo hi : Option Int) : List α := (xs.drop (HT.sIx xs.length 0 lo)).take (HT.sIx xs.length xs.length hi - HT.sIx xs.length 0 lo)
theorem cutV_map {α : Type} (f : α → V) (xs : List α) (lo hi : Option Int) : cutV (xs.map f) lo hi = (cutG xs lo hi).map f := by
  unfold cutV cutG
  rw [List.length_map, List.map_take, List.map_drop]
theorem cutG_mem {α : Type} {xs : List α} {lo hi : Option Int} {x : α} (h : x ∈ cutG xs lo hi) : x ∈ xs := List.mem_of_mem_drop (List.mem_of_mem_take h)
theorem cutG_len {α : Type} (xs : List α) (lo hi : Option Int) : (cutG xs lo hi).length ≤ xs.length := by
  unfold cutG
  rw [List.length_take, List.length_drop]
  omega
section
variable {K : PySem.W.Frag} {H : Hp} {Q : VK}
/-- one of some things -/
theorem L_menuV {xs : List V} {p : Addr} {i : Int} (h : SqL K H p xs) (h0 : 0 ≤ i) (h1 : i < xs.length) (q : ∀ v ∈ xs, Q v H) : rIx K (.ref p) (.int i) H Q := by
  have hl : i.toNat < xs.length := by omega
  exact L_ixL h (atI_int h0 (List.getElem?_eq_getElem hl)) (q _ (List.getElem_mem hl))
end
theorem hpL {K : PySem.W.Frag} {H : Hp} {a : Addr} {xs : List V} (h : H a = some (.lst xs)) : SqL K H a xs := .of h
theorem hpT {K : PySem.W.Frag} {H : Hp} {a : Addr} {xs : List V} (h : H a = some (.tup xs)) : SqT K H a xs := .of h
theorem bd_mod {x n : Int} (h : 0 < n ∧ n < 18446744073709551616) : Bd 64 (x % n) := bd_64 (by
  have h1 := Int.emod_nonneg x (show n ≠ 0 by omega)
  have h2 := Int.emod_lt_of_pos x h.1
  omega)
theorem hp_from {H0 H : Hp} {p : Addr} {o : HO} (h : H0 p = some o) (e : Same H0 H) : H p = some o := e _ _ h
theorem same_via {H H1 H2 : Hp} (b : Same H1 H2) (a : Same H H1) : Same H H2 := a.trans b
theorem same_upd' {H H' : Hp} {a : Addr} {o : HO} (h : H' a = none) (e : Same H H') : Same H (upd H' a o) := same_upd e h
theorem same_mut' {H H' : Hp} {a : Addr} {o : HO} (h : H a = none) (e : Same H H') : Same H (upd H' a o) := same_mut e h
section
variable {K : PySem.W.Frag} {H : Hp} {σ : L2.St} {Q : VK}
theorem L_clear {a : Addr} {xs : List V} (h : H a = some (.lst xs)) (q : Q .non (upd H a (.lst []))) : rClear (.ref a) [] H Q := ⟨a, xs, rfl, rfl, h, q⟩
theorem L_dnew (h : ∀ p, H p = none → Q (.ref p) (upd H p (.dK []))) : tDNewK σ H Q := h
/-- no list -/
def NotL (K : PySem.W.Frag) (H : Hp) (v : V) : Prop := ∃ a, TyX K H v (.type a) ∧ kitB a "list" = some false
theorem notl_tup {a : Addr} {xs : List V} (h : SqT K H a xs) : NotL K H (.ref a) := ⟨_, tyx_T h, by decide +kernel⟩
theorem notl_non : NotL K H .non := ⟨_, .base .non, by decide +kernel⟩
theorem notl_int {i : Int} : NotL K H (.int i) := ⟨_, .base (.int i), by decide +kernel⟩
theorem notl_bl {i : Bool} : NotL K H (.bl i) := ⟨_, .base (.bl i), by decide +kernel⟩
theorem notl_str {i : Str} : NotL K H (.str i) := ⟨_, .base (.str i), by decide +kernel⟩
theorem notl_dK {a : Addr} {xs : List (Key × V)} (h : H a = some (.dK xs)) : NotL K H (.ref a) := ⟨_, .base (.dK h), by decide +kernel⟩
theorem NotL.same {H' : Hp} {v : V} (h : NotL K H v) (e : Same H H') : NotL K H' v := by
  obtain ⟨a, h1, h2⟩ := h
  exact ⟨a, TyX_same e h1, h2⟩
end
theorem rep1 (x : Int) : ∀ n : Nat, (List.replicate n [V.int x]).flatten = (List.replicate n x).map V.int
  | 0 => rfl
  | n + 1 => by rw [List.replicate_succ, List.flatten_cons, rep1 x n]; rfl
section
variable {K : PySem.W.Frag} {H : Hp} {Q : VK}
theorem L_neB {i j : Bool} (q : Q (.bl (!decide (i = j))) H) : aNe K (.bl i) (.bl j) H Q := .inl ⟨rfl, by rw [show decide (V.bl i = V.bl j) = decide (i = j) by simp]; exact q⟩
end
/-! ### for x in xs: check(x) -/
section
variable {K : PySem.W.Frag} {σ : L2.St} {H : Hp} {N : L2.St → Hp → Prop} {R : VK} {a : Addr} {xs : List V} {sp : Sp} {ES : L2.St → XK} {i : Nat} {c : Value}
theorem set_self (σ : L2.St) (i : Nat) (hi : i < σ.length) : ∃ v, σ = σ.set i v := ⟨σ[i], by simp⟩
theorem L_forChk (hL : SqL K H a xs) (hi : i < σ.length) (hok : ∀ x ∈ xs, ∀ Q E, Q .non H → sp [x] H Q E) (q : ∀ v, N (σ.set i v) H) : ForT (Itl K a) σ H (gName i) (tDrop (tCallS sp ES (tCons (tVar i) tNil))) N R := by
  refine f_it walk_list (fun _ σ' H' => H' = H ∧ ∃ v, σ' = σ.set i v) ⟨rfl, set_self σ i hi⟩ (fun _ _ _ _ p => p.1 ▸ hL) ?_ ?_
  · rintro j x σ' H' H'' hj ⟨rfl, v, rfl⟩ ⟨rfl, e⟩
    refine L_gname (L_drop (L_callS (L_cons (L_var (v := x) ?_ (L_nil (hok x (List.mem_of_getElem? e) _ _ ?_))))))
    · simp [hi]
    · exact ⟨rfl, some x, by rw [List.set_set]⟩
  · rintro σ' H' ⟨rfl, v, rfl⟩
    exact q v
theorem L_forChkX (hL : SqL K H a xs) (hi : i < σ.length) (hx : ∀ x ∈ xs, (∀ Q E, Q .non H → sp [x] H Q E) ∨ ∀ Q E, E c none H → sp [x] H Q E) (hb : ∃ x ∈ xs, ∀ Q E, E c none H → sp [x] H Q E) (q : ∀ v, ES (σ.set i v) c none H) :
    ForT (Itl K a) σ H (gName i) (tDrop (tCallS sp ES (tCons (tVar i) tNil))) N R := by
  obtain ⟨x0, hx0, hb0⟩ := hb
  obtain ⟨j0, hj0⟩ := List.mem_iff_getElem?.mp hx0
  refine f_it walk_list (fun j σ' H' => H' = H ∧ (∃ v, σ' = σ.set i v) ∧ ∃ k x, j ≤ k ∧ xs[k]? = some x ∧ ∀ Q E, E c none H → sp [x] H Q E) ⟨rfl, set_self σ i hi, j0, x0, Nat.zero_le _, hj0, hb0⟩ (fun _ _ _ _ p => p.1 ▸ hL) ?_ ?_
  · rintro j x σ' H' H'' hj ⟨rfl, ⟨v, rfl⟩, k, y, hk, hy, hby⟩ ⟨rfl, e⟩
    refine L_gname (L_drop (L_callS (L_cons (L_var (v := x) ?_ (L_nil ?_)))))
    · simp [hi]
    · by_cases hc : ∀ Q E, E c none H'' → sp [x] H'' Q E
      · exact hc _ _ (by rw [List.set_set]; exact q _)
      · refine (hx x (List.mem_of_getElem? e)).resolve_right hc _ _ ⟨rfl, ⟨some x, by rw [List.set_set]⟩, k, y, ?_, hy, hby⟩
        rcases Nat.lt_or_eq_of_le hk with hlt | rfl
        · exact hlt
        · rw [e] at hy
          cases hy
          exact absurd hby hc
  · rintro σ' H' ⟨rfl, ⟨v, rfl⟩, k, y, hk, hy, hby⟩
    have := (List.getElem?_eq_some_iff.mp hy).1
    omega
end
theorem L_bm0 {K : PySem.W.Frag} {σ : L2.St} {H : Hp} {Q : VK} {te : TE} {T : String} {r : V → List V → Hp → VK → Prop} (h : te σ H fun x H1 => tyV K T x H1 ∧ r x [] H1 Q) : tBM0 K T r te σ H Q := h
/-- what an expression's ways have in common -/
theorem L_via {P : VK → Prop} {Q : VK} (R : V → Hp → Prop) (key : ∀ Q : VK, (∀ v H', R v H' → Q v H') → P Q) (q : ∀ v H', R v H' → Q v H') : P Q := key Q q
section
variable {K : PySem.W.Frag} {H : Hp} {σ : L2.St} {Q : VK} {ta tb : TE}
theorem L_disp1 (h : ∀ p, H p = none → ta σ (upd H p (.dK [])) fun k H1 => tb σ H1 fun v H2 => H2 p = some (.dK []) ∧ ∃ kvs : List (Key × V), [(k, v)] = kvs.map (fun kv => (kV kv.1, kv.2)) ∧ kvs.length ≤ 15 ∧ Q (.ref p) (upd H2 p (.dK (mergeK [] kvs)))) : tDisp [(ta, tb)] σ H Q := h
theorem L_dispE1 {p : Addr} {k v : V} (kk : Key) (e : k = kV kk) (h : H p = some (.dK [])) (q : Q (.ref p) (upd H p (.dK [(kk, v)]))) : H p = some (.dK []) ∧ ∃ kvs : List (Key × V), [(k, v)] = kvs.map (fun kv => (kV kv.1, kv.2)) ∧ kvs.length ≤ 15 ∧ Q (.ref p) (upd H p (.dK (mergeK [] kvs))) :=
  ⟨h, [(kk, v)], by rw [e]; rfl, by simp, q⟩
/-- a sign of a text -/
theorem L_ixSany {z : Str} {i : Int} (hz : z.length ≤ 1000000) (h0 : 0 ≤ i) (h1 : i < z.length) (q : ∀ a ∈ z.cps.toList, Q (.str ⟨#[a]⟩) H) : rIx K (.str z) (.int i) H Q := by
  have hl : i.toNat < z.cps.toList.length := by
    have e : z.cps.toList.length = z.length := by rw [Array.length_toList]; rfl
    omega
  have h3 : z.cps.toList[i.toNat]? = some z.cps.toList[i.toNat] := List.getElem?_eq_getElem hl
  refine L_ixS (sz_dec hz) (a := z.cps.toList[i.toNat]) ?_ (q _ (List.getElem_mem hl))
  obtain ⟨j, rfl⟩ : ∃ j : Nat, i = (j : Int) := ⟨i.toNat, by omega⟩
  exact atI_nat h3
theorem L_inR {i lo hi : Int} {a : Addr} (h : H a = some (.rng lo hi)) (q : Q (.bl (decide (lo ≤ i ∧ i < hi))) H) : (∃ i' a' lo hi, V.int i = V.int i' ∧ V.ref a = V.ref a' ∧ H a' = some (.rng lo hi) ∧ Q (.bl (decide (lo ≤ i' ∧ i' < hi))) H) := ⟨i, a, lo, hi, rfl, rfl, h, q⟩
theorem L_rng2 {i j : Int} (q : ∀ p, H p = none → Q (.ref p) (upd H p (.rng i j))) : (∃ i' j', [V.int i, V.int j] = [V.int i', V.int j'] ∧ ∀ p, H p = none → Q (.ref p) (upd H p (.rng i' j'))) := ⟨i, j, rfl, q⟩
/-- no text -/
def NotS (K : PySem.W.Frag) (H : Hp) (v : V) : Prop := ∃ a, TyX K H v (.type a) ∧ kitB a "str" = some false
theorem nots_tup {a : Addr} {xs : List V} (h : SqT K H a xs) : NotS K H (.ref a) := ⟨_, tyx_T h, by decide +kernel⟩
theorem nots_lst {a : Addr} {xs : List V} (h : SqL K H a xs) : NotS K H (.ref a) := ⟨_, tyx_L h, by decide +kernel⟩
theorem nots_non : NotS K H .non := ⟨_, .base .non, by decide +kernel⟩
theorem nots_int {i : Int} : NotS K H (.int i) := ⟨_, .base (.int i), by decide +kernel⟩
theorem nots_bl {i : Bool} : NotS K H (.bl i) := ⟨_, .base (.bl i), by decide +kernel⟩
theorem nots_dK {a : Addr} {xs : List (Key × V)} (h : H a = some (.dK xs)) : NotS K H (.ref a) := ⟨_, .base (.dK h), by decide +kernel⟩
theorem NotS.same {H' : Hp} {v : V} (h : NotS K H v) (e : Same H H') : NotS K H' v := by
  obtain ⟨a, h1, h2⟩ := h
  exact ⟨a, TyX_same e h1, h2⟩
end
theorem len1 (a : Nat) : (⟨#[a]⟩ : Str).length = 1 := rfl
theorem str_len_append (a b : Str) : (a ++ b).length = a.length + b.length := Array.size_append
theorem str_len {z : Str} : z.cps.toList.length = z.length := by rw [Array.length_toList]; rfl
theorem one_lt {c d : Nat} : ([c] : List Nat) < [d] ↔ c < d := by
  rw [List.cons_lt_cons_iff]
  constructor
  · rintro (h | ⟨_, h⟩)
    · exact h
    · exact absurd h (List.not_lt_nil _)
  · exact .inl
theorem str_app_list (a b : Str) : (a ++ b).cps.toList = a.cps.toList ++ b.cps.toList := Array.toList_append
theorem eqv_nil {ds : List PyData} : PyData.eqv (.list ds) (.list []) = ds.isEmpty := by
  cases ds <;> simp [PyData.eqv, PyData.eqvAll]
theorem strOk_of {z : Str} (h : ∀ c ∈ z.cps.toList, c < 1114112) : PyData.strOk z = true := by
  show (z.cps.all (· < 0x110000)) = true
  rw [← Array.all_toList, List.all_eq_true]
  intro c hc
  exact decide_eq_true (h c hc)
theorem L_nnT {A B : Prop} (a : A) : if (!!true) = true then A else B := L_T a
theorem L_nnF {A B : Prop} (b : B) : if (!!false) = true then A else B := L_F b
theorem bd_128 {i : Int} (h : -340282366920938463463374607431768211456 < i ∧ i < 340282366920938463463374607431768211456) : Bd 128 i := by
  unfold Bd
  have : (2 : Nat) ^ 128 = 340282366920938463463374607431768211456 := by decide
  omega
/-! ### an exception that was caught, held by a name beyond the clause -/
/-- an exception of the class cls at a, its own dict d -/
def ExI (cls : Value) (d : Option Addr) (a : Addr) : HO := .ext fun h => ∃ (oe : Obj) (vs : Array Value), h.get? a = some oe ∧ Zc cls d oe ∧ oe.data = .fields vs
section
variable {X : Cx} {pins : List (Addr × Obj)} {σ : L2.St} {H : Hp} {s : Shared}
theorem track {a : Addr} {d : Option Addr} {cls : Value} {oe : Obj} {vs : Array Value} (I : Inv X pins σ H s) (na : H a = none) (he : s.heap.get? a = some oe) (z : Zc cls d oe) (hd : oe.data = .fields vs) (n0 : X.s_0.heap.get? a = none)
    (nL : a ≠ X.env.locals) (np : ∀ p ∈ X.pn ++ pins, p.1 ≠ a) : Inv X pins σ (upd H a (ExI cls d a)) s where
  ok := I.ok
  os := I.os
  bare := I.bare
  base := {
    keep := I.base.keep
    slot := I.base.slot
    free := fun b o e n hx => by
      rw [upd_ne (fun z => by rw [z, n0] at e; cases e)]
      exact I.base.free b o e n hx
    there := I.base.there
    tups := fun b xs q => by
      have t := I.base.tups b xs q
      rw [upd_ne (ne_of_none t na)]; exact t
    frzs := fun b o u q => by
      have t := I.base.frzs b o u q
      rw [upd_ne (ne_of_none t na)]; exact t
    tbls := fun b ps q => by
      obtain ⟨more, t⟩ := I.base.tbls b ps q
      exact ⟨more, by rw [upd_ne (ne_of_none t na)]; exact t⟩ }
  loc := I.loc
  cell := I.cell
  free := by rw [upd_ne nL.symm]; exact I.free
  freeC := fun x c e => by
    obtain ⟨v, o, ho, hc⟩ := I.cell x c e
    rw [upd_ne (fun z => by rw [z, he] at ho; cases ho; rw [hd] at hc; cases hc)]
    exact I.freeC x c e
  pin := fun p hp => by
    obtain ⟨h1, h2, h3⟩ := I.pin p hp
    exact ⟨h1, by rw [upd_ne (np p hp)]; exact h2, h3⟩
  hok := fun b o e => by
    by_cases hb : b = a
    · cases hb
      rw [upd_same] at e
      cases e
      exact ⟨⟨oe, vs, he, z, hd⟩, ⟨oe, he⟩, fun _ _ ⟨o1, v1, q, r⟩ k => ⟨o1, v1, k o1 q, r⟩⟩
    · rw [upd_ne hb] at e
      exact (I.hok b o e).stay (fun _ _ _ q => q) (fun c q => by rw [upd_ne (ne_of_none q na)]; exact q) fun c xs q => by rw [upd_ne (ne_of_none q na)]; exact q
  len := I.len
end
/-- what 'except x as n' wishes of an exception, which is tracked behind the suite -/
def wAsT (K : PySem.W.Frag) (c : Value) (i : Nat) (ts : Addr → Value → Option Addr → TS) (Wout : WX) (D : Ends) : WX := fun cls d σ H =>
  ∃ b, PySem.W.exmOne K cls c = some b ∧
    (b = true → ∀ a, H a = none → ts a cls d ⟨fun σ' H' => H' a = none → D.nx (σ'.set i none) (upd H' a (ExI cls d a)), D.rt, fun σ' H' => D.bk (σ'.set i none) H', fun σ' H' => D.ct (σ'.set i none) H'⟩ (σ.set i (some (.ref a))) H) ∧
    (b = false → Wout cls d σ H)
section
variable {X : Cx} {x n : Str} {c : Value} {i : Nat} {body suite : List Stmt} {b₀ : Stmt} {np pos pos' : Pos} {tb : WX → TS} {ts : Addr → Value → Option Addr → TS} {Wout : WX}
theorem ps_try_asT (hs : X.stack = X.env :: X.outer) (hf : X.env.frame = some X.env.locals) (hN : X.N.Nodup) (hi : X.N[i]? = some n) (hln : X.env.kindOf n = some .local) (hex : X.ex = []) (hc : Names X x c) (tk : Takes X Wout)
    (hb : ∀ (W : WX) (pn : List (Addr × Obj)) (xe : Value → Shared → Prop), Takes (X.tr pn xe) W → PassesOwn (model X.prog X.w) X.A X.env xe → PSs (X.tr pn xe) body (tb W))
    (hsu : ∀ (a : Addr) (oe : Obj) (cls : Value) (d : Option Addr) (pn : List (Addr × Obj)), Zc cls d oe → (∃ vs, oe.data = .fields vs) → PSs (X.suite a ((a, oe) :: pn)) (b₀ :: suite) (ts a cls d)) :
    PS X (.Try body [.ExceptHandler (some (.Name x np)) (some n) (b₀ :: suite) pos'] [] [] pos) (fun D σ H => tb (wAsT X.K c i ts Wout D) D σ H) := by
  constructor
  intro pins s0 σ0 H0 D I0 start
  have okX := I0.ok
  have frames : X.A.frames = some (X.env :: X.outer) := by
    rw [okX.frames, hs]
  apply wpAny_Try_except
  -- what is raised in the body is looked at by the clause
  let look : Value → Shared → Prop := fun e t1 => wpAny (model X.prog X.w) X.A (noteFrame e X.env) (fun _ t2 => wpAny (model X.prog X.w) X.A (setFlight e none)
    (fun _ t3 => wpAny (model X.prog X.w) X.A (handleBy e X.env [.ExceptHandler (some (.Name x np)) (some n) (b₀ :: suite) pos']) (SP X pins D) X.xe t3) X.xe t2) X.xe t1
  have caught : Takes (X.tr (X.pn ++ pins) look) (wAsT X.K c i ts Wout D) := by
    intro u s' air
    obtain ⟨a, B, sI, pins', σ', H', cls, d, rfl, K', nb, up, sky, na, os, ag, b, exm, yes, no⟩ := air
    have K0 : Inv X pins σ' H' sI := K'.ofTry okX
    have sky1 : Sky B (X.env :: X.outer) a (Zc cls d) X.env.locals s'.heap := hs ▸ sky
    show wpAny (model X.prog X.w) X.A (noteFrame (.ref a) X.env) _ _ _
    apply Sky.land Zc.steady frames hf sky1
    intro h3 fl3 up3
    have J3 : Inv X pins σ' H' { s' with heap := h3 } := K0.landed nb fl3.1 (up.trans up3) os ag
    obtain ⟨oe3, vs3, at3, z3, data3⟩ := fl3.there
    have offFrames : a ∉ frs (X.env :: X.outer) := fun hm => by
      obtain ⟨_, o', there', hnf⟩ := fl3.2.2.1.mem hm
      rw [at3] at there'
      cases there'
      exact hnf _ data3
    have nL : a ≠ X.env.locals := fun e => offFrames (List.mem_filterMap.mpr ⟨X.env, List.mem_cons_self, by rw [hf, e]⟩)
    have nF : a ∉ X.fs := fun hm => by
      obtain ⟨e, he, q⟩ := List.mem_filterMap.mp hm
      exact offFrames (List.mem_filterMap.mpr ⟨e, List.mem_cons_of_mem _ he, q⟩)
    -- a is new: it stood neither at the try's entry nor at the def's
    have newB : B.get? a = none := fl3.2.1
    have newI : sI.heap.get? a = none := by
      cases q : sI.heap.get? a with
      | none => rfl
      | some o =>
        have := nb a o q (by rw [hs]; exact offFrames)
        rw [newB] at this
        cases this
    have new0 : X.s_0.heap.get? a = none := by
      cases q : X.s_0.heap.get? a with
      | none => rfl
      | some o =>
        obtain ⟨o', q'⟩ := K0.base.there a o q (by rw [hex]; exact List.not_mem_nil)
        rw [newI] at q'
        cases q'
    have apart : ∀ p ∈ X.pn ++ pins, p.1 ≠ a := fun p hp e => by
      have := (K0.pin p hp).1
      rw [e, newI] at this
      cases this
    have S3 := J3.suite at3 data3 na nL nF
    apply wpAny_handleBy_cons _ (by intro q; cases q)
    apply codeAny_handlers_test
    have tyA : PySem.W.Looks (model X.prog X.w) h3 (typeOf (.ref a)) cls := fun A Q E t k q => wpAny_typeOf_ref (k _ _ at3) (by rw [z3.1]; exact q)
    have matched := PySem.W.exm_one (M := model X.prog X.w) (J3.kIn) tyA exm
    have named : ∀ {Q : Value → Shared → Prop} {E : Value → Shared → Prop}, Q c { s' with heap := h3 } → wpAny (model X.prog X.w) (X.A.mark (some (.ref a))) (eval (.Name x np) X.env) Q E { s' with heap := h3 } := by
      intro Q E q
      obtain ⟨hg, hdbg, hm⟩ := hc
      rcases hm with hm | ⟨hm, hv, hnn⟩
      · exact ld_glob (X := X.suite a ((a, oe3) :: (X.pn ++ pins))) S3 hg hm q hdbg
      · exact ld_blt (X := X.suite a ((a, oe3) :: (X.pn ++ pins))) S3 hg hm hv q hnn hdbg
    apply named
    apply matched.here
    cases b with
    | true =>
      apply codeAny_handlers_suite_as
      apply HandSPX.lands_againZ fl3
      intro h4 fl4 up4
      have J4 : Inv X pins σ' H' { s' with heap := h4 } := K0.landed nb fl4.1 ((up.trans up3).trans up4) os ag
      obtain ⟨oe4, vs4, at4, z4, data4⟩ := fl4.there
      have S4 := J4.suite at4 data4 na nL nF
      refine store_ok (X := X.suite a ((a, oe4) :: (X.pn ++ pins))) (v := .ref a) S4 hN hi (.inl hln) rfl (fun s5 S5 => ?_) (.inr hln)
      refine wpAny_mono ((hsu a oe4 cls d (X.pn ++ pins) z4 ⟨_, data4⟩).run [] s5 _ H' _ S5 (yes rfl a na)) (fun f s6 hsp => ?_) (fun _ _ z => z.elim)
      -- out of the suite, the exception still pinned
      have out : ∀ {σ6 : L2.St} {H6 : Hp} {Q : Shared → Prop}, Inv (X.suite a ((a, oe4) :: (X.pn ++ pins))) [] σ6 H6 s6 → (∀ s7, Inv X pins (σ6.set i none) H6 s7 → H6 a = none → s7.heap.get? a = some oe4 → Q s7) →
          wpAny (model X.prog X.w) X.A (do bindName X.env n .none; unbindBehindTheSuite X.env n pos') (fun _ s7 => Q s7) X.xe s6 := fun {σ6 H6 Q} S6 hq => by
        have P6 : Inv X ((a, oe4) :: pins) σ6 H6 s6 := { S6.unsuite okX with
          pin := fun p hp => S6.pin p (by
            rcases List.mem_append.mp hp with hp | hp
            · exact List.mem_append_left _ (List.mem_cons_of_mem _ (List.mem_append_left _ hp))
            · rcases List.mem_cons.mp hp with e | hp
              · rw [e]; exact List.mem_append_left _ List.mem_cons_self
              · exact List.mem_append_left _ (List.mem_cons_of_mem _ (List.mem_append_right _ hp))) }
        refine gone_ok P6 hN hi hln fun s7 P7 => ?_
        have pinned := P7.pin (a, oe4) (List.mem_append_right _ List.mem_cons_self)
        refine hq s7 { P7 with pin := fun p hp => P7.pin p ?_ } pinned.2.1 pinned.1
        rcases List.mem_append.mp hp with hp | hp
        · exact List.mem_append_left _ hp
        · exact List.mem_append_right _ (List.mem_cons_of_mem _ hp)
      match f, hsp with
      | .next, ⟨σ6, H6, S6, q6⟩ => exact out S6 fun s7 J7 n6 a6 => ⟨_, _, track J7 n6 a6 z4 data4 new0 nL apart, q6 n6⟩
      | .brk, ⟨σ6, H6, S6, q6⟩ => exact out S6 fun s7 J7 _ _ => ⟨_, _, J7, q6⟩
      | .cont, ⟨σ6, H6, S6, q6⟩ => exact out S6 fun s7 J7 _ _ => ⟨_, _, J7, q6⟩
      | .ret u, ⟨v6, σ6, H6, S6, r6, q6⟩ => exact out S6 fun s7 J7 _ _ => ⟨_, _, _, J7, r6, q6⟩
    | false =>
      show wpAny _ X.A (handleBy (.ref a) X.env []) _ _ _
      apply wpAny_handleBy_nil
      obtain ⟨_, _, _, oe, vs, T, oT, ts', he, hz, hd, h1, hr⟩ := id fl3
      unfold PySem.passOn
      refine wpAny_bind (wpAny_field he hd h1 ?_)
      rw [if_neg (show ¬ ((Value.ref T == Value.none) = true) from by simp)]
      have on : wpAny (model X.prog X.w) X.A (setFlight (.ref a) X.env.frame) (fun _ s4 => wpAny (model X.prog X.w) X.A (throw (.ref a) : Sem Flow) (SP X pins D) X.xe s4) X.xe { s' with heap := h3 } := by
        rw [hf]
        apply HandSPX.setFlight_upZ fl3
        intro h4 held4 up4
        apply wpAny_throw
        apply tk
        exact ⟨a, B, sI, pins, σ', H', cls, d, rfl, K0, nb, (up.trans up3).trans up4, .inr (.inr (by rw [hs]; exact held4)), na, os, ag, no rfl⟩
      first
        | exact wpAny_bind (wpAny_pure (wpAny_bind on))
        | exact wpAny_bind on
  refine wpAny_mono ((hb (wAsT X.K c i ts Wout D) (X.pn ++ pins) look caught PassesOwn.looking).run [] s0 σ0 H0 D (I0.toTry _) start) (fun f s1 hsp => ?_) (fun e s1 he => he)
  match f, hsp with
  | .next, ⟨σ1, H1, J1, q⟩ => exact wpAny_execs_nil ⟨σ1, H1, J1.ofTry okX, q⟩
  | .brk, ⟨σ1, H1, J1, q⟩ => exact ⟨σ1, H1, J1.ofTry okX, q⟩
  | .cont, ⟨σ1, H1, J1, q⟩ => exact ⟨σ1, H1, J1.ofTry okX, q⟩
  | .ret u, ⟨v, σ1, H1, J1, r, q⟩ => exact ⟨v, σ1, H1, J1.ofTry okX, r, q⟩
end
/-- isinstance of a caught exception that a name holds -/
def rIsX (K : PySem.W.Frag) : List V → Hp → VK → Prop := fun xs H Q => ∃ (a D : Addr) (c : V) (u : Value) (b : Bool), xs = [.ref a, c] ∧ H a = some (ExI (.ref D) none a) ∧ L2.ExcC K D ∧ ClsV c u ∧ PySem.W.kitOne K (.ref D) u = some b ∧ Q (.bl b) H
def rIsXT (K : PySem.W.Frag) : List V → Hp → VK → Prop := fun xs H Q => ∃ (a D tp : Addr) (cs : List V) (us : List Value) (b : Bool), xs = [.ref a, .ref tp] ∧ H a = some (ExI (.ref D) none a) ∧ L2.ExcC K D ∧ H tp = some (.tup cs) ∧ Paired ClsV cs us ∧ PySem.W.kitAny K (.ref D) us = some b ∧ Q (.bl b) H
section
variable {X : Cx} {pins : List (Addr × Obj)} {σ : L2.St} {H : Hp} {s : Shared}
theorem exI_at {a D : Addr} (I : Inv X pins σ H s) (h : H a = some (ExI (.ref D) none a)) : ∃ oe, PySem.W.InstAt s.heap a oe D none := by
  obtain ⟨⟨oe, vs, q1, ⟨q2, q3⟩, q4⟩, _⟩ := I.hok a _ h
  obtain ⟨oc, od, oda, osl⟩ := oe
  dsimp only at q2 q3 q4
  subst q2 q3 q4
  exact ⟨_, q1, rfl, rfl, trivial⟩
theorem call_isX : CallR X (.builtin "isinstance") (rIsX X.K) := by
  intro pins s σ H xs us Q I r h
  obtain ⟨a, D, c, u, b, rfl, hx, C, k, e, q⟩ := h
  obtain ⟨u1, u2, rfl, r1, r2⟩ := vals2 r
  cases r1
  cases k.eq r2
  obtain ⟨oe, J⟩ := exI_at I hx
  exact PySem.W.kia_one (PySem.W.handS_kitx_exc C.hg C.hk C.hs C.hd C.ha C.hn C.ht C.hm) I.kIn J e (fun z => nomatch z) fun tk => ⟨.bl b, H, I.tok tk, rfl, q⟩
theorem call_isXT : CallR X (.builtin "isinstance") (rIsXT X.K) := by
  intro pins s σ H xs us Q I r h
  obtain ⟨a, D, tp, cs, ws, b, rfl, hx, C, hT, k, e, q⟩ := h
  obtain ⟨u1, u2, rfl, r1, r2⟩ := vals2 r
  cases r1
  cases (show u2 = Value.ref tp from r2)
  obtain ⟨oe, J⟩ := exI_at I hx
  obtain ⟨_, its, rv, o, h1, h2, n, h3⟩ := (show ObjOk X.prog X.w H s.heap tp (.tup cs) from I.hok tp _ hT)
  have e3 := ClsV.all k rv
  subst e3
  obtain ⟨oc, od, dt, sl⟩ := o
  simp only at h2 h3
  subst h2 h3
  exact PySem.W.kia_tup (PySem.W.handS_kitx_exc C.hg C.hk C.hs C.hd C.ha C.hn C.ht C.hm) I.kIn J h1 e (fun z => nomatch z) fun tk => ⟨.bl b, H, I.tok tk, rfl, q⟩
end
section
variable {K : PySem.W.Frag} {H : Hp} {Q : VK} {C D : Addr} {b : Bool}
theorem kit_ref (hD : PySem.W.subIn K (.ref D) (.ref D) = some true) (k : ExcK K C) (h : PySem.W.subIn K (.ref D) (.ref C) = some b) : PySem.W.kitOne K (.ref D) (.ref C) = some b := by
  unfold PySem.W.kitOne
  by_cases e : D = C
  · subst e
    rw [hD] at h
    cases h
    rw [if_pos (by simp)]
  · rw [if_neg (by simpa using e)]
    have h2 : (PySem.W.clsIn K C).isSome = true := k.i
    show (if ((PySem.W.clsIn K C).isSome && PySem.W.typeIn K (.ref C) == some (.type "type")) = true then PySem.W.subIn K (.ref D) (.ref C) else none) = some b
    rw [if_pos (by rw [h2, k.t]; rfl)]
    exact h
theorem kit_typ {T : String} (hm : PySem.W.kitMeta T = true) (h : PySem.W.subIn K (.ref D) (.type T) = some b) : PySem.W.kitOne K (.ref D) (.type T) = some b := by
  unfold PySem.W.kitOne
  rw [if_neg (by simp)]
  show (if PySem.W.kitMeta T = true then PySem.W.subIn K (.ref D) (.type T) else none) = some b
  rw [if_pos hm]
  exact h
theorem L_isX {a : Addr} {c : V} {u : Value} (h : H a = some (ExI (.ref D) none a)) (C : L2.ExcC K D) (k : ClsV c u) (e : PySem.W.kitOne K (.ref D) u = some b) (q : Q (.bl b) H) : rIsX K [.ref a, c] H Q := ⟨a, D, c, u, b, rfl, h, C, k, e, q⟩
theorem L_isXT {a tp : Addr} {cs : List V} {us : List Value} (h : H a = some (ExI (.ref D) none a)) (C : L2.ExcC K D) (hT : H tp = some (.tup cs)) (k : Paired ClsV cs us) (e : PySem.W.kitAny K (.ref D) us = some b) (q : Q (.bl b) H) : rIsXT K [.ref a, .ref tp] H Q := ⟨a, D, tp, cs, us, b, rfl, h, C, hT, k, e, q⟩
theorem kit_none : ∀ {us : List Value}, (∀ u ∈ us, PySem.W.kitOne K (.ref D) u = some false) → PySem.W.kitAny K (.ref D) us = some false
  | [], _ => rfl
  | u :: us, h => by
    unfold PySem.W.kitAny
    rw [h u (List.mem_cons_self ..)]
    exact kit_none fun x hx => h x (List.mem_cons_of_mem _ hx)
theorem L_asT {c : Value} {i : Nat} {ts : Addr → Value → Option Addr → TS} {Wout : WX} {D : Ends} {σ : L2.St} {cls : Value} {d : Option Addr} (h : PySem.W.exmOne K cls c = some true)
    (q : ∀ a, H a = none → ts a cls d ⟨fun σ' H' => H' a = none → D.nx (σ'.set i none) (upd H' a (ExI cls d a)), D.rt, fun σ' H' => D.bk (σ'.set i none) H', fun σ' H' => D.ct (σ'.set i none) H'⟩ (σ.set i (some (.ref a))) H) : wAsT K c i ts Wout D cls d σ H :=
  ⟨true, h, fun _ => q, fun z => nomatch z⟩
end
/-! ### lists of numbers, and what is none -/
def BadNs (K : PySem.W.Frag) (H : Hp) (v : V) (lo hi : Int) : Prop := NotL K H v ∨ ∃ a xs, v = .ref a ∧ SqL K H a xs ∧ (24 < xs.length ∨ ((∀ x ∈ xs, (∃ t, x = .int t ∧ lo ≤ t ∧ t ≤ hi) ∨ BadW K H x lo hi) ∧ ∃ x ∈ xs, BadW K H x lo hi))
def GoodNs (K : PySem.W.Frag) (H : Hp) (v : V) (ts : List Int) (lo hi : Int) : Prop := ∃ a, v = .ref a ∧ SqL K H a (ts.map V.int) ∧ ts.length ≤ 24 ∧ ∀ t ∈ ts, lo ≤ t ∧ t ≤ hi
section
variable {K : PySem.W.Frag} {H H' : Hp} {v : V} {lo hi : Int} {ts : List Int}
theorem BadNs.same (h : BadNs K H v lo hi) (e : Same H H') : BadNs K H' v lo hi := by
  rcases h with h | ⟨a, xs, h1, h2, h3⟩
  · exact .inl (h.same e)
  · refine .inr ⟨a, xs, h1, e.seq h2, ?_⟩
    rcases h3 with h3 | ⟨h3, x, h4, h5⟩
    · exact .inl h3
    · exact .inr ⟨fun x hx => (h3 x hx).imp id fun b => b.same e, x, h4, h5.same e⟩
theorem GoodNs.same (h : GoodNs K H v ts lo hi) (e : Same H H') : GoodNs K H' v ts lo hi := by
  obtain ⟨a, h1, h2, h3, h4⟩ := h
  exact ⟨a, h1, e.seq h2, h3, h4⟩
theorem bad_one {a : Addr} {x : V} (h : H a = some (.lst [x])) (b : BadW K H x lo hi) : BadNs K H (.ref a) lo hi := .inr ⟨a, _, rfl, .of h, .inr ⟨fun y hy => by rw [List.mem_singleton.mp hy]; exact .inr b, x, List.mem_singleton.mpr rfl, b⟩⟩
theorem good_ns {a : Addr} (h : H a = some (.lst (ts.map V.int))) (hl : ts.length ≤ 24) (hb : ∀ t ∈ ts, lo ≤ t ∧ t ≤ hi) : GoodNs K H (.ref a) ts lo hi := ⟨a, rfl, .of h, hl, hb⟩
theorem int_of_mem {x : V} (h : x ∈ ts.map V.int) : ∃ t ∈ ts, x = .int t := by
  obtain ⟨t, h1, h2⟩ := List.mem_map.mp h
  exact ⟨t, h1, h2.symm⟩
theorem getD_of {i : Nat} {t : Int} (h : ts[i]? = some t) : ts.getD i 0 = t := by rw [List.getD_eq_getElem?_getD, h]; rfl
theorem fm_int {f : Nat → Option Int} {n : Nat} : (List.range n).filterMap (fun i => (f i).map V.int) = ((List.range n).filterMap f).map V.int := by
  rw [List.map_filterMap]
end
/-- pairs of ints as data -/
def d2 (r : Int × Int) : PyData := .tuple [.int r.1, .int r.2]
section
variable {K : PySem.W.Frag} {H : Hp} {v : V} {us : List V} {rows : List (Int × Int)}
theorem of_d2 {r : Int × Int} (h : Dp K H v (d2 r)) : ∃ a, v = .ref a ∧ SqT K H a [.int r.1, .int r.2] := by
  obtain ⟨a, x, y, rfl, h1, h2, h3⟩ := of_t2 h
  rw [of_int h2, of_int h3] at h1
  exact ⟨a, rfl, h1⟩
theorem hit2 (hA : DpAll K H us (rows.map d2)) {i : Nat} {x : V} (hx : us[i]? = some x) : ∃ r t, rows[i]? = some r ∧ x = V.ref t ∧ SqT K H t [.int r.1, .int r.2] := by
  obtain ⟨d, h1, h2⟩ := hA.of hx
  rw [List.getElem?_map] at h1
  obtain ⟨r, h3, rfl⟩ := Option.map_eq_some_iff.mp h1
  obtain ⟨t, rfl, h4⟩ := of_d2 h2
  exact ⟨r, t, h3, rfl, h4⟩
theorem shp_d2s : SeqAt.shaped (.list (rows.map d2)) = true := (shp_lst (n := 1) (shp_map fun r _ => shp_tup (n := 0) (shp_cons shp_int (shp_cons shp_int shp_nil)))).ok
end
theorem cutG_take {α : Type} (xs : List α) (n : Nat) : cutG xs none (some (n : Int)) = xs.take n := by
  unfold cutG
  rw [HT.sIx_none, HT.sIx_nat, List.drop_zero, Nat.sub_zero]
  rcases Nat.le_total n xs.length with h | h
  · rw [Nat.min_eq_left h]
  · rw [Nat.min_eq_right h, List.take_of_length_le (Nat.le_refl _), List.take_of_length_le h]
theorem cutG_drop {α : Type} (xs : List α) (n : Nat) : cutG xs (some (n : Int)) none = xs.drop n := by
  unfold cutG
  rw [HT.sIx_none, HT.sIx_nat]
  rcases Nat.le_total n xs.length with h | h
  · rw [Nat.min_eq_left h, List.take_of_length_le (by rw [List.length_drop]; exact Nat.le_refl _)]
  · rw [Nat.min_eq_right h, List.drop_of_length_le (Nat.le_refl _), List.drop_of_length_le h, List.take_nil]
theorem strOk_lit {z : Str} (h : PyData.strOk z = true) : PyData.strOk z = true := h
theorem dpa_app {K : PySem.W.Frag} {H : Hp} : ∀ {ds es : List PyData} {vs us : List V}, DpAll K H (vs ++ us) (ds ++ es) → vs.length = ds.length → DpAll K H vs ds ∧ DpAll K H us es
  | [], _, [], _, h, _ => ⟨.nil, h⟩
  | [], _, _ :: _, _, _, e => by simp at e
  | _ :: _, _, [], _, _, e => by simp at e
  | d :: ds, _, v :: vs, _, h, e => by
    cases h with
    | cons h1 h2 =>
      obtain ⟨a, b⟩ := dpa_app h2 (by simpa using e)
      exact ⟨.cons h1 a, b⟩
theorem nn_ints_or {K : PySem.W.Frag} {H : Hp} {x : V} {ts : List Int} {lo hi : Int} (hb : ∀ t ∈ ts, lo ≤ t ∧ t ≤ hi) (h : x ∈ ts.map V.int) : (∃ t, x = .int t ∧ lo ≤ t ∧ t ≤ hi) ∨ BadW K H x lo hi := by
  obtain ⟨t, ht, e⟩ := int_of_mem h
  exact .inl ⟨t, e, hb t ht⟩
theorem rep_len {α : Type} (xs : List α) : ∀ n : Nat, (List.replicate n xs).flatten.length = n * xs.length
  | 0 => by simp
  | n + 1 => by rw [List.replicate_succ, List.flatten_cons, List.length_append, rep_len xs n, Nat.succ_mul, Nat.add_comm]
/-! ### exceptions whose own __init__ asks their base's by its name -/
/-- S.__init__, S an own class, is ValueError's -/
structure BaseI (K : PySem.W.Frag) (S : Addr) : Prop where
  rd : PySem.W.readsIn K S (.type "type") = true
  ga : PySem.W.specialIn K (.ref S) "__getattribute__" = some (some (.builtin "type.__getattribute__"))
  vi : PySem.W.findCls K (.ref S) (.type "type") "__init__" = some (.val (.builtin "ValueError.__init__"))
structure XIniAt (K : PySem.W.Frag) (C : Addr) (qual : Str) (st : Stmt) (ps : List Str) : Prop where
  ex : ∃ (f : Addr) (fd : FuncData), Fun K "__init__" qual st f fd ∧ PySem.W.findIn K (.ref C) "__init__" = some (some (.ref f)) ∧ PySem.W.isFn K (.ref f) = true ∧ Binds K fd ps []
/-- an exception that may be made by its class's name -/
structure XMak (P : Program) (w : World) (K : PySem.W.Frag) (mg : Str → Option Value) (base : Heap) (k : Nat) (x : Str) (C : Addr) (sp : Sp) : Prop where
  ex : ∃ (f : Addr) (fd : FuncData) (ps : List Str), FnOk P w K mg base CX0 k f fd ps sp ∧ PySem.W.findIn K (.ref C) "__init__" = some (some (.ref f)) ∧ PySem.W.typeIn K (.ref f) = some (.type "function") ∧ mg x = some (.ref C) ∧ Binds K fd ps []
section
variable {P : Program} {w : World} {K : PySem.W.Frag} {mg : Str → Option Value} {base : Heap}
theorem XIniAt.xmak {x : Str} {C : Addr} {qual : Str} {st : Stmt} {N ps : List Str} {k : Nat} {sp : Sp} (hx : mg x = some (.ref C)) (d : XIniAt K C qual st ps) (S : FnScope N ps (defScope st)) (len : ∀ vs H Q E, sp vs H Q E → vs.length = ps.length)
    (hbody : ∀ (f : Addr) (cdv : Value) (A : Around) (outer : List Env) (s : Shared) (H : Hp) (vs : List V) (Q : VK) (E : XK), Room k (A.deeper (envOfC qual (defScope st) s.heap.objs.size f cdv)) → sp vs H Q E →
      ∃ t, PSs (cxOf CX0 P w K mg base N qual (defScope st) f cdv A outer s H E).nox (defBody st) t ∧ t { nx := fun _ H' => Q .non H', rt := Q } (start N vs) H) : XMak P w K mg base (k + 1) x C sp := by
  obtain ⟨f, fd, F, h1, h2, b⟩ := d.ex
  exact ⟨f, fd, ps, F.ok S len (hbody f), h1, beq_iff_eq.mp h2, hx, b⟩
end
section
variable {X : Cx} {k j : Nat} {C S : Addr} {x : Str} {sp : Sp} {p p1 p2 pos : Pos} {e : Expr} {es : List Expr} {ta : TA}
theorem pmk_x (c : XMak X.prog X.w X.K X.mg X.base k x C sp) (T : OexC X.K C) (hr : Room j X.A) (hk : k + 1 ≤ j) (hg : Gl X x) (ha : PA X (e :: es) ta)
    (hdb : (x == ("__debug__" : Str)) = false := by decide) (he : starEach (e :: es) X.env = (false, eval e X.env) :: starEach es X.env := by rfl) (hpl : (backTo pos (starEach es X.env)).any (·.1) = false := by rfl) :
    PMk X (.Call (.Name x p) (e :: es) [] pos) (tMkO C sp [] ta) := by
  obtain ⟨f, fd, ps, F, h1, h2, hm, b⟩ := c.ex
  exact pmk_oex T h1 h2 F (hr.mono hk) b .nil pass0 hg hm ha hdb he hpl
theorem pe_baseI {pl : Sem Bool} (hg : Gl X x) (hm : X.mg x = some (.ref S)) (B : BaseI X.K S) (ha : PA X (e :: es) ta)
    (hc : eval (.Call (.Attribute (.Name x p1) "__init__" p2) (e :: es) [] pos) X.env = (do
      let ov ← eval (.Name x p1) X.env
      standAt p2.atName
      let (f, first) ← holding [ov] (getMethod ov "__init__" pl)
      callWith pos f first (backTo pos (starEach (e :: es) X.env)) (backToKw pos (keywordEach [] X.env))) := by rfl)
    (hdb : (x == ("__debug__" : Str)) = false := by decide) (he : starEach (e :: es) X.env = (false, eval e X.env) :: starEach es X.env := by rfl) (hpl : (backTo pos (starEach es X.env)).any (·.1) = false := by rfl) :
    PE X (.Call (.Attribute (.Name x p1) "__init__" p2) (e :: es) [] pos) (tVeI X.K ta) := by
  constructor
  intro pins s σ H Q I h
  have asked : ∀ s1, Inv X pins σ H s1 → wpAny (model X.prog X.w) X.A (callWith pos (Value.builtin "ValueError.__init__") [] (backTo pos (starEach (e :: es) X.env)) []) (EP X pins σ Q) X.xe s1 := fun s1 I1 =>
    PyProof.Rows.callWith_method1 (thn (ha.run pos pins s1 σ H _ I1 h) fun us s2 ⟨vs, H2, I2, r, a, D, ws, evs, few, T, atA, q⟩ => by
      subst evs
      cases r with
      | @cons _ u0 _ ur r0 rr =>
        obtain rfl : u0 = Value.ref a := r0
        have few' : ur.length ≤ sizeLine := by
          have := Paired.length rr
          have := sizeLine_eq
          omega
        exact oinit_ok T I2 atA few' fun s3 I3 => ⟨.non, H2, I3, rfl, q⟩) he hpl
  refine PySem.W.methodCall_KW (ld_glob I hg hm ?_ hdb) hc
  refine PySem.W.method_cls I.kIn B.ga (PySem.W.cls_value I.kIn B.rd B.vi (by decide +kernel) ?_)
  exact asked _ (I.tok _)
end
section
variable {K : PySem.W.Frag} {σ : L2.St} {H : Hp} {D : Ends} {C a : Addr} {f : Str} {y : V} {ta : TA} {te to : TE}
theorem L_veI {R : Hp → Prop} {ws : List V} (T : OexC K C) (h : H a = some (exo a C none)) (l : ws.length ≤ 1000) (q : R H) : ∃ (a' C : Addr) (ws' : List V), V.ref a :: ws = .ref a' :: ws' ∧ ws'.length ≤ 1000 ∧ OexC K C ∧ H a' = some (exo a' C none) ∧ R H := ⟨a, C, ws, rfl, l, T, h, q⟩
theorem L_tveI {Q : VK} (h : ta σ H fun vs H1 => ∃ (a C : Addr) (ws : List V), vs = .ref a :: ws ∧ ws.length ≤ 1000 ∧ OexC K C ∧ H1 a = some (exo a C none) ∧ Q .non H1) : tVeI K ta σ H Q := h
theorem L_ost (h : te σ H fun y H1 => to σ H1 fun x H2 => ∃ a C : Addr, x = .ref a ∧ OexC K C ∧ PySem.W.findIn K (.ref C) f = some none ∧
  ((H2 a = some (exo a C none) ∧ ∀ dx, H2 dx = none → dx ≠ a → D.nx σ (upd (upd H2 dx (exd dx [(f, y)])) a (exo a C (some dx)))) ∨
    ∃ (dx : Addr) (fs : List (Str × V)), H2 a = some (exo a C (some dx)) ∧ H2 dx = some (exd dx fs) ∧ fs.length ≤ 900 ∧ D.nx σ (upd H2 dx (exd dx ((f, y) :: fs))))) : tOst K f to te D σ H := h
theorem L_ost1 {R : Hp → Prop} (T : OexC K C) (nf : PySem.W.findIn K (.ref C) f = some none) (h : H a = some (exo a C none)) (q : ∀ dx, H dx = none → dx ≠ a → R (upd (upd H dx (exd dx [(f, y)])) a (exo a C (some dx)))) :
    ∃ a' C : Addr, V.ref a = .ref a' ∧ OexC K C ∧ PySem.W.findIn K (.ref C) f = some none ∧
  ((H a' = some (exo a' C none) ∧ ∀ dx, H dx = none → dx ≠ a' → R (upd (upd H dx (exd dx [(f, y)])) a' (exo a' C (some dx)))) ∨
    ∃ (dx : Addr) (fs : List (Str × V)), H a' = some (exo a' C (some dx)) ∧ H dx = some (exd dx fs) ∧ fs.length ≤ 900 ∧ R (upd H dx (exd dx ((f, y) :: fs)))) := ⟨a, C, rfl, T, nf, .inl ⟨h, q⟩⟩
/-- what an __init__ with one field keeps -/
def XIni1 (C : Addr) (f : Str) (a : Addr) (v : V) (H : Hp) (Q : VK) : Prop := H a = some (exo a C none) ∧ ∀ d, H d = none → d ≠ a → Q .non (upd (upd H d (exd d [(f, v)])) a (exo a C (some d)))
/-- C(v) is raised -/
theorem L_mkO1 {sp : Sp} {E : XK} {v : V} (hs : ∀ a H Q E, XIni1 C f a v H Q → sp [.ref a, v] H Q E) (q : ∀ d, H d = none → E (.ref C) (some d) (upd H d (.xd [(f, v)]))) : [v].length ≤ 1000 ∧ ∀ a, H a = none → sp (.ref a :: ([v] ++ [])) (upd H a (exo a C none))
  (fun v H2 => v = .non ∧ ∃ (d : Addr) (fs : List (Str × V)), H2 a = some (exo a C (some d)) ∧ H2 d = some (exd d fs) ∧ H d = none ∧ E (.ref C) (some d) (upd (del H2 a) d (.xd fs))) (fun _ _ _ => False) := by
  refine ⟨by rw [List.length_singleton]; decide, fun a na => hs a _ _ _ ⟨upd_same, fun d nd ne => ⟨rfl, d, [(f, v)], upd_same, ?_, ?_, ?_⟩⟩⟩
  · rw [upd_ne ne, upd_same]
  · rw [upd_ne ne] at nd
    exact nd
  · rw [upd_ne ne] at nd
    have z : upd (del (upd (upd (upd H a (exo a C none)) d (exd d [(f, v)])) a (exo a C (some d))) a) d (.xd [(f, v)]) = upd H d (.xd [(f, v)]) := by
      funext b
      by_cases hb : b = d
      · rw [hb, upd_same, upd_same]
      · rw [upd_ne hb, upd_ne hb]
        by_cases ha : b = a
        · rw [ha, del_same, na]
        · rw [del_ne ha, upd_ne ha, upd_ne hb, upd_ne ha]
    rw [z]
    exact q d nd
theorem L_mkO {sp : Sp} {dvs : List V} {Q : XK} (h : ta σ H fun vs H1 => vs.length ≤ 1000 ∧ ∀ a, H1 a = none → sp (.ref a :: (vs ++ dvs)) (upd H1 a (exo a C none))
  (fun v H2 => v = .non ∧ ∃ (d : Addr) (fs : List (Str × V)), H2 a = some (exo a C (some d)) ∧ H2 d = some (exd d fs) ∧ H1 d = none ∧ Q (.ref C) (some d) (upd (del H2 a) d (.xd fs))) (fun _ _ _ => False)) : tMkO C sp dvs ta σ H Q := h
end
/-- isinstance(e, c) in e's own suite, whatever its dict -/
def rIsS (K : PySem.W.Frag) (a : Addr) (cls : Value) (d : Option Addr) : List V → Hp → VK → Prop := fun xs H Q => ∃ (D : Addr) (c : V) (u : Value) (b : Bool), xs = [.ref a, c] ∧ cls = .ref D ∧ (∀ dd, d = some dd → ∃ fs, H dd = some (.xd fs)) ∧ L2.ExcC K D ∧ ClsV c u ∧ PySem.W.kitOne K (.ref D) u = some b ∧ Q (.bl b) H
theorem call_isS {X : Cx} {a : Addr} {cls : Value} {d : Option Addr} {oe : Obj} {pn : List (Addr × Obj)} (hz : Zc cls d oe) (hf : ∃ vs, oe.data = .fields vs) : CallR (X.suite a ((a, oe) :: pn)) (.builtin "isinstance") (rIsS X.K a cls d) := by
  intro pins s σ H xs us Q I r h
  obtain ⟨D, c, u, b, rfl, rfl, hd, C, k, e, q⟩ := h
  obtain ⟨u1, u2, rfl, r1, r2⟩ := vals2 r
  cases r1
  cases k.eq r2
  obtain ⟨there, _⟩ := I.pin (a, oe) (List.mem_append_left _ List.mem_cons_self)
  obtain ⟨vs, data⟩ := hf
  have J : ∃ od, PySem.W.InstAt s.heap a oe D od := by
    have nc : PySem.W.notCls oe = true := by unfold PySem.W.notCls; rw [data] <;> rfl
    cases d with
    | none => exact ⟨none, there, hz.1, nc, by rw [hz.2]; exact True.intro⟩
    | some dd =>
      obtain ⟨fs, hdd⟩ := hd dd rfl
      obtain ⟨mA, ⟨o, es, ep, ho, _⟩, _⟩ := (show ObjOk X.prog X.w H s.heap dd (.xd fs) from I.hok dd _ hdd)
      exact ⟨some o, there, hz.1, nc, by rw [hz.2]; exact ho⟩
  obtain ⟨od, J⟩ := J
  obtain ⟨cd, hcd, _⟩ := PySem.W.any_some C.hd
  exact PySem.W.kia_one (PySem.W.kitx_exc (show (PySem.W.clsIn _ D).isSome = true by rw [hcd]; rfl) C.hg C.hk C.hs C.ha C.hn C.ht C.hm) I.kIn J e (fun z => nomatch z) fun tk => ⟨.bl b, H, I.tok tk, rfl, q⟩
theorem L_isS {K : PySem.W.Frag} {H : Hp} {Q : VK} {a D : Addr} {d : Option Addr} {c : V} {u : Value} {b : Bool} (hd : ∀ dd, d = some dd → ∃ fs, H dd = some (.xd fs)) (C : L2.ExcC K D) (k : ClsV c u) (e : PySem.W.kitOne K (.ref D) u = some b) (q : Q (.bl b) H) : rIsS K a (.ref D) d [.ref a, c] H Q := ⟨D, c, u, b, rfl, rfl, hd, C, k, e, q⟩
/-- the same, of some classes -/
def rIsST (K : PySem.W.Frag) (a : Addr) (cls : Value) (d : Option Addr) : List V → Hp → VK → Prop := fun xs H Q => ∃ (D tp : Addr) (cs : List V) (ws : List Value) (b : Bool), xs = [.ref a, .ref tp] ∧ cls = .ref D ∧ (∀ dd, d = some dd → ∃ fs, H dd = some (.xd fs)) ∧ L2.ExcC K D ∧ H tp = some (.tup cs) ∧ Paired ClsV cs ws ∧ PySem.W.kitAny K (.ref D) ws = some b ∧ Q (.bl b) H
theorem call_isST {X : Cx} {a : Addr} {cls : Value} {d : Option Addr} {oe : Obj} {pn : List (Addr × Obj)} (hz : Zc cls d oe) (hf : ∃ vs, oe.data = .fields vs) : CallR (X.suite a ((a, oe) :: pn)) (.builtin "isinstance") (rIsST X.K a cls d) := by
  intro pins s σ H xs us Q I r h
  obtain ⟨D, tp, cs, ws, b, rfl, rfl, hd, C, hT, k, e, q⟩ := h
  obtain ⟨u1, u2, rfl, r1, r2⟩ := vals2 r
  cases r1
  cases (show u2 = Value.ref tp from r2)
  obtain ⟨there, _⟩ := I.pin (a, oe) (List.mem_append_left _ List.mem_cons_self)
  obtain ⟨vs, data⟩ := hf
  have J : ∃ od, PySem.W.InstAt s.heap a oe D od := by
    have nc : PySem.W.notCls oe = true := by unfold PySem.W.notCls; rw [data] <;> rfl
    cases d with
    | none => exact ⟨none, there, hz.1, nc, by rw [hz.2]; exact True.intro⟩
    | some dd =>
      obtain ⟨fs, hdd⟩ := hd dd rfl
      obtain ⟨mA, ⟨o, es, ep, ho, _⟩, _⟩ := (show ObjOk X.prog X.w H s.heap dd (.xd fs) from I.hok dd _ hdd)
      exact ⟨some o, there, hz.1, nc, by rw [hz.2]; exact ho⟩
  obtain ⟨od, J⟩ := J
  obtain ⟨_, its, rv, o, h1, h2, n, h3⟩ := (show ObjOk X.prog X.w H s.heap tp (.tup cs) from I.hok tp _ hT)
  have e3 := ClsV.all k rv
  subst e3
  obtain ⟨oc, od2, dt, sl⟩ := o
  simp only at h2 h3
  subst h2 h3
  obtain ⟨cd, hcd, _⟩ := PySem.W.any_some C.hd
  exact PySem.W.kia_tup (PySem.W.kitx_exc (show (PySem.W.clsIn _ D).isSome = true by rw [hcd]; rfl) C.hg C.hk C.hs C.ha C.hn C.ht C.hm) I.kIn J h1 e (fun z => nomatch z) fun tk => ⟨.bl b, H, I.tok tk, rfl, q⟩
theorem L_isST {K : PySem.W.Frag} {H : Hp} {Q : VK} {a D tp : Addr} {d : Option Addr} {cs : List V} {ws : List Value} {b : Bool} (hd : ∀ dd, d = some dd → ∃ fs, H dd = some (.xd fs)) (C : L2.ExcC K D) (hT : H tp = some (.tup cs)) (k : Paired ClsV cs ws) (e : PySem.W.kitAny K (.ref D) ws = some b) (q : Q (.bl b) H) : rIsST K a (.ref D) d [.ref a, .ref tp] H Q := ⟨D, tp, cs, ws, b, rfl, rfl, hd, C, hT, k, e, q⟩
/-- one of two derivations -/
def tOrE (t1 t2 : TE) : TE := fun σ H Q => t1 σ H Q ∨ t2 σ H Q
theorem PE.or {X : Cx} {e : Expr} {t1 t2 : TE} (h1 : PE X e t1) (h2 : PE X e t2) : PE X e (tOrE t1 t2) :=
  ⟨fun pins s σ H Q I h => h.elim (fun h => h1.run pins s σ H Q I h) (fun h => h2.run pins s σ H Q I h)⟩
/-- what isinstance asks of an instance's own class; of the class it is asked of -/
structure InsC (K : PySem.W.Frag) (C : Addr) : Prop where
  ha : PySem.W.findIn K (.ref C) "__class__" = some (some (.builtin "object.__class__"))
  hn : PySem.W.specialIn K (.builtin "object.__class__") "__get__" = some (some (.builtin "getset_descriptor.__get__"))
  ht : PySem.W.takesIn K (.builtin "object.__class__") = some true
  hm : PySem.W.mroIn K C (.type "object") = some true
structure ClsT (K : PySem.W.Frag) (C : Addr) : Prop where
  i : PySem.W.isClsIn K C = true
  t : PySem.W.typeIn K (.ref C) = some (.type "type")
theorem tyx_I {K : PySem.W.Frag} {H : Hp} {a C dx : Addr} {fs : List (Str × V)} (h : H a = some (.ins C dx fs)) (cl : Cls K C) (c : InsC K C) : TyX K H (.ref a) (.ref C) := .base (.ins h cl c.ha c.hn c.ht c.hm)
theorem kit_own {K : PySem.W.Frag} {C D : Addr} {b : Bool} (hD : PySem.W.subIn K (.ref D) (.ref D) = some true) (k : ClsT K C) (h : PySem.W.subIn K (.ref D) (.ref C) = some b) : PySem.W.kitOne K (.ref D) (.ref C) = some b := by
  unfold PySem.W.kitOne
  by_cases e : D = C
  · subst e
    rw [hD] at h
    cases h
    rw [if_pos (by simp)]
  · rw [if_neg (by simpa using e)]
    have h2 : (PySem.W.clsIn K C).isSome = true := k.i
    show (if ((PySem.W.clsIn K C).isSome && PySem.W.typeIn K (.ref C) == some (.type "type")) = true then PySem.W.subIn K (.ref D) (.ref C) else none) = some b
    rw [if_pos (by rw [h2, k.t]; rfl)]
    exact h
theorem kit_not {K : PySem.W.Frag} {T : String} {C : Addr} {b : Bool} (k : ClsT K C) (h : PySem.W.subIn K (.type T) (.ref C) = some b) : PySem.W.kitOne K (.type T) (.ref C) = some b := by
  unfold PySem.W.kitOne
  rw [if_neg (by simp)]
  have h2 : (PySem.W.clsIn K C).isSome = true := k.i
  show (if ((PySem.W.clsIn K C).isSome && PySem.W.typeIn K (.ref C) == some (.type "type")) = true then PySem.W.subIn K (.type T) (.ref C) else none) = some b
  rw [if_pos (by rw [h2, k.t]; rfl)]
  exact h
theorem L_orl {t1 t2 : TE} {σ : L2.St} {H : Hp} {Q : VK} (h : t1 σ H Q) : tOrE t1 t2 σ H Q := .inl h
theorem L_orr {t1 t2 : TE} {σ : L2.St} {H : Hp} {Q : VK} (h : t2 σ H Q) : tOrE t1 t2 σ H Q := .inr h
theorem L_xf {a C : Addr} {cls : Value} {d : Option Addr} {f : Str} {te : TE} {σ : L2.St} {H : Hp} {Q : VK} (h : te σ H fun x H1 => x = .ref a ∧ cls = .ref C ∧ ∃ (dd : Addr) (fs : List (Str × V)) (v : V), d = some dd ∧ H1 dd = some (.xd fs) ∧ fs.lookup f = some v ∧ Q v H1) : tXf a cls d C f te σ H Q := h
theorem ExcC.xf {K : PySem.W.Frag} {C : Addr} (c : L2.ExcC K C) : XfC K C := ⟨c.hg, c.hk, c.hs, c.hd⟩
theorem L_isC {K : PySem.W.Frag} {H : Hp} {Q : VK} {x : V} {T : Value} {C : Addr} {b : Bool} (ty : TyX K H x T) (e : PySem.W.kitOne K T (.ref C) = some b) (q : Q (.bl b) H) : rIsi K [x, .ref C] H Q := ⟨x, .ref C, T, .ref C, b, rfl, .own C, ty, e, q⟩
theorem L_str1 {H : Hp} {Q : VK} {t : Int} (h : 0 ≤ t ∧ t ≤ 1000) (q : Q (.str (toString t)) H) : aStr1 [.int t] H Q := ⟨t, rfl, by have := Nat.log2_le_self t.natAbs; omega, q⟩
theorem str_short : ∀ t : Int, 0 ≤ t → t ≤ 100 → (↑(toString t) : Str).length ≤ 3 := by
  have h : ∀ n ∈ List.range 101, (↑(toString ((n : Nat) : Int)) : Str).length ≤ 3 := by decide +kernel
  intro t h0 h1
  have := h t.toNat (List.mem_range.mpr (by omega))
  rwa [Int.toNat_of_nonneg h0] at this

/-! ### exceptions held as values -/
/-- at a: an exception of the own class D, not raised; fs: its own fields -/
def XVal (H : Hp) (a D : Addr) (fs : List (Str × V)) : Prop := (fs = [] ∧ H a = some (ExI (.ref D) none a)) ∨ ∃ d, H a = some (exo a D (some d)) ∧ H d = some (exd d fs)
theorem XVal.same {H H' : Hp} {a D : Addr} {fs : List (Str × V)} (h : XVal H a D fs) (s : Same H H') : XVal H' a D fs := by
  rcases h with ⟨h1, h2⟩ | ⟨d, h1, h2⟩
  · exact .inl ⟨h1, s _ _ h2⟩
  · exact .inr ⟨d, s _ _ h1, s _ _ h2⟩
theorem xval_inst {X : Cx} {pins : List (Addr × Obj)} {σ : L2.St} {H : Hp} {s : Shared} {a D : Addr} {fs : List (Str × V)} (I : Inv X pins σ H s) (h : XVal H a D fs) : ∃ oe od, PySem.W.InstAt s.heap a oe D od := by
  rcases h with ⟨_, h⟩ | ⟨d, h1, h2⟩
  · obtain ⟨oe, J⟩ := exI_at I h
    exact ⟨oe, none, J⟩
  · obtain ⟨t1, ho⟩ := exo_at I.hok h1
    obtain ⟨mA, ⟨o, _, _, hd, _⟩, _⟩ := exd_at I.hok h2
    exact ⟨_, some o, ho, rfl, rfl, hd⟩
def rIsV (K : PySem.W.Frag) : List V → Hp → VK → Prop := fun xs H Q => ∃ (a D : Addr) (fs : List (Str × V)) (c : V) (u : Value) (b : Bool), xs = [.ref a, c] ∧ XVal H a D fs ∧ L2.ExcC K D ∧ ClsV c u ∧ PySem.W.kitOne K (.ref D) u = some b ∧ Q (.bl b) H
theorem call_isV {X : Cx} : CallR X (.builtin "isinstance") (rIsV X.K) := by
  intro pins s σ H xs us Q I r h
  obtain ⟨a, D, fs, c, u, b, rfl, hx, C, k, e, q⟩ := h
  obtain ⟨u1, u2, rfl, r1, r2⟩ := vals2 r
  cases r1
  cases k.eq r2
  obtain ⟨oe, od, J⟩ := xval_inst I hx
  obtain ⟨cd, hcd, _⟩ := PySem.W.any_some C.hd
  exact PySem.W.kia_one (PySem.W.kitx_exc (show (PySem.W.clsIn _ D).isSome = true by rw [hcd]; rfl) C.hg C.hk C.hs C.ha C.hn C.ht C.hm) I.kIn J e (fun z => nomatch z) fun tk => ⟨.bl b, H, I.tok tk, rfl, q⟩
theorem L_isV {K : PySem.W.Frag} {H : Hp} {Q : VK} {a D : Addr} {fs : List (Str × V)} {c : V} {u : Value} {b : Bool} (h : XVal H a D fs) (C : L2.ExcC K D) (k : ClsV c u) (e : PySem.W.kitOne K (.ref D) u = some b) (q : Q (.bl b) H) : rIsV K [.ref a, c] H Q := ⟨a, D, fs, c, u, b, rfl, h, C, k, e, q⟩
/-- e.f, e such a value -/
def tXv (K : PySem.W.Frag) (f : Str) (te : TE) : TE := fun σ H Q => te σ H fun x H1 => ∃ (a D d : Addr) (fs : List (Str × V)) (v : V), x = .ref a ∧ L2.ExcC K D ∧ PySem.W.findIn K (.ref D) f = some none ∧ H1 a = some (exo a D (some d)) ∧ H1 d = some (exd d fs) ∧ fs.lookup f = some v ∧ Q v H1
theorem L_xv {K : PySem.W.Frag} {f : Str} {te : TE} {σ : L2.St} {H : Hp} {Q : VK} (h : te σ H fun x H1 => ∃ (a D d : Addr) (fs : List (Str × V)) (v : V), x = .ref a ∧ L2.ExcC K D ∧ PySem.W.findIn K (.ref D) f = some none ∧ H1 a = some (exo a D (some d)) ∧ H1 d = some (exd d fs) ∧ fs.lookup f = some v ∧ Q v H1) : tXv K f te σ H Q := h
theorem pe_xv {X : Cx} {e : Expr} {te : TE} {f : Str} {pos : Pos} (he : PE X e te) (hb : attributeBase e f X.env (eval e X.env) = eval e X.env := by rfl) : PE X (.Attribute e f pos) (tXv X.K f te) := by
  constructor
  intro pins s σ H Q I h
  refine attr_of hb (thn (he.run pins s σ H _ I h) fun u s1 ⟨x, H1, I1, rx, a, D, d, fs, v, ex, C, nf, h1, h2, l, q⟩ => ?_)
  subst ex
  cases rx
  obtain ⟨t1, ho⟩ := exo_at I1.hok h1
  obtain ⟨mA, hns, rel⟩ := exd_at I1.hok h2
  obtain ⟨od, hod, hlk⟩ := lookIn_ns hns
  obtain ⟨w, hw, rw'⟩ := RelO.some_of (v := v) (o := mA f) (by rw [← l]; exact rel f)
  have J : PySem.W.InstAt s1.heap a _ D (some od) := ⟨ho, rfl, rfl, hod⟩
  exact HandSPX.exc_get I1.kIn J C.hg C.hk C.hs (PySem.W.findObj_own C.hd nf rfl (by rw [hlk, hw])) (handed_of rw') ⟨v, H1, I1.tok _, rw', q⟩
/-- C(), C without an own __init__ -/
def tMk0V (C : Addr) : TE := fun _ H Q => ∀ a, H a = none → Q (.ref a) (upd H a (ExI (.ref C) none a))
theorem pe_mk0V {X : Cx} {C : Addr} {x : Str} {p pos : Pos} (c : ExcAt X.K C) (gC : X.mg x = some (.ref C)) (hg : Gl X x) (hdb : (x == ("__debug__" : Str)) = false := by decide) : PE X (.Call (.Name x p) [] [] pos) (tMk0V C) := by
  constructor
  intro pins s σ H Q I h
  refine wpAny_Call_Name_kw (ld_glob I hg gC ?_ hdb)
  refine PySem.W.callWith_K0 I.kIn c.k ?_
  obtain ⟨bm, N, nm, qn, bs, hdct, sn, sub, ab, col, dd, k0, k1, k2, k3, k5, mN, hC, hN, hni, T⟩ := exc_obj I.kIn c.x
  refine wpAny_call_exc_subT PySem.F.excBase_ValueError T hC hN hni (fun h' a hm => ?_) (Nat.zero_le _)
  have na : H a = none := I.hok.gone hm.new
  obtain ⟨t, at_, _, _⟩ := hm.there
  refine ⟨.ref a, _, I.laidN (o := ExI (.ref C) none a) hm.keeps hm.new na ⟨⟨_, _, at_, ⟨rfl, rfl⟩, rfl⟩, ⟨_, at_⟩, fun _ _ ⟨o1, v1, z, r⟩ k => ⟨o1, v1, k o1 z, r⟩⟩, rfl, h a na⟩
/-- C(..), C with an own __init__ -/
def tMkV (C : Addr) (sp : Sp) (ta : TA) : TE := fun σ H Q => ta σ H fun vs H1 => vs.length ≤ 1000 ∧ ∀ a, H1 a = none → sp (.ref a :: vs) (upd H1 a (exo a C none)) (fun v H2 => v = .non ∧ Q (.ref a) H2) E0
theorem L_mkV {C : Addr} {sp : Sp} {ta : TA} {σ : L2.St} {H : Hp} {Q : VK} (h : ta σ H fun vs H1 => vs.length ≤ 1000 ∧ ∀ a, H1 a = none → sp (.ref a :: vs) (upd H1 a (exo a C none)) (fun v H2 => v = .non ∧ Q (.ref a) H2) E0) : tMkV C sp ta σ H Q := h
theorem L_mk0V {C : Addr} {σ : L2.St} {H : Hp} {Q : VK} (h : ∀ a, H a = none → Q (.ref a) (upd H a (ExI (.ref C) none a))) : tMk0V C σ H Q := h
theorem pe_mkV {X : Cx} {k j : Nat} {C : Addr} {x : Str} {sp : Sp} {p pos : Pos} {e : Expr} {es : List Expr} {ta : TA} (c : XMak X.prog X.w X.K X.mg X.base k x C sp) (T : OexC X.K C) (hr : Room j X.A) (hk : k + 1 ≤ j) (hg : Gl X x) (ha : PA X (e :: es) ta)
    (hdb : (x == ("__debug__" : Str)) = false := by decide) (he : starEach (e :: es) X.env = (false, eval e X.env) :: starEach es X.env := by rfl) (hpl : (backTo pos (starEach es X.env)).any (·.1) = false := by rfl) :
    PE X (.Call (.Name x p) (e :: es) [] pos) (tMkV C sp ta) := by
  obtain ⟨f, fd, ps, F, iC, tI, hm, hb⟩ := c.ex
  have room := hr.mono hk
  obtain ⟨nm, q, N, bs, bm, sn, sub, ab, col, dd, k0, k1, k2, k3, k5, hC, hbm⟩ := T.cls
  constructor
  intro pins s σ H Q I h
  refine wpAny_Call_Name_kw (ld_glob I hg hm ?_ hdb)
  refine PySem.W.callWith_K (h₀ := X.base) I.ok.mod.kin T.kC (thn (ha.run pos pins s σ H _ I h) fun us s1 ⟨vs, H1, I1, r1, hz, q1⟩ => ⟨I1.kIn, ?_⟩) he hpl
  show wpAny _ _ (call (.ref C) us) _ _ _
  have r1 : Vals vs us := r1
  have few : us.length ≤ sizeLine := by
    have z1 := Paired.length r1
    have z2 := sizeLine_eq
    omega
  obtain ⟨hp, g, dr, tk, os⟩ := s1
  -- the arguments' tuple and the exception's own place
  have old : ∀ b o, hp.get? b = some o → ((hp.push (PySem.W.kdv_tup us)).push (PySem.HandSPX.excO C hp.objs.size)).get? b = some o := fun b o z => Heap.get?_push_of_some _ (Heap.get?_push_of_some _ z)
  have here : ((hp.push (PySem.W.kdv_tup us)).push (PySem.HandSPX.excO C hp.objs.size)).get? (hp.objs.size + 1) = some (PySem.HandSPX.excO C hp.objs.size) := by heap_get
  have free : H1 (hp.objs.size + 1) = none := I1.hok.fresh (Nat.le_succ _)
  have J : Inv X pins σ (upd H1 (hp.objs.size + 1) (exo (hp.objs.size + 1) C none)) ⟨(hp.push (PySem.W.kdv_tup us)).push (PySem.HandSPX.excO C hp.objs.size), g, dr, tk, os⟩ :=
    I1.laid (t' := tk) old (Nat.le_succ _) (exo_ok here)
  have asked := q1 _ free
  have args : Vals (V.ref (hp.objs.size + 1) :: vs) (Value.ref (hp.objs.size + 1) :: us) := .cons rfl r1
  have many : (Value.ref (hp.objs.size + 1) :: us).length = ps.length := args.length.symm.trans (F.len _ _ _ _ asked)
  have bound := hb _ (Value.ref (hp.objs.size + 1) :: us) J.kIn (by rw [List.append_nil]; exact many)
  rw [List.append_nil] at bound
  refine wpAny_call (PySem.HandSPX.call_own PySem.F.excBase_ValueError (fun Y => PySem.HandSPX.refsVE_contains Y bm hbm) (I1.kIn _ _ hC) (PySem.W.looks_findIn I1.kIn iC) (fun self => PySem.W.bind_fn I1.kIn self tI) few ?_)
  refine codeAny_mono (F.run _ X.stack _ _ ⟨_, []⟩ _ _ _ E0 (room.make C us []) (J.env0.make C us []) bound args asked) fun out s' ho => ?_
  match out, ho with
  | .error e, ho => exact pass0 pins σ _ _ e s' J ho
  | .ok (.ret u), ho =>
    obtain ⟨v, H', J', rel, hv, rest⟩ := J.after ho
    cases hv
    exact ⟨rel, .ref (hp.objs.size + 1), H', J', rfl, rest⟩
  | .ok .next, ho => exact ho.elim
  | .ok .brk, ho => exact ho.elim
  | .ok .cont, ho => exact ho.elim
theorem L_dsetd {td ty tx : TE} {σ : L2.St} {H : Hp} {Q : VK} (h : td σ H fun x H1 => ∃ a, x = .ref a ∧ IsD H1 a ∧ ty σ H1 fun y H2 => tx σ H2 fun z H3 => ∃ (kvs : List (Key × V)) (k : Key), H3 a = some (.dK kvs) ∧ y = kV k ∧ kvs.length < sizeLine ∧
  (∀ v, valV kvs k = some v → Q v H3) ∧ (valV kvs k = none → Q z (upd H3 a (.dK (putK kvs k z))))) : tDSetd td ty tx σ H Q := h
/-! ### the tuples of a heap; fields changed by += -/
noncomputable def tp (H : Hp) : Hp := rs (fun b => ∃ xs, H b = some (.tup xs)) H
theorem tp_same {H H' : Hp} (h : ∀ b xs, H b = some (.tup xs) → H' b = some (.tup xs)) : Same (tp H) (tp H') := rs_same fun b o ⟨xs, e⟩ z => ⟨⟨xs, h b xs e⟩, by rw [e] at z; cases z; exact h b xs e⟩
theorem tp_upd {H : Hp} {a : Addr} {o : HO} (h : ∀ xs, H a ≠ some (.tup xs)) : Same (tp H) (tp (upd H a o)) := tp_same fun b xs e => by rw [upd_ne fun z => h xs (by rw [← z]; exact e)]; exact e
theorem tp_at {H : Hp} {b : Addr} {xs : List V} (h : H b = some (.tup xs)) : tp H b = some (.tup xs) := rs_at ⟨xs, h⟩ h
theorem tp_of {H H' : Hp} (e : Same H H') : Same (tp H) (tp H') := tp_same fun b xs z => e _ _ z
theorem L_fldaug {K : PySem.W.Frag} {σ : L2.St} {H : Hp} {N B C' : L2.St → Hp → Prop} {R : VK} {f : Str} {ta tv : TE} {rd : V → V → Hp → VK → Prop} (h : ta σ H fun x H1 => ∃ a C dx fs v, x = .ref a ∧ H1 a = some (.ins C dx fs) ∧ Cls K C ∧ NoAttr K C f ∧ fs.lookup f = some v ∧
  tv σ H1 fun y H2 => rd v y H2 fun z H3 => ∃ dx' fs', H3 a = some (.ins C dx' fs') ∧ fs'.length < 1000 ∧ N σ (upd H3 a (.ins C dx' (putF f z fs')))) : sFldAug K ta tv rd f ⟨N, R, B, C'⟩ σ H := h
theorem L_rAdd {H : Hp} {Q : VK} {i j : Int} (h : Q (.int (i + j)) H) : rAdd (.int i) (.int j) H Q := ⟨i, j, rfl, rfl, h⟩
theorem fm_flt {α β : Type} (c : α → Bool) (g : α → β) : ∀ l : List α, (List.range l.length).filterMap (fun i => (l[i]?).bind fun x => if c x = true then some (g x) else none) = (l.filter c).map g
  | [] => rfl
  | a :: l => by
    have ih := fm_flt c g l
    rw [List.length_cons, List.range_succ_eq_map]
    simp only [List.filterMap_cons, List.getElem?_cons_zero, Option.bind_some, List.filterMap_map, Function.comp_def, List.getElem?_cons_succ]
    rw [ih]
    cases h : c a
    · rw [List.filter_cons_of_neg (by simp [h])]; simp
    · rw [List.filter_cons_of_pos h]; simp
/-- t * n, t a text -/
def rRepS : R2 := fun x y H Q => ∃ (z : Str) (k : Int), x = .str z ∧ y = .int k ∧ MulOk z k ∧ Q (.str (Txt.mul z k)) H
theorem op_repS {X : Cx} : OpR X (binaryOp .Mult) rRepS := by
  intro pins s σ H x y v u Q I rx ry h
  obtain ⟨z, k, rfl, rfl, hz, q⟩ := h
  obtain ⟨t, rfl⟩ := rx
  obtain ⟨t', rfl⟩ := ry
  exact SB.mul hz fun t' tk => ⟨.str (Txt.mul z k), H, I.tok _, ⟨_, rfl⟩, q⟩
theorem L_repS0 {H : Hp} {Q : VK} {z : Str} {k : Int} (h : k = 0) (q : Q (.str Str.empty) H) : rRepS (.str z) (.int k) H Q := by
  subst h
  exact ⟨z, 0, rfl, rfl, ⟨by decide, fun h => absurd (by decide) h, fun h => absurd (by decide) h⟩, q⟩
theorem sqT_upd {K : PySem.W.Frag} {H : Hp} {p a : Addr} {us xs : List V} {o : HO} (hp : H p = some (.lst us)) (h : SqT K H a xs) : SqT K (upd H p o) a xs := by
  rcases h with (h | ⟨o', h⟩) | h
  · exact .inl (.inl (by rw [upd_ne fun z => by rw [z, hp] at h; cases h]; exact h))
  · exact .inl (.inr ⟨o', by rw [upd_ne fun z => by rw [z, hp] at h; cases h]; exact h⟩)
  · exact .inr h
theorem rep_map {α : Type} (f : α → V) (xs : List α) (n : Nat) : (List.replicate n (xs.map f)).flatten = ((List.replicate n xs).flatten).map f := by
  induction n with
  | zero => rfl
  | succ n ih => rw [List.replicate_succ, List.flatten_cons, List.replicate_succ, List.flatten_cons, List.map_append, ih]
theorem cutG_both {α : Type} (xs : List α) {a b : Nat} (h1 : a ≤ b) (h2 : b ≤ xs.length) : cutG xs (some (a : Int)) (some (b : Int)) = (xs.drop a).take (b - a) := by
  unfold cutG
  rw [HT.sIx_nat, HT.sIx_nat, Nat.min_eq_left h2, Nat.min_eq_left (Nat.le_trans h1 h2)]
/-! ### looks at a question's form, ahead of steps that show something -/
section
variable {K : PySem.W.Frag} {σ : L2.St} {H : Hp} {Q : VK} {x y v : V}
theorem G_mul (h : aMul x y H Q) : aMul x y H Q := h
theorem G_mod {g : Int → Int → V} (h : rI (fun _ j => 0 < j) g x y H Q) : rI (fun _ j => 0 < j) g x y H Q := h
theorem G_div {g : Int → Int → V} (h : rI CDivW g x y H Q) : rI CDivW g x y H Q := h
theorem G_pow {g : Int → Int → V} (h : rI CPow g x y H Q) : rI CPow g x y H Q := h
theorem G_ix {p : Addr} {i : Int} (h : rIx K (.ref p) (.int i) H Q) : rIx K (.ref p) (.int i) H Q := h
theorem G_len {p : Addr} (h : aLen K [.ref p] H Q) : aLen K [.ref p] H Q := h
theorem G_meth {a : Addr} {C : Addr} {m : Str} {R : Addr → Addr → List (Str × V) → Prop} (h : ∃ a' dx fs, V.ref a = V.ref a' ∧ H a' = some (.ins C dx fs) ∧ fs.lookup m = none ∧ R a' dx fs) : ∃ a' dx fs, V.ref a = V.ref a' ∧ H a' = some (.ins C dx fs) ∧ fs.lookup m = none ∧ R a' dx fs := h
theorem G_isi {i : Int} {n : String} (h : rIsi K [.int i, .ty n] H Q) : rIsi K [.int i, .ty n] H Q := h
theorem G_d {p : Prop} [Decidable p] {A B : Prop} (h : if decide p = true then A else B) : if decide p = true then A else B := h
theorem G_nd {p : Prop} [Decidable p] {A B : Prop} (h : if (!decide p) = true then A else B) : if (!decide p) = true then A else B := h
theorem G_gn {i : Nat} {N : L2.St → Hp → Prop} (h : gName i v σ H N) : gName i v σ H N := h
end
theorem inV_strs (n : Str) : ∀ ns : List Str, inV (.str n) (ns.map V.str) = decide (n ∈ ns)
  | [] => by simp [inV]
  | k :: ns => by
    have ih := inV_strs n ns
    unfold inV at ih ⊢
    rw [List.map_cons, List.any_cons, ih]
    by_cases e : n = k
    · subst e
      simp [eqV]
    · have e' : ¬ k = n := fun z => e z.symm
      simp [eqV, e, e']
theorem flat_strs : ∀ ns : List Str, (ns.map V.str).all flatV = true
  | [] => rfl
  | _ :: ns => by rw [List.map_cons, List.all_cons, flat_strs ns]; rfl
section
variable {K : PySem.W.Frag} {H : Hp} {Q : VK} {p : Addr} {z : Str} {ns : List Str}
theorem L_notInSs (h : SqL K H p (ns.map V.str)) (q : Q (.bl (!decide (z ∈ ns))) H) : aNotIn K (.str z) (.ref p) H Q := .inr ⟨p, _, rfl, .inl h, rfl, flat_strs _, by rw [if_pos rfl, inV_strs]; exact q⟩
theorem L_inSs (h : SqL K H p (ns.map V.str)) (q : Q (.bl (decide (z ∈ ns))) H) : aIn K (.str z) (.ref p) H Q := .inr ⟨p, _, rfl, .inl h, rfl, flat_strs _, by rw [if_neg (by decide), inV_strs]; exact q⟩
theorem L_notInTs (h : SqT K H p (ns.map V.str)) (q : Q (.bl (!decide (z ∈ ns))) H) : aNotIn K (.str z) (.ref p) H Q := .inr ⟨p, _, rfl, .inr h, rfl, flat_strs _, by rw [if_pos rfl, inV_strs]; exact q⟩
theorem L_inTs (h : SqT K H p (ns.map V.str)) (q : Q (.bl (decide (z ∈ ns))) H) : aIn K (.str z) (.ref p) H Q := .inr ⟨p, _, rfl, .inr h, rfl, flat_strs _, by rw [if_neg (by decide), inV_strs]; exact q⟩
end
/-! ### dicts: in, not in, d[k] = v -/
section
variable {K : PySem.W.Frag} {σ : L2.St} {H : Hp} {Q : VK} {ty td tv : TE} {y v : V} {a : Addr} {k : Key} {kvs : List (Key × V)}
theorem L_din (h : ty σ H fun y H1 => td σ H1 fun x H2 => ∃ a o, x = .ref a ∧ DGet H2 a y o ∧ Q (.bl o.isSome) H2) : tDIn ty td σ H Q := h
theorem L_dnin (h : ty σ H fun y H1 => td σ H1 fun x H2 => ∃ a o, x = .ref a ∧ DGet H2 a y o ∧ Q (.bl (!o.isSome)) H2) : tDNotIn ty td σ H Q := h
theorem L_dget (h : td σ H fun x H1 => ty σ H1 fun y H2 => ∃ a v, x = .ref a ∧ DGet H2 a y (some v) ∧ Q v H2) : tDGet td ty σ H Q := h
theorem L_dinv {R : Option V → Prop} (e : y = kV k) (h : H a = some (.dK kvs)) (q : R (valV kvs k)) : ∃ a' o, V.ref a = .ref a' ∧ DGet H a' y o ∧ R o := ⟨a, _, rfl, by rw [e]; exact DGet.k h, q⟩
theorem L_dgetv {R : V → Prop} (e : y = kV k) (h : H a = some (.dK kvs)) (hv : valV kvs k = some v) (q : R v) : ∃ a' v, V.ref a = .ref a' ∧ DGet H a' y (some v) ∧ R v := ⟨a, v, rfl, by rw [e, ← hv]; exact DGet.k h, q⟩
theorem L_dput {N B C : L2.St → Hp → Prop} {R : VK} (h : tv σ H fun v H1 => td σ H1 fun x H2 => ty σ H2 fun y H3 => ∃ a H4, x = .ref a ∧ DPut H3 a y v H4 ∧ N σ H4) : sDPut td ty tv ⟨N, R, B, C⟩ σ H := h
theorem L_dputv {R : Hp → Prop} (e : y = kV k) (h : H a = some (.dK kvs)) (hl : kvs.length < 1000000) (q : R (upd H a (.dK (putK kvs k v)))) : ∃ a' H4, V.ref a = .ref a' ∧ DPut H a' y v H4 ∧ R H4 := ⟨a, _, rfl, by rw [e]; exact DPut.k h (sz_lt hl), q⟩
end
theorem putK_len {kvs : List (Key × V)} {k : Key} {v : V} : (putK kvs k v).length ≤ kvs.length + 1 := by
  unfold putK
  split
  · rw [List.length_map]; omega
  · rw [List.length_append, List.length_singleton]; omega
/-! ### a comprehension of new pairs of ints -/
def T2 (H : Hp) (v : V) (p : Int × Int) : Prop := ∃ t, v = .ref t ∧ H t = some (.tup [.int p.1, .int p.2])
theorem paired_imp2 {α β : Type} {F G : α → β → Prop} (h : ∀ a b, F a b → G a b) : ∀ {xs : List α} {ys : List β}, Paired F xs ys → Paired G xs ys
  | [], _, p => by cases p; exact .nil
  | x :: xs, _, p => by cases p with | cons h1 h2 => exact .cons (h _ _ h1) (paired_imp2 h h2)
theorem paired_app {α β : Type} {F : α → β → Prop} : ∀ {xs us : List α} {ys ws : List β}, Paired F xs ys → Paired F us ws → Paired F (xs ++ us) (ys ++ ws)
  | [], _, _, _, p, q => by cases p; exact q
  | x :: xs, _, _, _, p, q => by cases p with | cons h1 h2 => exact .cons h1 (paired_app h2 q)
section
variable {σ : L2.St} {H : Hp} {g : TG} {tt : TT} {te : TE}
theorem lc_pr {J : It} {n : Nat} {G : Hp → Prop} {Y : Nat → Hp → V → Hp → Prop} (w : L2.Walk J n G Y) {vs : List Nat} {Qd : Addr → Hp → Prop} (f : Nat → Option (Int × Int)) (hn : n ≤ 1000000) (hG : ∀ H', Same H H' → G H')
    (hs : ∀ i x H2 H' (R : V → Hp → Prop) (R' : Hp → Prop), i < n → Same H H2 → Y i H2 x H' → (∀ t p H4, f i = some p → Same H2 H4 → H4 t = some (.tup [.int p.1, .int p.2]) → R (.ref t) H4) → (∀ H3, f i = none → Same H2 H3 → R' H3) →
      g x (wipe σ vs) H' fun σ2 H2 => wipe σ2 vs = wipe σ vs ∧ tt σ2 H2 fun b H3 => if b = true then te σ2 H3 R else R' H3)
    (q : ∀ p H' vs, H p = none → Same H H' → H' p = some (.lst vs) → Paired (T2 H') vs ((List.range n).filterMap f) → Qd p H') :
    ∀ D, H D = none → ∃ W : Nat → Nat → Hp → Prop, (∃ m, W 0 m (upd H D (.lst []))) ∧ ∀ i m H, W i m H →
      (J.stop i H ∧ Qd D H) ∨ (J.go i H ∧ ∃ Nx : Hp → Prop, (∀ H', Nx H' → ∃ m', m' < m ∧ W (i + 1) m' H') ∧ ∀ x H', J.yld i H x H' → g x (wipe σ vs) H' fun σ2 H2 => wipe σ2 vs = wipe σ vs ∧ tt σ2 H2 fun b H3 =>
        if b = true then te σ2 H3 fun y H4 => ∃ acc, H4 D = some (.lst acc) ∧ acc.length < sizeLine ∧ Nx (upd H4 D (.lst (acc ++ [y]))) else Nx H3) := by
  intro D hD
  refine lc_it w (fun i H2 => Same H H2 ∧ ∃ us, H2 D = some (.lst us) ∧ Paired (T2 H2) us ((List.range i).filterMap f)) ⟨same_new hD, [], upd_same, .nil⟩ (fun i H2 _ p => hG H2 p.1) ?_ (fun H2 ⟨p1, us, p2, p3⟩ => q D H2 us hD p1 p2 p3)
  rintro i x H2 H' hi ⟨p1, us, p2, p3⟩ y
  refine hs i x H2 H' _ _ hi p1 y (fun t d H4 e s et => ?_) (fun H3 e s => ?_)
  · have e4 := s _ _ p2
    have ne : ∀ t o, H4 t = some o → (∀ l, o ≠ .lst l) → t ≠ D := fun t o h h' z => by rw [z, e4] at h; injection h with h; exact h' _ h.symm
    refine ⟨us, e4, sz_lt (by have := Paired.length p3; have := fm_len' f i; omega), same_mut (p1.trans s) hD, _, upd_same, ?_⟩
    rw [fm_succ', e]
    have up : ∀ v p, T2 H4 v p → T2 (upd H4 D (.lst (us ++ [.ref t]))) v p := fun v p h => by
      obtain ⟨t', h1, h2⟩ := h
      exact ⟨t', h1, by rw [upd_ne (ne t' _ h2 (fun _ z => by cases z))]; exact h2⟩
    exact paired_app (paired_imp2 (fun v p h => up v p (by obtain ⟨t', h1, h2⟩ := h; exact ⟨t', h1, s _ _ h2⟩)) p3) (.cons (up _ _ ⟨t, rfl, et⟩) .nil)
  · refine ⟨p1.trans s, us, s _ _ p2, ?_⟩
    rw [fm_succ', e, List.append_nil]
    exact paired_imp2 (fun v p ⟨t, h1, h2⟩ => ⟨t, h1, s _ _ h2⟩) p3
end
/-! ### methods with defaults -/
structure MethD (K : PySem.W.Frag) (C : Addr) (m qual : Str) (st : Stmt) (ps : List Str) (dvs : List V) : Prop where
  ex : ∃ (f : Addr) (fd : FuncData), FunD K m qual (defArgs st) (defBody st) (defScope st) dvs [] f fd ∧ Meth K C m f ∧ Binds K fd ps [] ∧ ∃ ds, Vals dvs ds ∧ Binds K fd ps ds
theorem binds_full {K : PySem.W.Frag} {fd : FuncData} {ps : List Str} {dvs : List V} {j : Nat} (h : ∃ ds, Vals (dvs.drop j) ds ∧ Binds K fd ps ds) (hj : dvs.length ≤ j := by decide) : Binds K fd ps [] := by
  obtain ⟨ds, r, b⟩ := h
  rw [List.drop_eq_nil_of_le hj] at r
  cases r
  exact b
structure MetXD (P : Program) (w : World) (K : PySem.W.Frag) (mg : Str → Option Value) (base : Heap) (k : Nat) (C : Addr) (m : Str) (sp : Sp) (dvs : List V) : Prop where
  ex : ∃ (f : Addr) (fd : FuncData) (ps : List Str) (ds : List Value), Cls K C ∧ Meth K C m f ∧ FnOk P w K mg base (L2.CX P w) k f fd ps sp ∧ Binds K fd ps [] ∧ Vals dvs ds ∧ Binds K fd ps ds
section
variable {P : Program} {w : World} {K : PySem.W.Frag} {mg : Str → Option Value} {base : Heap}
theorem MethD.metXD {C : Addr} {m qual : Str} {st : Stmt} {N ps : List Str} {k : Nat} {sp : Sp} {dvs : List V} (c : Cls K C) (d : MethD K C m qual st ps dvs) (S : FnScope N ps (defScope st)) (len : ∀ vs H Q E, sp vs H Q E → vs.length = ps.length)
    (hbody : ∀ (f : Addr) (cdv : Value) (A : Around) (outer : List Env) (s : Shared) (H : Hp) (vs : List V) (Q : VK) (E : XK), Room k (A.deeper (envOfC qual (defScope st) s.heap.objs.size f cdv)) → sp vs H Q E →
      ∃ t, PSs (cxOf (L2.CX P w) P w K mg base N qual (defScope st) f cdv A outer s H E) (defBody st) t ∧ t { nx := fun _ H' => Q .non H', rt := Q } (start N vs) H) : MetXD P w K mg base (k + 1) C m sp dvs := by
  obtain ⟨f, fd, F, hm, b, ds, r, b2⟩ := d.ex
  exact ⟨f, fd, ps, ds, c, hm, F.ok S len (hbody f), b, r, b2⟩
theorem MetXD.m {k : Nat} {C : Addr} {m : Str} {sp : Sp} {dvs : List V} (c : MetXD P w K mg base k C m sp dvs) : MetX P w K mg base k C m sp := by
  obtain ⟨f, fd, ps, ds, hc, hm, F, b, r, b2⟩ := c.ex
  exact ⟨f, fd, ps, hc, hm, F, b⟩
end
def tMethDE (C : Addr) (m : Str) (sp : Sp) (dvs : List V) (E : L2.St → XK) (ta : TE) (t : TA) : TE := fun σ H Q => ta σ H fun x H1 => ∃ a dx fs, x = .ref a ∧ H1 a = some (.ins C dx fs) ∧ fs.lookup m = none ∧ t σ H1 fun vs H2 => sp (x :: vs ++ dvs) H2 Q (E σ)
section
variable {X : Cx} {CX : CXT} {k j : Nat} {f C : Addr} {fd : FuncData} {ps : List Str} {x m : Str} {sp : Sp} {p pos apos : Pos} {e o : Expr} {es : List Expr} {ta : TE} {t : TA} {E : L2.St → XK} {dvs : List V}
theorem L_methD {σ : L2.St} {H : Hp} {Q : VK} (h : ta σ H fun x H1 => ∃ a dx fs, x = .ref a ∧ H1 a = some (.ins C dx fs) ∧ fs.lookup m = none ∧ t σ H1 fun vs H2 => sp (x :: vs ++ dvs) H2 Q (E σ)) : tMethDE C m sp dvs E ta t σ H Q := h
theorem pe_xMtD {pl : Sem Bool} (c : MetXD X.prog X.w X.K X.mg X.base k C m sp dvs) (hr : Room j X.A) (hk : k ≤ j) (hx : ∀ σ, PassesAt (L2.CX X.prog X.w) X σ (E σ)) (he : PE X o ta) (ha : PA X (e :: es) t)
    (hst : starEach (e :: es) X.env = (false, eval e X.env) :: starEach es X.env := by rfl) (hpl : (backTo pos (starEach es X.env)).any (·.1) = false := by rfl)
    (ht : eval (.Call (.Attribute o m apos) (e :: es) [] pos) X.env = (do
      let ov ← eval o X.env
      standAt apos.atName
      let (f, first) ← holding [ov] (getMethod ov m pl)
      callWith pos f first (backTo pos (starEach (e :: es) X.env)) (backToKw pos (keywordEach [] X.env))) := by rfl) :
    PE X (.Call (.Attribute o m apos) (e :: es) [] pos) (tMethDE C m sp dvs E ta t) := by
  obtain ⟨f, fd, ps, ds, hc, hm, F, _, hd, hb⟩ := c.ex
  refine ⟨fun pins s σ H Q I h => ?_⟩
  refine PySem.W.methodCall_KW (pl := pl) (thn (he.run pins s σ H _ I h) fun u s1 ⟨x, H1, I1, rx, a, dx, fs, ex, ea, l, q⟩ => ?_) ht
  subst ex
  obtain rfl : u = Value.ref a := rx
  refine getmeth_ok I1 ea hc hm l ?_
  refine PySem.W.callWith_K (first := [.ref a]) (h₀ := X.base) I.ok.mod.kin hm.kp (thn (ha.run pos pins s1 σ H1 _ I1 q) fun us s2 ⟨vs, H2, I2, r, q2⟩ => ⟨I2.kIn, ?_⟩) hst hpl
  exact run_fnSD (us := .ref a :: us) (vs := .ref a :: vs) F (hr.mono hk) hb hd (hx σ) I2 (.cons rfl r) q2
end
/-! ### dicts with ints as keys -/
def rSortDI : List V → Hp → VK → Prop := fun xs H Q => ∃ (a : Addr) (kvs : List (Key × V)) (ks : List Int), xs = [.ref a] ∧ Rd H a (.dK kvs) ∧ kvs.map (·.1) = ks.map Sum.inl ∧ ks.length < 64 ∧
    ∀ (ys : List Int) (p : Addr), ys.Perm ks → ys.Pairwise (· ≤ ·) → H p = none → Q (.ref p) (upd H p (.lst (ys.map V.int)))
theorem cr_sortDI {X : Cx} (hc : X.calm = true) : CallR X (.builtin "sorted") rSortDI := call_sortedDI hc
/-- the dict kvs is the function g: a key stands where g is not nought -/
def DGr (kvs : List (Key × V)) (g : Int → Int) : Prop := ∃ ks : List Int, kvs.map (·.1) = ks.map Sum.inl ∧ ks.Nodup ∧ (∀ f, f ∈ ks ↔ g f ≠ 0) ∧ ∀ f, g f ≠ 0 → valV kvs (Sum.inl f : Key) = some (.int (g f))
theorem DGr.none {kvs : List (Key × V)} {g : Int → Int} (h : DGr kvs g) {f : Int} (hf : g f = 0) : valV kvs (Sum.inl f : Key) = none := by
  obtain ⟨ks, h1, h2, h3, h4⟩ := h
  cases e : valV kvs (Sum.inl f : Key) with
  | none => rfl
  | some v =>
    obtain ⟨kv, hk, _⟩ := Option.map_eq_some_iff.mp e
    have hm := List.mem_of_find?_eq_some hk
    have he : kv.1 = (Sum.inl f : Key) := of_decide_eq_true (List.find?_some (p := fun kv : Key × V => decide (kv.1 = (Sum.inl f : Key))) hk)
    have : (Sum.inl f : Key) ∈ ks.map Sum.inl := by rw [← h1, ← he]; exact List.mem_map_of_mem hm
    obtain ⟨f', hf', e'⟩ := List.mem_map.mp this
    cases e'
    exact absurd hf ((h3 f).mp hf')
theorem DGr.getD {kvs : List (Key × V)} {g : Int → Int} (h : DGr kvs g) (f : Int) : (valV kvs (Sum.inl f : Key)).getD (.int 0) = .int (g f) := by
  by_cases hf : g f = 0
  · rw [h.none hf, hf]; rfl
  · obtain ⟨ks, h1, h2, h3, h4⟩ := h
    rw [h4 f hf]; rfl
theorem DGr.nil : DGr [] (fun _ => 0) := ⟨[], rfl, .nil, fun f => by simp, fun f h => absurd rfl h⟩
theorem DGr.one {k v : Int} (hv : v ≠ 0) : DGr [(Sum.inl k, .int v)] (fun f => if f = k then v else 0) := ⟨[k], rfl, by simp, fun f => by
  rw [List.mem_singleton]
  by_cases h : f = k
  · simp [h, hv]
  · simp [h], fun f h => by
  by_cases e : f = k
  · subst e; simp [valV]
  · simp [e] at h⟩
theorem DGr.put {kvs : List (Key × V)} {g : Int → Int} (h : DGr kvs g) (k v : Int) (hv : v ≠ 0) : DGr (putK kvs (Sum.inl k) (.int v)) (fun f => if f = k then v else g f) := by
  have hval : ∀ f, (if f = k then v else g f) ≠ 0 → valV (putK kvs (Sum.inl k : Key) (.int v)) (Sum.inl f) = some (.int (if f = k then v else g f)) := fun f hf => by
    rw [L2.valV_put]
    by_cases e : f = k
    · rw [if_pos e, if_pos (by rw [e])]
    · rw [if_neg e] at hf ⊢
      rw [if_neg (fun z => e (Sum.inl.inj z))]
      obtain ⟨ks, h1, h2, h3, h4⟩ := h
      exact h4 f hf
  by_cases hk : g k = 0
  · have hn := h.none hk
    obtain ⟨ks, h1, h2, h3, h4⟩ := h
    have e : putK kvs (Sum.inl k : Key) (.int v) = kvs ++ [(Sum.inl k, .int v)] := L2.putK_new (.int v) hn
    refine ⟨ks ++ [k], by rw [e, List.map_append, List.map_append, h1]; rfl, ?_, fun f => ?_, hval⟩
    · rw [List.nodup_append]
      refine ⟨h2, by simp, fun a ha b hb => ?_⟩
      rw [List.mem_singleton] at hb
      rintro rfl
      subst hb
      exact (h3 _).mp ha hk
    · rw [List.mem_append, List.mem_singleton, h3]
      by_cases e : f = k
      · simp [e, hv]
      · simp [e]
  · obtain ⟨ks, h1, h2, h3, h4⟩ := h
    have hany : (kvs.any fun kv => decide (kv.1 = (Sum.inl k : Key))) = true := by
      rw [List.any_eq_true]
      have : (Sum.inl k : Key) ∈ kvs.map (·.1) := by rw [h1]; exact List.mem_map_of_mem ((h3 k).mpr hk)
      obtain ⟨kv, hm, e⟩ := List.mem_map.mp this
      exact ⟨kv, hm, decide_eq_true e⟩
    refine ⟨ks, ?_, h2, fun f => ?_, hval⟩
    · unfold putK
      rw [if_pos hany, List.map_map, ← h1]
      refine List.map_congr_left fun kv _ => ?_
      show (if kv.1 = Sum.inl k then (kv.1, V.int v) else kv).1 = kv.1
      split <;> rfl
    · rw [h3]
      by_cases e : f = k
      · simp [e, hv, hk]
      · simp [e]
theorem DGr.congr {kvs : List (Key × V)} {g g' : Int → Int} (h : DGr kvs g) (e : ∀ f, g f = g' f) : DGr kvs g' := by
  rw [show g' = g from funext fun f => (e f).symm]; exact h
/-- a rising list of whole numbers from 0 to n - 1 is known by its members -/
def upN (n : Nat) : List Int := (List.range n).map fun i : Nat => (i : Int)
def keysOf (n : Nat) (h : Int → Int) : List Int := (upN n).filter fun f => decide (h f ≠ 0)
theorem upN_mem {n : Nat} {f : Int} : f ∈ upN n ↔ 0 ≤ f ∧ f < n := by
  unfold upN
  rw [List.mem_map]
  constructor
  · rintro ⟨i, hi, rfl⟩
    have := List.mem_range.mp hi
    omega
  · rintro ⟨h0, h1⟩
    exact ⟨f.toNat, List.mem_range.mpr (by omega), by omega⟩
theorem upN_lt (n : Nat) : (upN n).Pairwise (· < ·) := by
  unfold upN
  rw [List.pairwise_map]
  exact List.pairwise_lt_range.imp fun h => by omega
theorem lt_perm : ∀ {l l' : List Int}, l.Pairwise (· < ·) → l'.Pairwise (· < ·) → (∀ x, x ∈ l ↔ x ∈ l') → l = l'
  | [], [], _, _, _ => rfl
  | [], b :: l', _, _, h => absurd ((h b).mpr (List.mem_cons_self ..)) (by simp)
  | a :: l, [], _, _, h => absurd ((h a).mp (List.mem_cons_self ..)) (by simp)
  | a :: l, b :: l', h1, h2, h => by
    rw [List.pairwise_cons] at h1 h2
    have hab : a = b := by
      have ha := (h a).mp (List.mem_cons_self ..)
      have hb := (h b).mpr (List.mem_cons_self ..)
      rcases List.mem_cons.mp ha with e | e
      · exact e
      · rcases List.mem_cons.mp hb with e' | e'
        · exact e'.symm
        · have := h1.1 b e'
          have := h2.1 a e
          omega
    subst hab
    rw [lt_perm h1.2 h2.2 fun x => ?_]
    constructor
    · intro hx
      have := h1.1 x hx
      rcases List.mem_cons.mp ((h x).mp (List.mem_cons_of_mem _ hx)) with e | e
      · omega
      · exact e
    · intro hx
      have := h2.1 x hx
      rcases List.mem_cons.mp ((h x).mpr (List.mem_cons_of_mem _ hx)) with e | e
      · omega
      · exact e
theorem L_sortDI {H : Hp} {Q : VK} {a : Addr} {kvs : List (Key × V)} {g : Int → Int} {n : Nat} (hn : n < 64) (h : H a = some (.dK kvs)) (hg : DGr kvs g) (hb : ∀ f, g f ≠ 0 → 0 ≤ f ∧ f < n) (q : ∀ p, H p = none → Q (.ref p) (upd H p (.lst ((keysOf n g).map V.int)))) : rSortDI [.ref a] H Q := by
  obtain ⟨ks, h1, h2, h3, h4⟩ := hg
  have key : ∀ ys : List Int, ys.Perm ks → ys.Pairwise (· ≤ ·) → ys = keysOf n g := fun ys hp hs => by
    refine lt_perm ?_ ((upN_lt n).filter _) fun x => ?_
    · have nd := hp.nodup_iff.mpr h2
      exact (hs.and nd).imp fun ⟨h1, h2⟩ => by omega
    · rw [hp.mem_iff, h3]
      unfold keysOf
      rw [List.mem_filter, upN_mem, decide_eq_true_eq]
      exact ⟨fun z => ⟨hb x z, z⟩, fun z => z.2⟩
  refine ⟨a, kvs, ks, rfl, .inl h, h1, ?_, fun ys p hp hs hf => ?_⟩
  · have : ks.Perm (keysOf n g) := (List.perm_ext_iff_of_nodup h2 ((upN_lt n).imp (fun h => by omega) |>.filter _)).mpr fun x => by
      rw [h3]
      rw [List.mem_filter, upN_mem, decide_eq_true_eq]
      exact ⟨fun z => ⟨hb x z, z⟩, fun z => z.2⟩
    rw [this.length_eq]
    refine Nat.lt_of_le_of_lt (List.length_filter_le ..) ?_
    unfold upN
    rw [List.length_map, List.length_range]
    exact hn
  · rw [key ys hp hs]
    exact q p hf
theorem L_dget2 {σ : L2.St} {H : Hp} {Q : VK} {td ty tx : TE} (h : td σ H fun x H1 => ∃ a, x = .ref a ∧ IsD H1 a ∧ ty σ H1 fun y H2 => tx σ H2 fun z H3 => ∃ o, DGet H3 a y o ∧ Q (o.getD z) H3) : tDGet2 td ty tx σ H Q := h
theorem isD_at' {H : Hp} {a : Addr} {kvs : List (Key × V)} (h : H a = some (.dK kvs)) : IsD H a := .inl ⟨kvs, .inl h⟩
/-! ### a chain of three comparisons -/
def tChain3 (r r' r'' : R2) (ta tb tc td : TE) : TE := fun σ H Q => ta σ H fun x H1 => tb σ H1 fun y H2 => r x y H2 fun z H3 => ∃ k, z = .bl k ∧
  (if k = true then tc σ H3 fun w' H4 => r' y w' H4 fun z2 H5 => ∃ k2, z2 = .bl k2 ∧ (if k2 = true then td σ H5 fun u' H6 => r'' w' u' H6 Q else Q (.bl false) H5) else Q (.bl false) H3)
section
variable {X : Cx} {a b c d : Expr} {ta tb tc td : TE} {pos : Pos}
theorem pe_chain3 {op op' op'' : CmpOp} {r r' r'' : R2} (ho : OpR X (compareOp op) r) (ho' : OpR X (compareOp op') r') (ho'' : OpR X (compareOp op'') r'') (ha : PE X a ta) (hb : PE X b tb) (hc : PE X c tc) (hd : PE X d td)
    (hm : lastMarks [op, op', op''] [b, c, d] = false := by with_unfolding_all rfl) : PE X (.Compare a [op, op', op''] [b, c, d] pos) (tChain3 r r' r'' ta tb tc td) := by
  refine ⟨fun pins s σ H Q I h => ?_⟩
  refine Compare_chain (thn (ha.run pins s σ H _ I h) fun v s1 ⟨x, H1, I1, r1, q1⟩ => chain_link (thn (hb.run pins s1 σ H1 _ I1 q1) fun u s2 ⟨y, H2, I2, r2, q2⟩ =>
    thn (ho pins s2 σ H2 x y v u _ I2 r1 r2 q2) fun d s3 ⟨z, H3, I3, r3, k, e, q3⟩ => ?_)) hm
  subst e
  cases r3
  refine wpAny_truthy_bool ?_
  cases k with
  | false => exact ite_ff ⟨.bl false, H3, I3, rfl, q3⟩
  | true =>
    refine ite_tt (chain_link (thn (hc.run pins s3 σ H3 _ I3 q3) fun w' s4 ⟨z', H4, I4, r4, q4⟩ => thn (ho' pins s4 σ H4 y z' u w' _ I4 r2 r4 q4) fun d2 s5 ⟨z2, H5, I5, r5, k2, e2, q5⟩ => ?_))
    subst e2
    cases r5
    refine wpAny_truthy_bool ?_
    cases k2 with
    | false => exact ite_ff ⟨.bl false, H5, I5, rfl, q5⟩
    | true => exact ite_tt (chain_last (thn (hd.run pins s5 σ H5 _ I5 q5) fun u' s6 ⟨z3, H6, I6, r6, q6⟩ => ho'' pins s6 σ H6 z' z3 w' u' Q I6 r4 r6 q6))
theorem L_chain3 {r r' r'' : R2} {σ : L2.St} {H : Hp} {Q : VK} (h : ta σ H fun x H1 => tb σ H1 fun y H2 => r x y H2 fun z H3 => ∃ k, z = .bl k ∧
  (if k = true then tc σ H3 fun w' H4 => r' y w' H4 fun z2 H5 => ∃ k2, z2 = .bl k2 ∧ (if k2 = true then td σ H5 fun u' H6 => r'' w' u' H6 Q else Q (.bl false) H5) else Q (.bl false) H3)) : tChain3 r r' r'' ta tb tc td σ H Q := h
end
/-- the chain's test, as a value's -/
theorem L_catA {K : PySem.W.Frag} {H : Hp} {a b : Addr} {xs ys : List V} {Q : VK} (h1 : SqT K H a xs) (h2 : SqT K H b ys) (n1 : xs ≠ []) (n2 : ys ≠ []) (hl : xs.length + ys.length ≤ sizeLine) (q : ∀ p, H p = none → Q (.ref p) (upd H p (.tup (xs ++ ys)))) : aAdd K (.ref a) (.ref b) H Q :=
  .inr (.inr (.inr ⟨a, b, xs, ys, rfl, rfl, h1, h2, hl, fun e => absurd e n1, fun _ e => absurd e n2, fun _ _ => q⟩))
/-! ### several except clauses, some of them with a name -/
abbrev HdA := Value × Option Nat × (Addr → Value → Option Addr → TS)
def wManyA (K : PySem.W.Frag) (Wout : WX) (D : Ends) : List HdA → WX
  | [] => Wout
  | (c, none, ts) :: r => fun cls d σ H => ∃ b, PySem.W.exmOne K cls c = some b ∧ (b = true → ∀ a, H a = none → ts a cls d D σ H) ∧ (b = false → wManyA K Wout D r cls d σ H)
  | (c, some i, ts) :: r => fun cls d σ H => ∃ b, PySem.W.exmOne K cls c = some b ∧
    (b = true → ∀ a, H a = none → ts a cls d ⟨fun σ' H' => H' a = none → D.nx (σ'.set i none) (upd H' a (ExI cls d a)), D.rt, fun σ' H' => D.bk (σ'.set i none) H', fun σ' H' => D.ct (σ'.set i none) H'⟩ (σ.set i (some (.ref a))) H) ∧
    (b = false → wManyA K Wout D r cls d σ H)
inductive HdsA (X : Cx) : List ExceptHandler → List HdA → Prop
  | nil : HdsA X [] []
  | cons {x : Str} {c : Value} {ts : Addr → Value → Option Addr → TS} {b₀ : Stmt} {suite : List Stmt} {np pos' : Pos} {hds : List ExceptHandler} {l : List HdA} (hc : Names X x c)
      (hsu : ∀ (a : Addr) (oe : Obj) (cls : Value) (d : Option Addr) (pn : List (Addr × Obj)), Zc cls d oe → (∃ vs, oe.data = .fields vs) → PSs (X.suite a ((a, oe) :: pn)) (b₀ :: suite) (ts a cls d)) (r : HdsA X hds l) :
      HdsA X (.ExceptHandler (some (.Name x np)) none (b₀ :: suite) pos' :: hds) ((c, none, ts) :: l)
  | consA {x n : Str} {c : Value} {i : Nat} {ts : Addr → Value → Option Addr → TS} {b₀ : Stmt} {suite : List Stmt} {np pos' : Pos} {hds : List ExceptHandler} {l : List HdA} (hi : X.N[i]? = some n) (hln : X.env.kindOf n = some .local) (hc : Names X x c)
      (hsu : ∀ (a : Addr) (oe : Obj) (cls : Value) (d : Option Addr) (pn : List (Addr × Obj)), Zc cls d oe → (∃ vs, oe.data = .fields vs) → PSs (X.suite a ((a, oe) :: pn)) (b₀ :: suite) (ts a cls d)) (r : HdsA X hds l) :
      HdsA X (.ExceptHandler (some (.Name x np)) (some n) (b₀ :: suite) pos' :: hds) ((c, some i, ts) :: l)
section
variable {X : Cx} {body : List Stmt} {h₀ : ExceptHandler} {hds : List ExceptHandler} {l : List HdA} {pos : Pos} {tb : WX → TS} {Wout : WX}
theorem ps_try_manyA (hs : X.stack = X.env :: X.outer) (hf : X.env.frame = some X.env.locals) (hN : X.N.Nodup) (hex : X.ex = []) (tk : Takes X Wout)
    (hb : ∀ (W : WX) (pn : List (Addr × Obj)) (xe : Value → Shared → Prop), Takes (X.tr pn xe) W → PassesOwn (model X.prog X.w) X.A X.env xe → PSs (X.tr pn xe) body (tb W))
    (hh : HdsA X (h₀ :: hds) l) : PS X (.Try body (h₀ :: hds) [] [] pos) (fun D σ H => tb (wManyA X.K Wout D l) D σ H) := by
  constructor
  intro pins s0 σ0 H0 D I0 start
  have okX := I0.ok
  have frames : X.A.frames = some (X.env :: X.outer) := by
    rw [okX.frames, hs]
  apply wpAny_Try_except
  let look : Value → Shared → Prop := fun e t1 => wpAny (model X.prog X.w) X.A (noteFrame e X.env) (fun _ t2 => wpAny (model X.prog X.w) X.A (setFlight e none)
    (fun _ t3 => wpAny (model X.prog X.w) X.A (handleBy e X.env (h₀ :: hds)) (SP X pins D) X.xe t3) X.xe t2) X.xe t1
  have caught : Takes (X.tr (X.pn ++ pins) look) (wManyA X.K Wout D l) := by
    intro u s' air
    obtain ⟨a, B, sI, pins', σ', H', cls, d, rfl, K', nb, up, sky, na, os, ag, w⟩ := air
    have K0 : Inv X pins σ' H' sI := K'.ofTry okX
    have sky1 : Sky B (X.env :: X.outer) a (Zc cls d) X.env.locals s'.heap := hs ▸ sky
    show wpAny (model X.prog X.w) X.A (noteFrame (.ref a) X.env) _ _ _
    apply Sky.land Zc.steady frames hf sky1
    intro h3 fl3 up3
    have J3 : Inv X pins σ' H' { s' with heap := h3 } := K0.landed nb fl3.1 (up.trans up3) os ag
    obtain ⟨oe3, vs3, at3, z3, data3⟩ := fl3.there
    have offFrames : a ∉ frs (X.env :: X.outer) := fun hm => by
      obtain ⟨_, o', there', hnf⟩ := fl3.2.2.1.mem hm
      rw [at3] at there'
      cases there'
      exact hnf _ data3
    have nL : a ≠ X.env.locals := fun e => offFrames (List.mem_filterMap.mpr ⟨X.env, List.mem_cons_self, by rw [hf, e]⟩)
    have nF : a ∉ X.fs := fun hm => by
      obtain ⟨e, he, q⟩ := List.mem_filterMap.mp hm
      exact offFrames (List.mem_filterMap.mpr ⟨e, List.mem_cons_of_mem _ he, q⟩)
    -- a is new: it stood neither at the try's entry nor at the def's
    have newB : B.get? a = none := fl3.2.1
    have newI : sI.heap.get? a = none := by
      cases q : sI.heap.get? a with
      | none => rfl
      | some o =>
        have := nb a o q (by rw [hs]; exact offFrames)
        rw [newB] at this
        cases this
    have new0 : X.s_0.heap.get? a = none := by
      cases q : X.s_0.heap.get? a with
      | none => rfl
      | some o =>
        obtain ⟨o', q'⟩ := K0.base.there a o q (by rw [hex]; exact List.not_mem_nil)
        rw [newI] at q'
        cases q'
    have apart : ∀ p ∈ X.pn ++ pins, p.1 ≠ a := fun p hp e => by
      have := (K0.pin p hp).1
      rw [e, newI] at this
      cases this
    have S3 := J3.suite at3 data3 na nL nF
    have go : ∀ {hds' : List ExceptHandler} {l' : List HdA}, HdsA X hds' l' → wManyA X.K Wout D l' cls d σ' H' →
        wpAny (model X.prog X.w) X.A (handleBy (.ref a) X.env hds') (SP X pins D) X.xe { s' with heap := h3 } := by
      intro hds' l' hk
      induction hk with
      | nil =>
        intro no
        apply wpAny_handleBy_nil
        obtain ⟨_, _, _, oe, vs, T, oT, ts', he, hz, hd, h1, hr⟩ := id fl3
        unfold PySem.passOn
        refine wpAny_bind (wpAny_field he hd h1 ?_)
        rw [if_neg (show ¬ ((Value.ref T == Value.none) = true) from by simp)]
        have on : wpAny (model X.prog X.w) X.A (setFlight (.ref a) X.env.frame) (fun _ s4 => wpAny (model X.prog X.w) X.A (throw (.ref a) : Sem Flow) (SP X pins D) X.xe s4) X.xe { s' with heap := h3 } := by
          rw [hf]
          apply HandSPX.setFlight_upZ fl3
          intro h4 held4 up4
          apply wpAny_throw
          apply tk
          exact ⟨a, B, sI, pins, σ', H', cls, d, rfl, K0, nb, (up.trans up3).trans up4, .inr (.inr (by rw [hs]; exact held4)), na, os, ag, no⟩
        first
          | exact wpAny_bind (wpAny_pure (wpAny_bind on))
          | exact wpAny_bind on

      | @cons x c ts b₀ suite np pos' hds2 l2 hc hsu r ih =>
        intro w
        obtain ⟨b, exm, yes, no⟩ := w
        refine wpAny_handleBy_cons (codeAny_handlers_test ?_) (by intro q; cases q)
        have tyA : PySem.W.Looks (model X.prog X.w) h3 (typeOf (.ref a)) cls := fun A Q E t k q => wpAny_typeOf_ref (k _ _ at3) (by rw [z3.1]; exact q)
        have matched := PySem.W.exm_one (M := model X.prog X.w) (J3.kIn) tyA exm
        have named : ∀ {Q : Value → Shared → Prop} {E : Value → Shared → Prop}, Q c { s' with heap := h3 } → wpAny (model X.prog X.w) (X.A.mark (some (.ref a))) (eval (.Name x np) X.env) Q E { s' with heap := h3 } := by
          intro Q E q
          obtain ⟨hg, hdbg, hm⟩ := hc
          rcases hm with hm | ⟨hm, hv, hnn⟩
          · exact ld_glob (X := X.suite a ((a, oe3) :: (X.pn ++ pins))) S3 hg hm q hdbg
          · exact ld_blt (X := X.suite a ((a, oe3) :: (X.pn ++ pins))) S3 hg hm hv q hnn hdbg
        apply named
        apply matched.here
        cases b with
        | true =>
          refine codeAny_handlers_suite ?_
          refine HandSPX.lands_againZ fl3 fun h4 fl4 up4 => ?_
          have J4 : Inv X pins σ' H' { s' with heap := h4 } := K0.landed nb fl4.1 ((up.trans up3).trans up4) os ag
          obtain ⟨oe4, vs4, he4, hz4, hd4⟩ := fl4.there
          have S4 := J4.suite he4 hd4 na nL nF
          refine wpAny_mono ((hsu a oe4 cls d (X.pn ++ pins) hz4 ⟨_, hd4⟩).run [] _ _ H' _ S4 (yes rfl a na)) (fun f s6 hsp => ?_) (fun _ _ z => False.elim z)
          cases f with
          | next =>
            obtain ⟨σ6, H6, S6, q6⟩ := hsp
            exact ⟨_, _, S6.unsuite okX, q6⟩
          | brk =>
            obtain ⟨σ6, H6, S6, q6⟩ := hsp
            exact ⟨_, _, S6.unsuite okX, q6⟩
          | cont =>
            obtain ⟨σ6, H6, S6, q6⟩ := hsp
            exact ⟨_, _, S6.unsuite okX, q6⟩
          | ret u =>
            obtain ⟨v6, σ6, H6, S6, r6, q6⟩ := hsp
            exact ⟨_, _, _, S6.unsuite okX, r6, q6⟩
        | false =>
          show wpAny _ X.A (handleBy (.ref a) X.env hds2) _ _ _
          exact ih (no rfl)
      | @consA x n c i ts b₀ suite np pos' hds2 l2 hi hln hc hsu r ih =>
        intro w
        obtain ⟨b, exm, yes, no⟩ := w
        refine wpAny_handleBy_cons (codeAny_handlers_test ?_) (by intro q; cases q)
        have tyA : PySem.W.Looks (model X.prog X.w) h3 (typeOf (.ref a)) cls := fun A Q E t k q => wpAny_typeOf_ref (k _ _ at3) (by rw [z3.1]; exact q)
        have matched := PySem.W.exm_one (M := model X.prog X.w) (J3.kIn) tyA exm
        have named : ∀ {Q : Value → Shared → Prop} {E : Value → Shared → Prop}, Q c { s' with heap := h3 } → wpAny (model X.prog X.w) (X.A.mark (some (.ref a))) (eval (.Name x np) X.env) Q E { s' with heap := h3 } := by
          intro Q E q
          obtain ⟨hg, hdbg, hm⟩ := hc
          rcases hm with hm | ⟨hm, hv, hnn⟩
          · exact ld_glob (X := X.suite a ((a, oe3) :: (X.pn ++ pins))) S3 hg hm q hdbg
          · exact ld_blt (X := X.suite a ((a, oe3) :: (X.pn ++ pins))) S3 hg hm hv q hnn hdbg
        apply named
        apply matched.here
        cases b with
        | true =>
          apply codeAny_handlers_suite_as
          apply HandSPX.lands_againZ fl3
          intro h4 fl4 up4
          have J4 : Inv X pins σ' H' { s' with heap := h4 } := K0.landed nb fl4.1 ((up.trans up3).trans up4) os ag
          obtain ⟨oe4, vs4, at4, z4, data4⟩ := fl4.there
          have S4 := J4.suite at4 data4 na nL nF
          refine store_ok (X := X.suite a ((a, oe4) :: (X.pn ++ pins))) (v := .ref a) S4 hN hi (.inl hln) rfl (fun s5 S5 => ?_) (.inr hln)
          refine wpAny_mono ((hsu a oe4 cls d (X.pn ++ pins) z4 ⟨_, data4⟩).run [] s5 _ H' _ S5 (yes rfl a na)) (fun f s6 hsp => ?_) (fun _ _ z => z.elim)
          -- out of the suite, the exception still pinned
          have out : ∀ {σ6 : L2.St} {H6 : Hp} {Q : Shared → Prop}, Inv (X.suite a ((a, oe4) :: (X.pn ++ pins))) [] σ6 H6 s6 → (∀ s7, Inv X pins (σ6.set i none) H6 s7 → H6 a = none → s7.heap.get? a = some oe4 → Q s7) →
              wpAny (model X.prog X.w) X.A (do bindName X.env n .none; unbindBehindTheSuite X.env n pos') (fun _ s7 => Q s7) X.xe s6 := fun {σ6 H6 Q} S6 hq => by
            have P6 : Inv X ((a, oe4) :: pins) σ6 H6 s6 := { S6.unsuite okX with
              pin := fun p hp => S6.pin p (by
                rcases List.mem_append.mp hp with hp | hp
                · exact List.mem_append_left _ (List.mem_cons_of_mem _ (List.mem_append_left _ hp))
                · rcases List.mem_cons.mp hp with e | hp
                  · rw [e]; exact List.mem_append_left _ List.mem_cons_self
                  · exact List.mem_append_left _ (List.mem_cons_of_mem _ (List.mem_append_right _ hp))) }
            refine gone_ok P6 hN hi hln fun s7 P7 => ?_
            have pinned := P7.pin (a, oe4) (List.mem_append_right _ List.mem_cons_self)
            refine hq s7 { P7 with pin := fun p hp => P7.pin p ?_ } pinned.2.1 pinned.1
            rcases List.mem_append.mp hp with hp | hp
            · exact List.mem_append_left _ hp
            · exact List.mem_append_right _ (List.mem_cons_of_mem _ hp)
          match f, hsp with
          | .next, ⟨σ6, H6, S6, q6⟩ => exact out S6 fun s7 J7 n6 a6 => ⟨_, _, track J7 n6 a6 z4 data4 new0 nL apart, q6 n6⟩
          | .brk, ⟨σ6, H6, S6, q6⟩ => exact out S6 fun s7 J7 _ _ => ⟨_, _, J7, q6⟩
          | .cont, ⟨σ6, H6, S6, q6⟩ => exact out S6 fun s7 J7 _ _ => ⟨_, _, J7, q6⟩
          | .ret u, ⟨v6, σ6, H6, S6, r6, q6⟩ => exact out S6 fun s7 J7 _ _ => ⟨_, _, _, J7, r6, q6⟩
        | false =>
          show wpAny _ X.A (handleBy (.ref a) X.env hds2) _ _ _
          exact ih (no rfl)
    exact go hh w
  refine wpAny_mono ((hb (wManyA X.K Wout D l) (X.pn ++ pins) look caught PassesOwn.looking).run [] s0 σ0 H0 D (I0.toTry _) start) (fun f s1 hsp => ?_) (fun e s1 he => he)
  match f, hsp with
  | .next, ⟨σ1, H1, J1, q⟩ => exact wpAny_execs_nil ⟨σ1, H1, J1.ofTry okX, q⟩
  | .brk, ⟨σ1, H1, J1, q⟩ => exact ⟨σ1, H1, J1.ofTry okX, q⟩
  | .cont, ⟨σ1, H1, J1, q⟩ => exact ⟨σ1, H1, J1.ofTry okX, q⟩
  | .ret u, ⟨v, σ1, H1, J1, r, q⟩ => exact ⟨v, σ1, H1, J1.ofTry okX, r, q⟩
end
theorem L_many {K : PySem.W.Frag} {H : Hp} {c : Value} {ts : Addr → Value → Option Addr → TS} {r : List HdA} {Wout : WX} {D : Ends} {σ : L2.St} {cls : Value} {d : Option Addr} (h : PySem.W.exmOne K cls c = some true)
    (q : ∀ a, H a = none → ts a cls d D σ H) : wManyA K Wout D ((c, none, ts) :: r) cls d σ H := ⟨true, h, fun _ => q, fun z => nomatch z⟩
theorem L_manyA {K : PySem.W.Frag} {H : Hp} {c : Value} {i : Nat} {ts : Addr → Value → Option Addr → TS} {r : List HdA} {Wout : WX} {D : Ends} {σ : L2.St} {cls : Value} {d : Option Addr} (h : PySem.W.exmOne K cls c = some true)
    (q : ∀ a, H a = none → ts a cls d ⟨fun σ' H' => H' a = none → D.nx (σ'.set i none) (upd H' a (ExI cls d a)), D.rt, fun σ' H' => D.bk (σ'.set i none) H', fun σ' H' => D.ct (σ'.set i none) H'⟩ (σ.set i (some (.ref a))) H) : wManyA K Wout D ((c, some i, ts) :: r) cls d σ H := ⟨true, h, fun _ => q, fun z => nomatch z⟩
theorem L_manyN {K : PySem.W.Frag} {H : Hp} {c : Value} {ts : Addr → Value → Option Addr → TS} {r : List HdA} {Wout : WX} {D : Ends} {σ : L2.St} {cls : Value} {d : Option Addr} (h : PySem.W.exmOne K cls c = some false)
    (q : wManyA K Wout D r cls d σ H) : wManyA K Wout D ((c, none, ts) :: r) cls d σ H := ⟨false, h, (fun z => nomatch z), fun _ => q⟩
/-! ### a != b of two lists of the same objects; xs[i] op= e; any of ints -/
def rNeRefs (K : PySem.W.Frag) : R2 := fun x y H Q => ∃ (a b : Addr) (os : List Addr), x = .ref a ∧ y = .ref b ∧ SqL K H a (os.map V.ref) ∧ SqL K H b (os.map V.ref) ∧ Q (.bl false) H
theorem vals_refs : ∀ {os : List Addr} {us : List Value}, Vals (os.map V.ref) us → us = os.map Value.ref
  | [], _, r => by cases r; rfl
  | o :: os, _, r => by
    cases r with
    | cons h t =>
      rw [show _ = Value.ref o from h, vals_refs t]
      rfl
theorem op_neRefs {X : Cx} (hu : X.A.units < cLine) : OpR X (compareOp .NotEq) (rNeRefs X.K) := by
  intro pins s σ H x y v u Q I rx ry h
  obtain ⟨a, b, os, rfl, rfl, ha, hb, q⟩ := h
  cases (show v = Value.ref a from rx)
  cases (show u = Value.ref b from ry)
  obtain ⟨us, r1, p1, _⟩ := I.list ha
  obtain ⟨ws, r2, p2, _⟩ := I.list hb
  obtain rfl := vals_refs r1
  obtain rfl := vals_refs r2
  refine SeqAt.RcNeAt.lists (e := fun _ => true) p1.isList p2.isList rfl hu (fun j h1 h2 => SeqAt.EqAt.same _) X.prog X.w _ _ ?_
  exact ⟨.bl false, H, I, by
    show Value.bool _ = Value.bool _
    rw [show ((List.range _).all fun _ => true) = true from List.all_eq_true.mpr fun _ _ => rfl]
    rfl, q⟩
def rGetL (K : PySem.W.Frag) : V → V → Hp → VK → Prop := fun o i H Q => ∃ (p : Addr) (xs : List V) (k : Int) (v : V), o = .ref p ∧ i = .int k ∧ SqL K H p xs ∧ 0 ≤ k ∧ xs[k.toNat]? = some v ∧ Q v H
theorem pget_list {X : Cx} : PGet X (rGetL X.K) := by
  intro pins s σ H o i ov iv Q I ro ri h
  obtain ⟨p, xs, k, v, rfl, rfl, hL, h0, hv, q⟩ := h
  cases (show ov = Value.ref p from ro)
  obtain ⟨t, rfl⟩ := ri
  obtain ⟨its, r, pl, hz⟩ := I.list hL
  obtain ⟨u, eu, ru⟩ := r.get hv
  have hl := r.length
  have hn := line63
  have lt := (List.getElem?_eq_some_iff.mp hv).1
  exact wpAny_getItem_list pl.isList h0 (by omega) (by simpa using eu) ⟨v, H, I, ru, q⟩
theorem L_augS {σ : L2.St} {H : Hp} {to ti te : TE} {tget : V → V → Hp → VK → Prop} {tip : TIp} {tset : TSet} {N B C : L2.St → Hp → Prop} {R : VK} (h : to σ H fun o H1 => ti σ H1 fun i H2 => tget o i H2 fun x H3 => te σ H3 fun y H4 => tip x y H4 fun z H5 => tset o i z H5 fun H6 => N σ H6) : tAugS to ti te tget tip tset ⟨N, R, B, C⟩ σ H := h
theorem L_getL {K : PySem.W.Frag} {H : Hp} {Q : VK} {p : Addr} {xs : List V} {k : Int} {v : V} (h : SqL K H p xs) (h0 : 0 ≤ k) (hv : xs[k.toNat]? = some v) (q : Q v H) : rGetL K (.ref p) (.int k) H Q := ⟨p, xs, k, v, rfl, rfl, h, h0, hv, q⟩
theorem truth_of_ints {prog : Program} {w : World} {A : Around} {ns : List Int} {its : List Value} (e : IntsAre its ns) :
    TruthOf prog w A (fun i v => its.toArray[i]? = some v) (fun i => ns.getD i 0 != 0) := fun i v s Q E hv hq => by
  have hv' : its[i]? = some v := by simpa using hv
  obtain ⟨tk, e2⟩ := PyProof.Rows.IntsAre.int_at e i v hv'
  rw [e2]
  exact truthy_int hq
theorem any_ints : ∀ ns : List Int, (List.range ns.length).any (fun i => ns.getD i 0 != 0) = ns.any (· != 0)
  | [] => rfl
  | n :: ns => by
    have ih := any_ints ns
    rw [List.length_cons, List.range_succ_eq_map, List.any_cons, List.any_map, List.any_cons, ← ih]
    rfl
def rAnyI (K : PySem.W.Frag) : List V → Hp → VK → Prop := fun vs H Q => ∃ (a : Addr) (ns : List Int), vs = [.ref a] ∧ SqL K H a (ns.map V.int) ∧ Q (.bl (ns.any (· != 0))) H
theorem cr_anyI {X : Cx} (calm : X.calm = true) : CallR X (.builtin "any") (rAnyI X.K) := by
  intro pins s σ H vs us Q I r h
  obtain ⟨a, ns, rfl, hL, q⟩ := h
  obtain ⟨its, rv, pl, _⟩ := I.list hL
  have few := rv.length
  rw [Vals.ref1 r]
  apply call_any_walk
  apply iter_any pl.isList
  intro s2 e2 st apart
  subst e2
  refine ⟨_, _, _, _, _, _, _, rfl, Walks.list (A := X.A.in1) (I.ok.hd calm) _ a apart its.toArray, st, truth_of_ints (intsAre_of rv), fun g tk k => ?_⟩
  refine ⟨.bl _, H, I.kept fun b o eo => k b o ?_ (Heap.get?_push_of_some _ eo), ?_, q⟩
  · intro hm
    rw [List.mem_singleton] at hm
    exact absurd (hm ▸ Heap.lt_size eo) (Nat.lt_irrefl _)
  · change Value.bool _ = Value.bool _
    rw [← any_ints, List.size_toArray, ← few, List.length_map]
/-! ### for k in d -/
theorem L_lock {t : TS} {N B C : L2.St → Hp → Prop} {R : VK} {σ : L2.St} {H : Hp} (h : ∃ d u, H d = some u ∧ Mut (some u) ∧ ∀ od, t ⟨fun σ' H' => H' d = some (.frz od u) ∧ N σ' (upd H' d u), fun v H' => H' d = some (.frz od u) ∧ R v (upd H' d u), fun σ' H' => H' d = some (.frz od u) ∧ B σ' (upd H' d u), fun σ' H' => H' d = some (.frz od u) ∧ C σ' (upd H' d u)⟩ σ (upd H d (.frz od u))) : tLock t ⟨N, R, B, C⟩ σ H := h
theorem L_iKeys {td : TE} {σ : L2.St} {H : Hp} {R : It → Hp → Prop} (h : td σ H fun x H1 => ∃ d o, x = .ref d ∧ ((∃ kvs, H1 d = some (.frz o (.dK kvs)) ∧ R (Itk d o kvs) H1) ∨ ∃ kvs, H1 d = some (.frz o (.dT kvs)) ∧ R (Itkt d o kvs) H1)) : iKeys td σ H R := h
theorem L_rk {H : Hp} {d : Addr} {o : Obj} {kvs : List (Key × V)} {R : Addr → Obj → List (Key × V) → Prop} {R2 : Addr → Obj → Prop} (h : H d = some (.frz o (.dK kvs))) (q : R d o kvs) : ∃ d' o', V.ref d = .ref d' ∧ ((∃ kvs, H d' = some (.frz o' (.dK kvs)) ∧ R d' o' kvs) ∨ R2 d' o') := ⟨d, o, rfl, .inl ⟨kvs, h, q⟩⟩
theorem same_lock {H H' : Hp} {d : Addr} {u : HO} {od : Obj} (h : H d = some u) (s : Same (upd H d (.frz od u)) H') : Same H (upd H' d u) := fun b o e => by
  by_cases n : b = d
  · rw [n, h] at e
    cases e
    rw [n]
    exact upd_same
  · rw [upd_ne n]
    exact s _ _ (by rw [upd_ne n]; exact e)
/-- where a recursion ends: nothing is promised -/
theorem DefAt.calF {P : Program} {w : World} {K : PySem.W.Frag} {mg : Str → Option Value} {base : Heap} {x : Str} {st : Stmt} {ps : List Str} {k : Nat} (d : DefAt K mg x st ps) : Cal P w K mg base k x (fun _ _ _ _ => False) := by
  obtain ⟨f, fd, F, hm, b⟩ := d.ex
  exact ⟨f, fd, ps, ⟨fun _ _ _ _ h => h.elim, fun _ _ _ _ _ _ _ _ _ _ _ _ _ h => h.elim⟩, hm, F.kp, b⟩
end Kt

set_option Elab.async false
set_option linter.all false
set_option maxRecDepth 100000
set_option maxHeartbeats 4000000
/-! Grp: defs and methods that call each other, by depth: the ends, where nothing is promised -/
namespace Kt
open PySem PySem.Spec PyProof.Rows L2
section
variable {P : Program} {w : World} {K : PySem.W.Frag} {mg : Str → Option Value} {base : Heap}
abbrev SpF : Sp := fun _ _ _ _ => False
theorem DefAt.cal0' {x : Str} {st : Stmt} {ps : List Str} {k : Nat} (d : DefAt K mg x st ps) : Cal P w K mg base k x SpF := by
  obtain ⟨f, fd, F, hm, b⟩ := d.ex
  exact ⟨f, fd, ps, ⟨fun _ _ _ _ h => h.elim, fun _ _ _ _ _ _ _ _ _ _ _ _ _ h => h.elim⟩, hm, F.kp, b⟩
theorem DefAt.calX0' {x : Str} {st : Stmt} {ps : List Str} {k : Nat} (d : DefAt K mg x st ps) : CalX P w K mg base k x SpF := by
  obtain ⟨f, fd, F, hm, b⟩ := d.ex
  exact ⟨f, fd, ps, ⟨fun _ _ _ _ h => h.elim, fun _ _ _ _ _ _ _ _ _ _ _ _ _ h => h.elim⟩, hm, F.kp, b⟩
theorem MethAt.met0' {C : Addr} {m qual : Str} {st : Stmt} {ps : List Str} {k : Nat} (c : Cls K C) (d : MethAt K C m qual st ps) : Met P w K mg base k C m SpF := by
  obtain ⟨f, fd, F, hm, b⟩ := d.ex
  exact ⟨f, fd, ps, c, hm, ⟨fun _ _ _ _ h => h.elim, fun _ _ _ _ _ _ _ _ _ _ _ _ _ h => h.elim⟩, b⟩
theorem MethAt.metX0' {C : Addr} {m qual : Str} {st : Stmt} {ps : List Str} {k : Nat} (c : Cls K C) (d : MethAt K C m qual st ps) : MetX P w K mg base k C m SpF := by
  obtain ⟨f, fd, F, hm, b⟩ := d.ex
  exact ⟨f, fd, ps, c, hm, ⟨fun _ _ _ _ h => h.elim, fun _ _ _ _ _ _ _ _ _ _ _ _ _ h => h.elim⟩, b⟩
end
end Kt
set_option Elab.async false
set_option linter.all false
set_option maxRecDepth 100000
set_option maxHeartbeats 4000000
namespace My
open PySem PySem.Spec PyProof.Rows L2 Kt
/-! one step of a reading; a look at the heap -/
local macro_rules | `(tactic| walk_at "hp") => `(tactic| first
  | assumption
  | exact upd_same
  | (with_reducible apply hp_from; assumption; walk_at "sm"))
local macro_rules | `(tactic| walk_at "hpL") => `(tactic| first | assumption | (with_reducible apply hpL; walk_at "hp"))
local macro_rules | `(tactic| walk_at "hpT") => `(tactic| first | assumption | (with_reducible apply hpT; walk_at "hp"))
local macro_rules | `(tactic| walk_at "st1") => `(tactic| with_reducible first
  | refine L_var rfl ?_
  | refine L_cons ?_
  | refine L_nil ?_
  | refine L_c ?_
  | refine L_op ?_
  | refine L_seq ?_
  | refine L_asg ?_
  | (refine G_gn ?_; refine L_gnameE (by dsimp only [L2.wipe, List.foldl, List.set] <;> rfl) ?_)
  | refine L_k ?_
  | refine L_I0 ?_
  | refine L_addI ?_
  | refine L_tTest ?_
  | refine L_ifS ?_
  | refine L_next ?_
  | refine L_call ?_
  | refine L_callS ?_
  | refine L_T ?_
  | refine L_F ?_
  | refine L_nT ?_
  | refine L_nF ?_
  | refine L_cb ?_
  | refine L_ret ?_
  | refine L_eqI ?_
  | refine L_neI ?_
  | refine L_leI ?_
  | refine L_ltI ?_
  | refine L_or ?_
  | refine L_and ?_
  | refine L_not ?_
  | refine L_tB ?_
  | refine L_drop ?_
  | refine L_bm ?_
  | refine L_tup ?_
  | refine L_lst ?_
  | refine L_fld ?_
  | refine L_chain ?_
  | refine L_chain3 ?_
  | refine L_gname ?_
  | refine L_eqS ?_
  | refine L_neS ?_
  | refine L_eqB ?_
  | refine L_leS ?_
  | refine L_isN ?_
  | refine L_notN ?_
  | refine L_inC ?_
  | refine L_notInC ?_
  | refine L_un ?_
  | refine L_rU ?_
  | refine L_andV ?_
  | refine L_orV ?_
  | refine L_notV ?_
  | refine L_par ?_
  | refine L_par3 ?_
  | refine L_vs2 ?_
  | refine L_vs3 ?_
  | refine L_aug rfl ?_
  | refine L_augS ?_
  | refine L_ipI ?_
  | refine L_retN ?_
  | refine L_brk ?_
  | refine L_cont ?_
  | refine L_tru ?_
  | refine L_truB ?_
  | refine L_truI ?_
  | refine L_abs ?_
  | refine L_max2 ?_
  | refine L_min2 ?_
  | refine L_int1 ?_
  | refine L_int1B ?_
  | refine L_for ?_
  | refine L_iRng1 ?_
  | refine L_iRng2 ?_
  | refine L_iList ?_
  | refine L_iTup ?_
  | refine L_yes ?_
  | refine L_iZip ?_
  | refine L_iEnum ?_
  | refine L_iStr ?_
  | refine L_iRng3 ?_
  | refine L_lc ?_
  | refine L_make ?_
  | refine L_nnT ?_
  | refine L_nnF ?_
  | refine L_disp1 ?_
  | refine L_rng2 ?_
  | refine L_bm0 ?_
  | refine L_neB ?_
  | refine L_dnew ?_
  | refine L_sl ?_
  | refine L_noPart ?_
  | refine L_part ?_
  | refine L_ki ?_
  | refine L_methE ?_
  | refine L_meth ?_
  | refine L_makeE ?_
  | refine L_gCons ?_
  | refine L_gNil ?_
  | refine L_sub ?_
  | refine L_sFld ?_
  | refine L_din ?_
  | refine L_dnin ?_
  | refine L_dget ?_
  | refine L_dput ?_
  | refine L_dget2 ?_
  | refine L_methD ?_
  | refine L_lock ?_
  | refine L_iKeys ?_)
local macro_rules | `(tactic| walk_at "st") => `(tactic| first | walk_at "st1" | walk_at "op" | with_reducible refine L_ifE ?_)
local macro_rules | `(tactic| walk_at "stn") => `(tactic| repeat first | walk_at "st1" | walk_at "op")
local macro_rules | `(tactic| walk_at "sts") => `(tactic| repeat walk_at "st")
/-! the same, and what is shown by itself: sizes, bounds, what stands in the heap -/
local macro_rules | `(tactic| walk_at "bd") => `(tactic| first | exact bd_mod (by decide) | exact bd_64 (by decide) | exact bd_64 (by omega))
local macro_rules | `(tactic| walk_at "sa1") => `(tactic| first
  | walk_at "st"
  | (with_reducible refine G_mod ?_; with_reducible refine L_I (show _ < _ by first | decide | omega) ?_)
  | (with_reducible refine G_mul ?_; with_reducible refine L_mulI (Bd.cmul (n := 64) (m := 64) (by walk_at "bd") (by walk_at "bd")) ?_)
  | (with_reducible refine G_div ?_; with_reducible refine L_I (cdiv_lit (by first | decide | omega)) ?_)
  | (with_reducible refine G_pow ?_; with_reducible first
    | refine L_powE (i := 10) (j := 9) (n := 1000000000) (cpow_lit (by decide)) (by decide) ?_
    | refine L_powE (i := 10) (j := 6) (n := 1000000) (cpow_lit (by decide)) (by decide) ?_
    | refine L_powE (i := 10) (j := 10) (n := 10000000000) (cpow_lit (by decide)) (by decide) ?_
    | refine L_powE (i := 10) (j := 12) (n := 1000000000000) (cpow_lit (by decide)) (by decide) ?_
    | refine L_powE (i := 10) (j := 13) (n := 10000000000000) (cpow_lit (by decide)) (by decide) ?_
    | refine L_powE (i := 10) (j := 20) (n := 100000000000000000000) (cpow_lit (by decide)) (by decide) ?_
    | refine L_powE (i := 10) (j := 29) (n := 100000000000000000000000000000) (cpow_lit (by decide)) (by decide) ?_
    | refine L_powE (i := 10) (j := 30) (n := 1000000000000000000000000000000) (cpow_lit (by decide)) (by decide) ?_
    | refine L_powE (i := 10) (j := 39) (n := 1000000000000000000000000000000000000000) (cpow_lit (by decide)) (by decide) ?_
    | refine L_powE (i := 10) (j := 40) (n := 10000000000000000000000000000000000000000) (cpow_lit (by decide)) (by decide) ?_
    | refine L_powE (i := 10) (j := 60) (n := 1000000000000000000000000000000000000000000000000000000000000) (cpow_lit (by decide)) (by decide) ?_
    | refine L_powE (i := 2) (j := 3) (n := 8) (cpow_lit (by decide)) (by decide) ?_
    | refine L_powE (i := 2) (j := 40) (n := 1099511627776) (cpow_lit (by decide)) (by decide) ?_)
  | (with_reducible refine G_ix ?_; with_reducible first | refine L_ixT (by walk_at "hpT") (by with_unfolding_all rfl) ?_ | refine L_ixL (by walk_at "hpL") (by with_unfolding_all rfl) ?_)
  | (with_reducible refine G_len ?_; with_reducible first | refine L_lenL (by walk_at "hpL") ?_ | refine L_lenT (by walk_at "hpT") ?_)
  | walk_at "fd"
  | (with_reducible refine G_meth ?_; with_reducible refine L_methv (by walk_at "hp") (by with_unfolding_all rfl) ?_)
  | (with_reducible refine G_isi ?_; with_reducible first | refine L_isi (.base (.int _)) (b := true) (by decide +kernel) ?_ | refine L_isi (.base (.int _)) (b := false) (by decide +kernel) ?_)
  | (with_reducible refine G_d ?_; with_reducible first | refine L_dT (by first | assumption | omega) ?_ | refine L_dF (by first | assumption | omega) ?_)
  | (with_reducible refine G_nd ?_; with_reducible first | refine L_ndT (by first | assumption | omega) ?_ | refine L_ndF (by first | assumption | omega) ?_))
local macro_rules | `(tactic| walk_at "sa") => `(tactic| repeat walk_at "sa1")
/-! what stood stands -/
local macro_rules | `(tactic| walk_at "sm") => `(tactic| first
  | assumption
  | exact Same.refl _
  | (with_reducible apply same_upd'; assumption; walk_at "sm")
  | (with_reducible apply same_mut'; assumption; walk_at "sm")
  | (with_reducible apply same_via; assumption; walk_at "sm"))
/-! a new list or tuple: its place p, hp : H p = none, the heap behind it Hn, that all stands, what stands at p -/
local macro_rules | `(tactic| walk_at "nw") => `(tactic| (
  (refine L_new (by first | decide | exact sz_dec (by simp)) ?_)
  (intro p hp)
  (generalize hg : upd _ p _ = Hn)
  (have sn := same_newE hg hp)
  (have en := upd_at hg)
  (clear hg)))
/-! plain things as data -/
local macro_rules | `(tactic| walk_at "dpa") => `(tactic| first
  | exact .nil
  | (refine .cons (by first | exact .int _ | exact .str _ | exact .bl _ | exact .non | assumption) ?_; walk_at "dpa"))
local macro_rules | `(tactic| walk_at "nwp") => `(tactic| (
  (intro p hp)
  (generalize hg : upd _ p _ = Hn)
  (have sn := same_newE hg hp)
  (have en := upd_at hg)
  (clear hg)))

def top (i : Nat) : Stmt := PySem.Challenge.pw_fewspeak_k41_plans_as_texts.main.body.getD i (.Pass ⟨0, 0, 0, 0⟩)
abbrev s_is_whole : Stmt := top 10
abbrev s_are_figures : Stmt := top 11
abbrev s_number_of : Stmt := top 12
abbrev s_NoPlan___init__ : Stmt := inClass (top 5) 0
abbrev s_Few___init__ : Stmt := inClass (top 17) 0
abbrev s_Start___init__ : Stmt := inClass (top 18) 0
abbrev s_Loose___init__ : Stmt := inClass (top 19) 0
abbrev s_Duel___init__ : Stmt := inClass (top 21) 0
abbrev s_Each___init__ : Stmt := inClass (top 23) 0
abbrev s_First___init__ : Stmt := inClass (top 24) 0
abbrev s_Words___init__ : Stmt := inClass (top 29) 0
abbrev s_Words_here : Stmt := inClass (top 29) 1
abbrev s_Words_go_by : Stmt := inClass (top 29) 2
abbrev s_Words_take_number : Stmt := inClass (top 29) 3
abbrev s_Words_take_plan : Stmt := inClass (top 29) 4
abbrev s_Words_take_wide : Stmt := inClass (top 29) 5
abbrev s_Words_take_inner : Stmt := inClass (top 29) 6
abbrev s_plan_of : Stmt := top 30
abbrev s_Few_text : Stmt := inClass (top 17) 4
abbrev s_Start_text : Stmt := inClass (top 18) 4
abbrev s_Loose_text : Stmt := inClass (top 19) 4
abbrev s_Duel_text : Stmt := inClass (top 21) 4
abbrev s_Each_text : Stmt := inClass (top 23) 4
abbrev s_First_text : Stmt := inClass (top 24) 4
abbrev s__law_cell : Stmt := top 32
abbrev s__law_mixed : Stmt := top 33
abbrev s__law_tree : Stmt := top 34
abbrev s__law_words : Stmt := top 35
abbrev s__law_whole : Stmt := top 36
abbrev s__law_is : Stmt := top 37
abbrev s__law_spoiled : Stmt := top 38
abbrev s__law_opens : Stmt := top 39
abbrev s__law_wrong : Stmt := top 40
abbrev s__law_told : Stmt := top 41
abbrev s__law_right : Stmt := top 42
abbrev s_law : Stmt := top 43
theorem sc_is_whole : FnScope ["thing", "low", "high"] ["thing", "low", "high"] (defScope s_is_whole) := ⟨rfl, rfl, rfl, by decide +kernel, rfl, by decide +kernel, by decide +kernel⟩
theorem sc_are_figures : FnScope ["text", "sign"] ["text"] (defScope s_are_figures) := ⟨rfl, rfl, rfl, by decide +kernel, rfl, by decide +kernel, by decide +kernel⟩
theorem sc_number_of : FnScope ["text", "low", "high", "number"] ["text", "low", "high"] (defScope s_number_of) := ⟨rfl, rfl, rfl, by decide +kernel, rfl, by decide +kernel, by decide +kernel⟩
theorem sc_NoPlan___init__ : FnScope ["self", "place"] ["self", "place"] (defScope s_NoPlan___init__) := ⟨rfl, rfl, rfl, by decide +kernel, rfl, by decide +kernel, by decide +kernel⟩
theorem sc_Few___init__ : FnScope ["self", "many"] ["self", "many"] (defScope s_Few___init__) := ⟨rfl, rfl, rfl, by decide +kernel, rfl, by decide +kernel, by decide +kernel⟩
theorem sc_Start___init__ : FnScope ["self", "step"] ["self", "step"] (defScope s_Start___init__) := ⟨rfl, rfl, rfl, by decide +kernel, rfl, by decide +kernel, by decide +kernel⟩
theorem sc_Loose___init__ : FnScope ["self", "many"] ["self", "many"] (defScope s_Loose___init__) := ⟨rfl, rfl, rfl, by decide +kernel, rfl, by decide +kernel, by decide +kernel⟩
theorem sc_Duel___init__ : FnScope ["self", "many"] ["self", "many"] (defScope s_Duel___init__) := ⟨rfl, rfl, rfl, by decide +kernel, rfl, by decide +kernel, by decide +kernel⟩
theorem sc_Each___init__ : FnScope ["self", "inside"] ["self", "inside"] (defScope s_Each___init__) := ⟨rfl, rfl, rfl, by decide +kernel, rfl, by decide +kernel, by decide +kernel⟩
theorem sc_First___init__ : FnScope ["self", "outside", "inside"] ["self", "outside", "inside"] (defScope s_First___init__) := ⟨rfl, rfl, rfl, by decide +kernel, rfl, by decide +kernel, by decide +kernel⟩
theorem sc_Words___init__ : FnScope ["self", "words"] ["self", "words"] (defScope s_Words___init__) := ⟨rfl, rfl, rfl, by decide +kernel, rfl, by decide +kernel, by decide +kernel⟩
theorem sc_Words_here : FnScope ["self"] ["self"] (defScope s_Words_here) := ⟨rfl, rfl, rfl, by decide +kernel, rfl, by decide +kernel, by decide +kernel⟩
theorem sc_Words_go_by : FnScope ["self", "word"] ["self", "word"] (defScope s_Words_go_by) := ⟨rfl, rfl, rfl, by decide +kernel, rfl, by decide +kernel, by decide +kernel⟩
theorem sc_Words_take_number : FnScope ["self", "low", "high", "found"] ["self", "low", "high"] (defScope s_Words_take_number) := ⟨rfl, rfl, rfl, by decide +kernel, rfl, by decide +kernel, by decide +kernel⟩
theorem sc_Words_take_plan : FnScope ["self", "deep", "word", "number"] ["self", "deep"] (defScope s_Words_take_plan) := ⟨rfl, rfl, rfl, by decide +kernel, rfl, by decide +kernel, by decide +kernel⟩
theorem sc_Words_take_wide : FnScope ["self", "word", "deep", "one"] ["self", "word", "deep"] (defScope s_Words_take_wide) := ⟨rfl, rfl, rfl, by decide +kernel, rfl, by decide +kernel, by decide +kernel⟩
theorem sc_Words_take_inner : FnScope ["self", "deep", "found"] ["self", "deep"] (defScope s_Words_take_inner) := ⟨rfl, rfl, rfl, by decide +kernel, rfl, by decide +kernel, by decide +kernel⟩
theorem sc_plan_of : FnScope ["text", "words", "found"] ["text"] (defScope s_plan_of) := ⟨rfl, rfl, rfl, by decide +kernel, rfl, by decide +kernel, by decide +kernel⟩
theorem sc_Few_text : FnScope ["self"] ["self"] (defScope s_Few_text) := ⟨rfl, rfl, rfl, by decide +kernel, rfl, by decide +kernel, by decide +kernel⟩
theorem sc_Start_text : FnScope ["self"] ["self"] (defScope s_Start_text) := ⟨rfl, rfl, rfl, by decide +kernel, rfl, by decide +kernel, by decide +kernel⟩
theorem sc_Loose_text : FnScope ["self"] ["self"] (defScope s_Loose_text) := ⟨rfl, rfl, rfl, by decide +kernel, rfl, by decide +kernel, by decide +kernel⟩
theorem sc_Duel_text : FnScope ["self"] ["self"] (defScope s_Duel_text) := ⟨rfl, rfl, rfl, by decide +kernel, rfl, by decide +kernel, by decide +kernel⟩
theorem sc_Each_text : FnScope ["self"] ["self"] (defScope s_Each_text) := ⟨rfl, rfl, rfl, by decide +kernel, rfl, by decide +kernel, by decide +kernel⟩
theorem sc_First_text : FnScope ["self"] ["self"] (defScope s_First_text) := ⟨rfl, rfl, rfl, by decide +kernel, rfl, by decide +kernel, by decide +kernel⟩
theorem sc__law_cell : FnScope ["_law_script", "_law_k"] ["_law_script", "_law_k"] (defScope s__law_cell) := ⟨rfl, rfl, rfl, by decide +kernel, rfl, by decide +kernel, by decide +kernel⟩
theorem sc__law_mixed : FnScope ["_law_cell_here", "_law_k", "_law_number"] ["_law_cell_here", "_law_k"] (defScope s__law_mixed) := ⟨rfl, rfl, rfl, by decide +kernel, rfl, by decide +kernel, by decide +kernel⟩
theorem sc__law_tree : FnScope ["_law_number", "_law_deep", "_law_wide", "_law_way", "_law_one", "_law_other"] ["_law_number", "_law_deep", "_law_wide"] (defScope s__law_tree) := ⟨rfl, rfl, rfl, by decide +kernel, rfl, by decide +kernel, by decide +kernel⟩
theorem sc__law_words : FnScope ["_law_tree_here"] ["_law_tree_here"] (defScope s__law_words) := ⟨rfl, rfl, rfl, by decide +kernel, rfl, by decide +kernel, by decide +kernel⟩
theorem sc__law_whole : FnScope ["_law_found", "_law_due"] ["_law_found", "_law_due"] (defScope s__law_whole) := ⟨rfl, rfl, rfl, by decide +kernel, rfl, by decide +kernel, by decide +kernel⟩
theorem sc__law_is : FnScope ["_law_plan", "_law_tree_here", "_law_kinds", "_law_word"] ["_law_plan", "_law_tree_here"] (defScope s__law_is) := ⟨rfl, rfl, rfl, by decide +kernel, rfl, by decide +kernel, by decide +kernel⟩
theorem sc__law_spoiled : FnScope ["_law_words_here", "_law_cell_here", "_law_number", "_law_way", "_law_at", "_law_some", "_law_sign"] ["_law_words_here", "_law_cell_here"] (defScope s__law_spoiled) := ⟨rfl, rfl, rfl, by decide +kernel, rfl, by decide +kernel, by decide +kernel⟩
theorem sc__law_opens : FnScope ["_law_word", "_law_deep"] ["_law_word", "_law_deep"] (defScope s__law_opens) := ⟨rfl, rfl, rfl, by decide +kernel, rfl, by decide +kernel, by decide +kernel⟩
theorem sc__law_wrong : FnScope ["_law_words_here", "_law_stack", "_law_place", "_law_word", "_law_due", "_law_more", "_law_number"] ["_law_words_here"] (defScope s__law_wrong) := ⟨rfl, rfl, rfl, by decide +kernel, rfl, by decide +kernel, by decide +kernel⟩
theorem sc__law_told : FnScope ["_law_text", "_law_told_here", "_law_plan", "e"] ["_law_text"] (defScope s__law_told) := ⟨rfl, rfl, rfl, by decide +kernel, rfl, by decide +kernel, by decide +kernel⟩
theorem sc__law_right : FnScope ["_law_words_here", "_law_text", "_law_due", "_law_told_here"] ["_law_words_here"] (defScope s__law_right) := ⟨rfl, rfl, rfl, by decide +kernel, rfl, by decide +kernel, by decide +kernel⟩
theorem sc_law : FnScope ["_law_script", "_law_k", "_law_cell_here", "_law_number", "_law_tree_here", "_law_words_here", "_law_thing"] ["_law_script"] (defScope s_law) := ⟨rfl, rfl, rfl, by decide +kernel, rfl, by decide +kernel, by decide +kernel⟩
/-- what the top has written -/
structure Txt (K : PySem.W.Frag) (mg : Str → Option Value) : Prop where
  n_bool : mg "bool" = none
  n_int : mg "int" = none
  n_isinstance : mg "isinstance" = none
  n_len : mg "len" = none
  g_FIGURES : ∃ u, mg "FIGURES" = some u ∧ RelV (.str "0123456789") u
  m_SpeakError : mg "SpeakError" = some (.ref (cA mg "SpeakError"))
  b_SpeakError : BaseI K (cA mg "SpeakError")
  m_NoPlan : mg "NoPlan" = some (.ref (cA mg "NoPlan"))
  o_NoPlan : OexC K (cA mg "NoPlan")
  na_NoPlan_place : PySem.W.findIn K (.ref (cA mg "NoPlan")) "place" = some none
  m_Few : mg "Few" = some (.ref (cA mg "Few"))
  k_Few : Cls K (cA mg "Few")
  na_Few_many : NoAttr K (cA mg "Few") "many"
  g_MOST_DRAWN_plans : ∃ u, mg "MOST_DRAWN_plans" = some u ∧ RelV (.int 24) u
  m_Start : mg "Start" = some (.ref (cA mg "Start"))
  k_Start : Cls K (cA mg "Start")
  na_Start_step : NoAttr K (cA mg "Start") "step"
  g_MOST_STEP_plans : ∃ u, mg "MOST_STEP_plans" = some u ∧ RelV (.int 100) u
  m_Loose : mg "Loose" = some (.ref (cA mg "Loose"))
  k_Loose : Cls K (cA mg "Loose")
  na_Loose_many : NoAttr K (cA mg "Loose") "many"
  m_Duel : mg "Duel" = some (.ref (cA mg "Duel"))
  k_Duel : Cls K (cA mg "Duel")
  na_Duel_many : NoAttr K (cA mg "Duel") "many"
  m_Each : mg "Each" = some (.ref (cA mg "Each"))
  k_Each : Cls K (cA mg "Each")
  na_Each_inside : NoAttr K (cA mg "Each") "inside"
  m_First : mg "First" = some (.ref (cA mg "First"))
  k_First : Cls K (cA mg "First")
  na_First_outside : NoAttr K (cA mg "First") "outside"
  na_First_inside : NoAttr K (cA mg "First") "inside"
  m_Words : mg "Words" = some (.ref (cA mg "Words"))
  k_Words : Cls K (cA mg "Words")
  na_Words_words : NoAttr K (cA mg "Words") "words"
  na_Words_at : NoAttr K (cA mg "Words") "at"
  g_DEEPEST : ∃ u, mg "DEEPEST" = some u ∧ RelV (.int 3) u
  g_MOST_DRAWN_plantexts : ∃ u, mg "MOST_DRAWN_plantexts" = some u ∧ RelV (.int 24) u
  g_MOST_STEP_plantexts : ∃ u, mg "MOST_STEP_plantexts" = some u ∧ RelV (.int 100) u
  n_str : mg "str" = none
  m_Plan : mg "Plan" = some (.ref (cA mg "Plan"))
  n_enumerate : mg "enumerate" = none
  n_range : mg "range" = none
  m_NoLevel : mg "NoLevel" = some (.ref (cA mg "NoLevel"))
  m_NoListing : mg "NoListing" = some (.ref (cA mg "NoListing"))
  m_NoThrow : mg "NoThrow" = some (.ref (cA mg "NoThrow"))
  m_NoUnits : mg "NoUnits" = some (.ref (cA mg "NoUnits"))
  y_SpeakError : ExcK K (cA mg "SpeakError")
  z_NoPlan : L2.ExcC K (cA mg "NoPlan")
  n_max : mg "max" = none
  n_min : mg "min" = none
  y_NoPlan : ExcK K (cA mg "NoPlan")
  y_NoLevel : ExcK K (cA mg "NoLevel")
  y_NoListing : ExcK K (cA mg "NoListing")
  y_NoThrow : ExcK K (cA mg "NoThrow")
  y_NoUnits : ExcK K (cA mg "NoUnits")
  e_NoPlan_NoPlan : PySem.W.subIn K (.ref (cA mg "NoPlan")) (.ref (cA mg "NoPlan")) = some true
  e_NoPlan_SpeakError : PySem.W.subIn K (.ref (cA mg "NoPlan")) (.ref (cA mg "SpeakError")) = some true
  e_NoPlan_NoLevel : PySem.W.subIn K (.ref (cA mg "NoPlan")) (.ref (cA mg "NoLevel")) = some false
  e_NoPlan_NoListing : PySem.W.subIn K (.ref (cA mg "NoPlan")) (.ref (cA mg "NoListing")) = some false
  e_NoPlan_NoThrow : PySem.W.subIn K (.ref (cA mg "NoPlan")) (.ref (cA mg "NoThrow")) = some false
  e_NoPlan_NoUnits : PySem.W.subIn K (.ref (cA mg "NoPlan")) (.ref (cA mg "NoUnits")) = some false
  ic_Few : InsC K (cA mg "Few")
  ic_Start : InsC K (cA mg "Start")
  ic_Loose : InsC K (cA mg "Loose")
  ic_Duel : InsC K (cA mg "Duel")
  ic_Each : InsC K (cA mg "Each")
  ic_First : InsC K (cA mg "First")
  ct_Few : ClsT K (cA mg "Few")
  ct_Start : ClsT K (cA mg "Start")
  ct_Loose : ClsT K (cA mg "Loose")
  ct_Duel : ClsT K (cA mg "Duel")
  ct_Each : ClsT K (cA mg "Each")
  ct_First : ClsT K (cA mg "First")
  ct_Plan : ClsT K (cA mg "Plan")
  e_Few_Few : PySem.W.subIn K (.ref (cA mg "Few")) (.ref (cA mg "Few")) = some true
  e_Few_Start : PySem.W.subIn K (.ref (cA mg "Few")) (.ref (cA mg "Start")) = some false
  e_Few_Loose : PySem.W.subIn K (.ref (cA mg "Few")) (.ref (cA mg "Loose")) = some false
  e_Few_Duel : PySem.W.subIn K (.ref (cA mg "Few")) (.ref (cA mg "Duel")) = some false
  e_Few_Each : PySem.W.subIn K (.ref (cA mg "Few")) (.ref (cA mg "Each")) = some false
  e_Few_First : PySem.W.subIn K (.ref (cA mg "Few")) (.ref (cA mg "First")) = some false
  e_Few_Plan : PySem.W.subIn K (.ref (cA mg "Few")) (.ref (cA mg "Plan")) = some true
  e_Start_Few : PySem.W.subIn K (.ref (cA mg "Start")) (.ref (cA mg "Few")) = some false
  e_Start_Start : PySem.W.subIn K (.ref (cA mg "Start")) (.ref (cA mg "Start")) = some true
  e_Start_Loose : PySem.W.subIn K (.ref (cA mg "Start")) (.ref (cA mg "Loose")) = some false
  e_Start_Duel : PySem.W.subIn K (.ref (cA mg "Start")) (.ref (cA mg "Duel")) = some false
  e_Start_Each : PySem.W.subIn K (.ref (cA mg "Start")) (.ref (cA mg "Each")) = some false
  e_Start_First : PySem.W.subIn K (.ref (cA mg "Start")) (.ref (cA mg "First")) = some false
  e_Start_Plan : PySem.W.subIn K (.ref (cA mg "Start")) (.ref (cA mg "Plan")) = some true
  e_Loose_Few : PySem.W.subIn K (.ref (cA mg "Loose")) (.ref (cA mg "Few")) = some false
  e_Loose_Start : PySem.W.subIn K (.ref (cA mg "Loose")) (.ref (cA mg "Start")) = some false
  e_Loose_Loose : PySem.W.subIn K (.ref (cA mg "Loose")) (.ref (cA mg "Loose")) = some true
  e_Loose_Duel : PySem.W.subIn K (.ref (cA mg "Loose")) (.ref (cA mg "Duel")) = some false
  e_Loose_Each : PySem.W.subIn K (.ref (cA mg "Loose")) (.ref (cA mg "Each")) = some false
  e_Loose_First : PySem.W.subIn K (.ref (cA mg "Loose")) (.ref (cA mg "First")) = some false
  e_Loose_Plan : PySem.W.subIn K (.ref (cA mg "Loose")) (.ref (cA mg "Plan")) = some true
  e_Duel_Few : PySem.W.subIn K (.ref (cA mg "Duel")) (.ref (cA mg "Few")) = some false
  e_Duel_Start : PySem.W.subIn K (.ref (cA mg "Duel")) (.ref (cA mg "Start")) = some false
  e_Duel_Loose : PySem.W.subIn K (.ref (cA mg "Duel")) (.ref (cA mg "Loose")) = some false
  e_Duel_Duel : PySem.W.subIn K (.ref (cA mg "Duel")) (.ref (cA mg "Duel")) = some true
  e_Duel_Each : PySem.W.subIn K (.ref (cA mg "Duel")) (.ref (cA mg "Each")) = some false
  e_Duel_First : PySem.W.subIn K (.ref (cA mg "Duel")) (.ref (cA mg "First")) = some false
  e_Duel_Plan : PySem.W.subIn K (.ref (cA mg "Duel")) (.ref (cA mg "Plan")) = some true
  e_Each_Few : PySem.W.subIn K (.ref (cA mg "Each")) (.ref (cA mg "Few")) = some false
  e_Each_Start : PySem.W.subIn K (.ref (cA mg "Each")) (.ref (cA mg "Start")) = some false
  e_Each_Loose : PySem.W.subIn K (.ref (cA mg "Each")) (.ref (cA mg "Loose")) = some false
  e_Each_Duel : PySem.W.subIn K (.ref (cA mg "Each")) (.ref (cA mg "Duel")) = some false
  e_Each_Each : PySem.W.subIn K (.ref (cA mg "Each")) (.ref (cA mg "Each")) = some true
  e_Each_First : PySem.W.subIn K (.ref (cA mg "Each")) (.ref (cA mg "First")) = some false
  e_Each_Plan : PySem.W.subIn K (.ref (cA mg "Each")) (.ref (cA mg "Plan")) = some true
  e_First_Few : PySem.W.subIn K (.ref (cA mg "First")) (.ref (cA mg "Few")) = some false
  e_First_Start : PySem.W.subIn K (.ref (cA mg "First")) (.ref (cA mg "Start")) = some false
  e_First_Loose : PySem.W.subIn K (.ref (cA mg "First")) (.ref (cA mg "Loose")) = some false
  e_First_Duel : PySem.W.subIn K (.ref (cA mg "First")) (.ref (cA mg "Duel")) = some false
  e_First_Each : PySem.W.subIn K (.ref (cA mg "First")) (.ref (cA mg "Each")) = some false
  e_First_First : PySem.W.subIn K (.ref (cA mg "First")) (.ref (cA mg "First")) = some true
  e_First_Plan : PySem.W.subIn K (.ref (cA mg "First")) (.ref (cA mg "Plan")) = some true
  d_is_whole : DefAt K mg "is_whole" s_is_whole ["thing", "low", "high"]
  d_are_figures : DefAt K mg "are_figures" s_are_figures ["text"]
  d_number_of : DefAt K mg "number_of" s_number_of ["text", "low", "high"]
  xi_NoPlan : XIniAt K (cA mg "NoPlan") "NoPlan.__init__" s_NoPlan___init__ ["self", "place"]
  i_Few : InitAt K (cA mg "Few") "Few.__init__" s_Few___init__ ["self", "many"]
  i_Start : InitAt K (cA mg "Start") "Start.__init__" s_Start___init__ ["self", "step"]
  i_Loose : InitAt K (cA mg "Loose") "Loose.__init__" s_Loose___init__ ["self", "many"]
  i_Duel : InitAt K (cA mg "Duel") "Duel.__init__" s_Duel___init__ ["self", "many"]
  i_Each : InitAt K (cA mg "Each") "Each.__init__" s_Each___init__ ["self", "inside"]
  i_First : InitAt K (cA mg "First") "First.__init__" s_First___init__ ["self", "outside", "inside"]
  i_Words : InitAt K (cA mg "Words") "Words.__init__" s_Words___init__ ["self", "words"]
  d_Words_here : MethAt K (cA mg "Words") "here" "Words.here" s_Words_here ["self"]
  d_Words_go_by : MethAt K (cA mg "Words") "go_by" "Words.go_by" s_Words_go_by ["self", "word"]
  d_Words_take_number : MethAt K (cA mg "Words") "take_number" "Words.take_number" s_Words_take_number ["self", "low", "high"]
  d_Words_take_plan : MethAt K (cA mg "Words") "take_plan" "Words.take_plan" s_Words_take_plan ["self", "deep"]
  d_Words_take_wide : MethAt K (cA mg "Words") "take_wide" "Words.take_wide" s_Words_take_wide ["self", "word", "deep"]
  d_Words_take_inner : MethAt K (cA mg "Words") "take_inner" "Words.take_inner" s_Words_take_inner ["self", "deep"]
  d_plan_of : DefAt K mg "plan_of" s_plan_of ["text"]
  d_Few_text : MethAt K (cA mg "Few") "text" "Few.text" s_Few_text ["self"]
  d_Start_text : MethAt K (cA mg "Start") "text" "Start.text" s_Start_text ["self"]
  d_Loose_text : MethAt K (cA mg "Loose") "text" "Loose.text" s_Loose_text ["self"]
  d_Duel_text : MethAt K (cA mg "Duel") "text" "Duel.text" s_Duel_text ["self"]
  d_Each_text : MethAt K (cA mg "Each") "text" "Each.text" s_Each_text ["self"]
  d_First_text : MethAt K (cA mg "First") "text" "First.text" s_First_text ["self"]
  d__law_cell : DefAt K mg "_law_cell" s__law_cell ["_law_script", "_law_k"]
  d__law_mixed : DefAt K mg "_law_mixed" s__law_mixed ["_law_cell_here", "_law_k"]
  d__law_tree : DefAt K mg "_law_tree" s__law_tree ["_law_number", "_law_deep", "_law_wide"]
  d__law_words : DefAt K mg "_law_words" s__law_words ["_law_tree_here"]
  d__law_whole : DefAt K mg "_law_whole" s__law_whole ["_law_found", "_law_due"]
  d__law_is : DefAt K mg "_law_is" s__law_is ["_law_plan", "_law_tree_here"]
  d__law_spoiled : DefAt K mg "_law_spoiled" s__law_spoiled ["_law_words_here", "_law_cell_here"]
  d__law_opens : DefAt K mg "_law_opens" s__law_opens ["_law_word", "_law_deep"]
  d__law_wrong : DefAt K mg "_law_wrong" s__law_wrong ["_law_words_here"]
  d__law_told : DefAt K mg "_law_told" s__law_told ["_law_text"]
  d__law_right : DefAt K mg "_law_right" s__law_right ["_law_words_here"]
  d_law : DefAt K mg "law" s_law ["_law_script"]
section
variable {P : Program} {w : World} {K : PySem.W.Frag} {mg : Str → Option Value} {base : Heap}
theorem fd_Few_many (T : Txt K mg) {H : Hp} {a dx : Addr} {fs : List (Str × V)} {v : V} {Q : V → Prop} (h : H a = some (.ins (cA mg "Few") dx fs)) (l : fs.lookup ("many" : Str) = some v) (q : Q v) : ∃ a1 C dx fs v, V.ref a = V.ref a1 ∧ H a1 = some (.ins C dx fs) ∧ Cls K C ∧ NoAttr K C "many" ∧ fs.lookup ("many" : Str) = some v ∧ Q v := L_fldv h T.k_Few T.na_Few_many l q
theorem fg_Few_many {H : Hp} {a : Addr} {Q : V → Prop} (h : ∃ a1 C dx fs v, V.ref a = V.ref a1 ∧ H a1 = some (.ins C dx fs) ∧ Cls K C ∧ NoAttr K C "many" ∧ fs.lookup ("many" : Str) = some v ∧ Q v) : ∃ a1 C dx fs v, V.ref a = V.ref a1 ∧ H a1 = some (.ins C dx fs) ∧ Cls K C ∧ NoAttr K C "many" ∧ fs.lookup ("many" : Str) = some v ∧ Q v := h
local macro_rules | `(tactic| walk_at "fd") => `(tactic| (with_reducible refine fg_Few_many ?_; with_reducible refine fd_Few_many (by assumption) (by walk_at "hp") (by with_unfolding_all rfl) ?_))
theorem fd_Start_step (T : Txt K mg) {H : Hp} {a dx : Addr} {fs : List (Str × V)} {v : V} {Q : V → Prop} (h : H a = some (.ins (cA mg "Start") dx fs)) (l : fs.lookup ("step" : Str) = some v) (q : Q v) : ∃ a1 C dx fs v, V.ref a = V.ref a1 ∧ H a1 = some (.ins C dx fs) ∧ Cls K C ∧ NoAttr K C "step" ∧ fs.lookup ("step" : Str) = some v ∧ Q v := L_fldv h T.k_Start T.na_Start_step l q
theorem fg_Start_step {H : Hp} {a : Addr} {Q : V → Prop} (h : ∃ a1 C dx fs v, V.ref a = V.ref a1 ∧ H a1 = some (.ins C dx fs) ∧ Cls K C ∧ NoAttr K C "step" ∧ fs.lookup ("step" : Str) = some v ∧ Q v) : ∃ a1 C dx fs v, V.ref a = V.ref a1 ∧ H a1 = some (.ins C dx fs) ∧ Cls K C ∧ NoAttr K C "step" ∧ fs.lookup ("step" : Str) = some v ∧ Q v := h
local macro_rules | `(tactic| walk_at "fd") => `(tactic| (with_reducible refine fg_Start_step ?_; with_reducible refine fd_Start_step (by assumption) (by walk_at "hp") (by with_unfolding_all rfl) ?_))
theorem fd_Loose_many (T : Txt K mg) {H : Hp} {a dx : Addr} {fs : List (Str × V)} {v : V} {Q : V → Prop} (h : H a = some (.ins (cA mg "Loose") dx fs)) (l : fs.lookup ("many" : Str) = some v) (q : Q v) : ∃ a1 C dx fs v, V.ref a = V.ref a1 ∧ H a1 = some (.ins C dx fs) ∧ Cls K C ∧ NoAttr K C "many" ∧ fs.lookup ("many" : Str) = some v ∧ Q v := L_fldv h T.k_Loose T.na_Loose_many l q
theorem fg_Loose_many {H : Hp} {a : Addr} {Q : V → Prop} (h : ∃ a1 C dx fs v, V.ref a = V.ref a1 ∧ H a1 = some (.ins C dx fs) ∧ Cls K C ∧ NoAttr K C "many" ∧ fs.lookup ("many" : Str) = some v ∧ Q v) : ∃ a1 C dx fs v, V.ref a = V.ref a1 ∧ H a1 = some (.ins C dx fs) ∧ Cls K C ∧ NoAttr K C "many" ∧ fs.lookup ("many" : Str) = some v ∧ Q v := h
local macro_rules | `(tactic| walk_at "fd") => `(tactic| (with_reducible refine fg_Loose_many ?_; with_reducible refine fd_Loose_many (by assumption) (by walk_at "hp") (by with_unfolding_all rfl) ?_))
theorem fd_Duel_many (T : Txt K mg) {H : Hp} {a dx : Addr} {fs : List (Str × V)} {v : V} {Q : V → Prop} (h : H a = some (.ins (cA mg "Duel") dx fs)) (l : fs.lookup ("many" : Str) = some v) (q : Q v) : ∃ a1 C dx fs v, V.ref a = V.ref a1 ∧ H a1 = some (.ins C dx fs) ∧ Cls K C ∧ NoAttr K C "many" ∧ fs.lookup ("many" : Str) = some v ∧ Q v := L_fldv h T.k_Duel T.na_Duel_many l q
theorem fg_Duel_many {H : Hp} {a : Addr} {Q : V → Prop} (h : ∃ a1 C dx fs v, V.ref a = V.ref a1 ∧ H a1 = some (.ins C dx fs) ∧ Cls K C ∧ NoAttr K C "many" ∧ fs.lookup ("many" : Str) = some v ∧ Q v) : ∃ a1 C dx fs v, V.ref a = V.ref a1 ∧ H a1 = some (.ins C dx fs) ∧ Cls K C ∧ NoAttr K C "many" ∧ fs.lookup ("many" : Str) = some v ∧ Q v := h
local macro_rules | `(tactic| walk_at "fd") => `(tactic| (with_reducible refine fg_Duel_many ?_; with_reducible refine fd_Duel_many (by assumption) (by walk_at "hp") (by with_unfolding_all rfl) ?_))
theorem fd_Each_inside (T : Txt K mg) {H : Hp} {a dx : Addr} {fs : List (Str × V)} {v : V} {Q : V → Prop} (h : H a = some (.ins (cA mg "Each") dx fs)) (l : fs.lookup ("inside" : Str) = some v) (q : Q v) : ∃ a1 C dx fs v, V.ref a = V.ref a1 ∧ H a1 = some (.ins C dx fs) ∧ Cls K C ∧ NoAttr K C "inside" ∧ fs.lookup ("inside" : Str) = some v ∧ Q v := L_fldv h T.k_Each T.na_Each_inside l q
theorem fg_Each_inside {H : Hp} {a : Addr} {Q : V → Prop} (h : ∃ a1 C dx fs v, V.ref a = V.ref a1 ∧ H a1 = some (.ins C dx fs) ∧ Cls K C ∧ NoAttr K C "inside" ∧ fs.lookup ("inside" : Str) = some v ∧ Q v) : ∃ a1 C dx fs v, V.ref a = V.ref a1 ∧ H a1 = some (.ins C dx fs) ∧ Cls K C ∧ NoAttr K C "inside" ∧ fs.lookup ("inside" : Str) = some v ∧ Q v := h
local macro_rules | `(tactic| walk_at "fd") => `(tactic| (with_reducible refine fg_Each_inside ?_; with_reducible refine fd_Each_inside (by assumption) (by walk_at "hp") (by with_unfolding_all rfl) ?_))
theorem fd_First_outside (T : Txt K mg) {H : Hp} {a dx : Addr} {fs : List (Str × V)} {v : V} {Q : V → Prop} (h : H a = some (.ins (cA mg "First") dx fs)) (l : fs.lookup ("outside" : Str) = some v) (q : Q v) : ∃ a1 C dx fs v, V.ref a = V.ref a1 ∧ H a1 = some (.ins C dx fs) ∧ Cls K C ∧ NoAttr K C "outside" ∧ fs.lookup ("outside" : Str) = some v ∧ Q v := L_fldv h T.k_First T.na_First_outside l q
theorem fg_First_outside {H : Hp} {a : Addr} {Q : V → Prop} (h : ∃ a1 C dx fs v, V.ref a = V.ref a1 ∧ H a1 = some (.ins C dx fs) ∧ Cls K C ∧ NoAttr K C "outside" ∧ fs.lookup ("outside" : Str) = some v ∧ Q v) : ∃ a1 C dx fs v, V.ref a = V.ref a1 ∧ H a1 = some (.ins C dx fs) ∧ Cls K C ∧ NoAttr K C "outside" ∧ fs.lookup ("outside" : Str) = some v ∧ Q v := h
local macro_rules | `(tactic| walk_at "fd") => `(tactic| (with_reducible refine fg_First_outside ?_; with_reducible refine fd_First_outside (by assumption) (by walk_at "hp") (by with_unfolding_all rfl) ?_))
theorem fd_First_inside (T : Txt K mg) {H : Hp} {a dx : Addr} {fs : List (Str × V)} {v : V} {Q : V → Prop} (h : H a = some (.ins (cA mg "First") dx fs)) (l : fs.lookup ("inside" : Str) = some v) (q : Q v) : ∃ a1 C dx fs v, V.ref a = V.ref a1 ∧ H a1 = some (.ins C dx fs) ∧ Cls K C ∧ NoAttr K C "inside" ∧ fs.lookup ("inside" : Str) = some v ∧ Q v := L_fldv h T.k_First T.na_First_inside l q
theorem fg_First_inside {H : Hp} {a : Addr} {Q : V → Prop} (h : ∃ a1 C dx fs v, V.ref a = V.ref a1 ∧ H a1 = some (.ins C dx fs) ∧ Cls K C ∧ NoAttr K C "inside" ∧ fs.lookup ("inside" : Str) = some v ∧ Q v) : ∃ a1 C dx fs v, V.ref a = V.ref a1 ∧ H a1 = some (.ins C dx fs) ∧ Cls K C ∧ NoAttr K C "inside" ∧ fs.lookup ("inside" : Str) = some v ∧ Q v := h
local macro_rules | `(tactic| walk_at "fd") => `(tactic| (with_reducible refine fg_First_inside ?_; with_reducible refine fd_First_inside (by assumption) (by walk_at "hp") (by with_unfolding_all rfl) ?_))
theorem fd_Words_words (T : Txt K mg) {H : Hp} {a dx : Addr} {fs : List (Str × V)} {v : V} {Q : V → Prop} (h : H a = some (.ins (cA mg "Words") dx fs)) (l : fs.lookup ("words" : Str) = some v) (q : Q v) : ∃ a1 C dx fs v, V.ref a = V.ref a1 ∧ H a1 = some (.ins C dx fs) ∧ Cls K C ∧ NoAttr K C "words" ∧ fs.lookup ("words" : Str) = some v ∧ Q v := L_fldv h T.k_Words T.na_Words_words l q
theorem fg_Words_words {H : Hp} {a : Addr} {Q : V → Prop} (h : ∃ a1 C dx fs v, V.ref a = V.ref a1 ∧ H a1 = some (.ins C dx fs) ∧ Cls K C ∧ NoAttr K C "words" ∧ fs.lookup ("words" : Str) = some v ∧ Q v) : ∃ a1 C dx fs v, V.ref a = V.ref a1 ∧ H a1 = some (.ins C dx fs) ∧ Cls K C ∧ NoAttr K C "words" ∧ fs.lookup ("words" : Str) = some v ∧ Q v := h
local macro_rules | `(tactic| walk_at "fd") => `(tactic| (with_reducible refine fg_Words_words ?_; with_reducible refine fd_Words_words (by assumption) (by walk_at "hp") (by with_unfolding_all rfl) ?_))
theorem fd_Words_at (T : Txt K mg) {H : Hp} {a dx : Addr} {fs : List (Str × V)} {v : V} {Q : V → Prop} (h : H a = some (.ins (cA mg "Words") dx fs)) (l : fs.lookup ("at" : Str) = some v) (q : Q v) : ∃ a1 C dx fs v, V.ref a = V.ref a1 ∧ H a1 = some (.ins C dx fs) ∧ Cls K C ∧ NoAttr K C "at" ∧ fs.lookup ("at" : Str) = some v ∧ Q v := L_fldv h T.k_Words T.na_Words_at l q
theorem fg_Words_at {H : Hp} {a : Addr} {Q : V → Prop} (h : ∃ a1 C dx fs v, V.ref a = V.ref a1 ∧ H a1 = some (.ins C dx fs) ∧ Cls K C ∧ NoAttr K C "at" ∧ fs.lookup ("at" : Str) = some v ∧ Q v) : ∃ a1 C dx fs v, V.ref a = V.ref a1 ∧ H a1 = some (.ins C dx fs) ∧ Cls K C ∧ NoAttr K C "at" ∧ fs.lookup ("at" : Str) = some v ∧ Q v := h
local macro_rules | `(tactic| walk_at "fd") => `(tactic| (with_reducible refine fg_Words_at ?_; with_reducible refine fd_Words_at (by assumption) (by walk_at "hp") (by with_unfolding_all rfl) ?_))
def sp_is_whole (K : PySem.W.Frag) (mg : Str → Option Value) : Sp := fun vs H Q _ => match vs with | [v, .int lo, .int hi] => (∃ t, v = .int t ∧ Q (.bl (decide (lo ≤ t) && decide (t ≤ hi))) H) ∨ (NotW K H v ∧ Q (.bl false) H) | _ => False
theorem c_is_whole (T : Txt K mg) : Cal P w K mg base 1 "is_whole" (sp_is_whole K mg) := by
  refine T.d_is_whole.cal (k := 0) sc_is_whole (by intro vs H Q E h; unfold sp_is_whole at h; split at h <;> first | rfl | exact h.elim) fun f cdv A outer s H vs Q E hr h => ?_
  refine ⟨_, (pss_cons (ps_if (PW.pt (pw_or (pt_not (pt_val (pe_callB call_isi (by rfl) T.n_isinstance (by decide +kernel) (pa_cons (pv 0) (pa_cons (pe_ty "int" (by rfl) T.n_int (by decide +kernel)) pa_nil))))) (pw_or1 (pt_val (pe_callB call_isi (by rfl) T.n_isinstance (by decide +kernel) (pa_cons (pv 0) (pa_cons (pe_ty "bool" (by rfl) T.n_bool (by decide +kernel)) pa_nil)))))))
    (pss_one (ps_ret pe_bl))
    pss_nil)
    (pss_one (ps_ret (pe_chain op_leA op_leA (pv 1) (pv 0) (pv 2))))), ?_⟩
  try simp only [cxOf_K, cxOf_K', cxOf_mg, cxOf_mg']
  unfold sp_is_whole at h
  split at h
  case h_2 => exact h.elim
  rename_i v lo hi
  rw [show L2.start ["thing", "low", "high"] [v, V.int lo, V.int hi] = [some (v), some (V.int lo), some (V.int hi)] from rfl]
  rcases h with ⟨t, rfl, q⟩ | ⟨⟨b, rfl⟩ | ⟨ty, h1, h2⟩, q⟩
  · walk_at "sa"
    refine L_d (fun c1 => ?_) (fun c1 => ?_)
    · rw [decide_eq_true c1, Bool.true_and] at q
      walk_at "sts"
      exact q
    · rw [decide_eq_false c1, Bool.false_and] at q
      exact q
  · walk_at "sts"
    refine L_isi (.base (.bl b)) (b := true) (by decide +kernel) ?_
    walk_at "sts"
    refine L_isi (.base (.bl b)) (b := true) (by decide +kernel) ?_
    walk_at "sts"
    exact q
  · walk_at "sts"
    refine L_isi h1 h2 ?_
    walk_at "sts"
    exact q
theorem q_whole {H : Hp} {Q : VK} {E : XK} {t lo hi : Int} (q : Q (.bl (decide (lo ≤ t) && decide (t ≤ hi))) H) : sp_is_whole K mg [.int t, .int lo, .int hi] H Q E := .inl ⟨t, rfl, q⟩
theorem q_wholeT {H : Hp} {Q : VK} {E : XK} {t lo hi : Int} (h : lo ≤ t ∧ t ≤ hi) (q : Q (.bl true) H) : sp_is_whole K mg [.int t, .int lo, .int hi] H Q E := q_whole (by rw [decide_eq_true h.1, decide_eq_true h.2]; exact q)
theorem q_wholeF {H : Hp} {Q : VK} {E : XK} {t lo hi : Int} (h : ¬ (lo ≤ t ∧ t ≤ hi)) (q : Q (.bl false) H) : sp_is_whole K mg [.int t, .int lo, .int hi] H Q E := q_whole (by
  rw [show (decide (lo ≤ t) && decide (t ≤ hi)) = false by simp only [Bool.and_eq_false_iff, decide_eq_false_iff_not]; omega]; exact q)
theorem q_wholeN {H : Hp} {Q : VK} {E : XK} {v : V} {lo hi : Int} (h : NotW K H v) (q : Q (.bl false) H) : sp_is_whole K mg [v, .int lo, .int hi] H Q E := .inr ⟨h, q⟩
theorem q_wholeB {H : Hp} {Q : VK} {E : XK} {v : V} {lo hi : Int} (h : BadW K H v lo hi) (q : Q (.bl false) H) : sp_is_whole K mg [v, .int lo, .int hi] H Q E := by
  rcases h with h | ⟨t, rfl, h⟩
  · exact q_wholeN h q
  · exact q_wholeF h q
theorem q_wholeG {H : Hp} {Q : VK} {E : XK} {t lo hi : Int} (h : sp_is_whole K mg [.int t, .int lo, .int hi] H Q E) : sp_is_whole K mg [.int t, .int lo, .int hi] H Q E := h
local macro_rules | `(tactic| walk_at "op") => `(tactic| with_reducible (refine q_wholeG ?_; first | refine q_wholeT (by omega) ?_ | refine q_wholeF (by omega) ?_ | refine q_whole ?_))
/-! numbers as texts -/
open PySem.NumText (AllDigits digitsVal)
def dg (m : Nat) : List Nat := (Nat.toDigits 10 m).map Char.toNat
theorem sgn_nat (m : Nat) : (Str.ofString (toString ((m : Nat) : Int))).cps.toList = dg m := PySem.W.KIN.signs_num m
theorem dg_all (m : Nat) : AllDigits (dg m) := by
  intro c hc
  obtain ⟨ch, hch, e⟩ := List.mem_map.mp hc
  have r := Nat.isDigit_of_mem_toDigits (by decide) (by decide) hch
  rw [← e]
  unfold Char.isDigit at r
  rw [Bool.and_eq_true, decide_eq_true_eq, decide_eq_true_eq] at r
  have h1 : (48 : UInt32).toNat ≤ ch.val.toNat := r.1
  have h2 : ch.val.toNat ≤ (57 : UInt32).toNat := r.2
  exact ⟨h1, h2⟩
theorem dg_val (m : Nat) : digitsVal (dg m) = m := PySem.W.KIN.val_back m
theorem dg_lt {m : Nat} (h : m < 10) : dg m = [48 + m] := by
  have : ∀ m, m < 10 → dg m = [48 + m] := by decide
  exact this m h
theorem dg_ge {m : Nat} (h : 10 ≤ m) : dg m = dg (m / 10) ++ dg (m % 10) := by
  unfold dg
  rw [← List.map_append, Nat.toDigits_append_toDigits (by decide) (by omega) (Nat.mod_lt m (by decide)), Nat.div_add_mod]
theorem dg_ne (m : Nat) : dg m ≠ [] := by
  by_cases h : m < 10
  · rw [dg_lt h]; simp
  · rw [dg_ge (by omega), dg_lt (Nat.mod_lt m (by decide))]; simp
theorem dg_len : ∀ (k m : Nat), m < 10 ^ (k + 1) → (dg m).length ≤ k + 1
  | 0, m, h => by rw [dg_lt (by simpa using h)]; simp
  | k + 1, m, h => by
    by_cases h10 : m < 10
    · rw [dg_lt h10]; simp
    · have := dg_len k (m / 10) (by rw [Nat.pow_succ] at h; omega)
      rw [dg_ge (by omega), List.length_append, dg_lt (Nat.mod_lt m (by decide)), List.length_singleton]
      omega
theorem dg_head : ∀ (m : Nat), 0 < m → ∃ c r, dg m = c :: r ∧ 49 ≤ c := by
  intro m
  induction m using Nat.strongRecOn with
  | _ m ih =>
    intro h0
    by_cases h : m < 10
    · exact ⟨48 + m, [], dg_lt h, by omega⟩
    · obtain ⟨c, r, e, hc⟩ := ih (m / 10) (by omega) (by omega)
      exact ⟨c, r ++ dg (m % 10), by rw [dg_ge (by omega), e]; rfl, hc⟩
theorem ofNat_toNat {c : Nat} (h : c ≤ 57) : (Char.ofNat c).toNat = c := by
  have : ∀ c, c < 58 → (Char.ofNat c).toNat = c := by decide
  exact this c (by omega)
/-- digits without a nought ahead are a number's own -/
theorem dg_canon {cs : List Nat} (h : AllDigits cs) (hh : cs.length = 1 ∨ ∃ c r, cs = c :: r ∧ 49 ≤ c) : dg (digitsVal cs) = cs := by
  have hl : cs.length = (cs.length - 1) + 1 := by
    rcases hh with h | ⟨c, r, rfl, _⟩
    · omega
    · rw [List.length_cons]; omega
  have := PySem.NumText.toDigits_digitsVal (cs.length - 1) cs hl h (by
    rcases hh with h | h
    · exact .inl (by omega)
    · exact .inr h)
  unfold dg
  rw [this, List.map_map]
  refine (List.map_congr_left fun c hc => ?_).trans (List.map_id _)
  exact ofNat_toNat (h c hc).2
theorem sgn_neg {m : Nat} (h : 0 < m) : (Str.ofString (toString (0 - (m : Int)))).cps.toList = 45 :: dg m := by
  obtain ⟨k, rfl⟩ : ∃ k, m = k + 1 := ⟨m - 1, by omega⟩
  have e : (0 : Int) - ((k + 1 : Nat) : Int) = Int.negSucc k := by omega
  rw [e]
  show (Str.ofString ("-" ++ Nat.repr (k + 1))).cps.toList = _
  rw [signs_ofString]
  show ("-" ++ Nat.repr (k + 1)).toList.map Char.toNat = _
  rw [String.toList_append, List.map_append, Nat.toList_repr]
  rfl
def isFig (c : Nat) : Bool := decide (48 ≤ c ∧ c ≤ 57)
/-- a number without a sign, written plainly -/
def figs (cs : List Nat) : Bool := decide (1 ≤ cs.length ∧ cs.length ≤ 12) && (!(decide (cs.head? = some 48) && decide (1 < cs.length)) && cs.all isFig)
def num (cs : List Nat) : Option Int := if cs.head? = some 45 then (if figs cs.tail = true ∧ cs.tail ≠ [48] then some (0 - ((digitsVal cs.tail : Nat) : Int)) else none) else if figs cs = true then some ((digitsVal cs : Nat) : Int) else none
theorem all_figs {cs : List Nat} : cs.all isFig = true ↔ AllDigits cs := by
  rw [List.all_eq_true]
  unfold isFig AllDigits
  simp only [decide_eq_true_eq]
theorem figs_iff {cs : List Nat} : figs cs = true ↔ 1 ≤ cs.length ∧ cs.length ≤ 12 ∧ AllDigits cs ∧ dg (digitsVal cs) = cs := by
  unfold figs
  rw [Bool.and_eq_true, Bool.and_eq_true, all_figs, decide_eq_true_eq, Bool.not_eq_true', Bool.and_eq_false_iff, decide_eq_false_iff_not, decide_eq_false_iff_not]
  constructor
  · rintro ⟨⟨h1, h2⟩, h3, h4⟩
    refine ⟨h1, h2, h4, dg_canon h4 ?_⟩
    rcases h3 with h3 | h3
    · cases cs with
      | nil => simp at h1
      | cons c r =>
        have := h4.head
        refine .inr ⟨c, r, rfl, ?_⟩
        have : c ≠ 48 := fun z => h3 (by rw [z]; rfl)
        omega
    · exact .inl (by omega)
  · rintro ⟨h1, h2, h3, h4⟩
    refine ⟨⟨h1, h2⟩, ?_, h3⟩
    by_cases hz : digitsVal cs = 0
    · rw [hz, dg_lt (by decide)] at h4
      right
      rw [← h4]
      simp
    · obtain ⟨c, r, e, hc⟩ := dg_head (digitsVal cs) (by omega)
      rw [h4] at e
      left
      rw [e]
      simp
      omega
/-- what the law reads: the number whose text it is -/
def lread (cs : List Nat) : Option Int :=
  let bare := if cs.head? = some 45 then cs.tail else cs
  if bare = [] ∨ 12 < bare.length ∨ bare.all isFig = false then none
  else
    let v : Int := if bare = cs then ((digitsVal bare : Nat) : Int) else 0 - ((digitsVal bare : Nat) : Int)
    if (Str.ofString (toString v)).cps.toList = cs then some v else none
theorem lread_num (cs : List Nat) : lread cs = num cs := by
  unfold lread num
  by_cases h : cs.head? = some 45
  · rw [if_pos h, if_pos h]
    obtain ⟨r, rfl⟩ : ∃ r, cs = 45 :: r := by
      cases cs with
      | nil => simp at h
      | cons c r => simp at h; exact ⟨r, by rw [h]⟩
    dsimp only
    rw [List.tail_cons]
    have hne : ¬ r = 45 :: r := fun z => by have := congrArg List.length z; simp at this
    by_cases hb : r = [] ∨ 12 < r.length ∨ r.all isFig = false
    · rw [if_pos hb, if_neg]
      rintro ⟨z, _⟩
      obtain ⟨z1, z2, z3, _⟩ := figs_iff.mp z
      rcases hb with hb | hb | hb
      · rw [hb] at z1; simp at z1
      · omega
      · rw [all_figs.mpr z3] at hb; cases hb
    · rw [if_neg hb, if_neg hne]
      obtain ⟨b1, b2, b3⟩ : r ≠ [] ∧ r.length ≤ 12 ∧ AllDigits r := ⟨fun z => hb (.inl z), Nat.le_of_not_lt fun z => hb (.inr (.inl z)), all_figs.mp (by cases e : List.all _ isFig with | true => rfl | false => exact absurd (.inr (.inr e)) hb)⟩
      have b4 : 1 ≤ r.length := List.length_pos_iff.mpr b1
      by_cases hz : digitsVal r = 0
      · rw [hz, if_neg, if_neg]
        · rintro ⟨z, z2⟩
          have := (figs_iff.mp z).2.2.2
          rw [hz, dg_lt (by decide)] at this
          exact z2 this.symm
        · have : (Str.ofString (toString (0 - ((0 : Nat) : Int)))).cps.toList = [48] := by decide +kernel
          rw [this]
          intro z
          cases z
      · rw [sgn_neg (by omega)]
        by_cases hd : dg (digitsVal r) = r
        · rw [if_pos (by rw [hd]), if_pos]
          refine ⟨figs_iff.mpr ⟨b4, b2, b3, hd⟩, fun z => hz ?_⟩
          rw [z]; rfl
        · rw [if_neg, if_neg]
          · exact fun z => hd (figs_iff.mp z.1).2.2.2
          · exact fun z => hd (List.cons.inj z).2
  · rw [if_neg h, if_neg h]
    dsimp only
    rw [if_pos rfl]
    by_cases hb : cs = [] ∨ 12 < cs.length ∨ cs.all isFig = false
    · rw [if_pos hb, if_neg]
      intro z
      obtain ⟨z1, z2, z3, _⟩ := figs_iff.mp z
      rcases hb with hb | hb | hb
      · rw [hb] at z1; simp at z1
      · omega
      · rw [all_figs.mpr z3] at hb; cases hb
    · rw [if_neg hb]
      obtain ⟨b1, b2, b3⟩ : cs ≠ [] ∧ cs.length ≤ 12 ∧ AllDigits cs := ⟨fun z => hb (.inl z), Nat.le_of_not_lt fun z => hb (.inr (.inl z)), all_figs.mp (by cases e : List.all _ isFig with | true => rfl | false => exact absurd (.inr (.inr e)) hb)⟩
      have b4 : 1 ≤ cs.length := List.length_pos_iff.mpr b1
      rw [sgn_nat]
      by_cases hd : dg (digitsVal cs) = cs
      · rw [if_pos hd, if_pos (figs_iff.mpr ⟨b4, b2, b3, hd⟩)]
      · rw [if_neg hd, if_neg fun z => hd (figs_iff.mp z).2.2.2]
theorem val_lt : ∀ (cs : List Nat) (a : Nat), AllDigits cs → cs.foldl (fun acc c => acc * 10 + (c - 48)) a < (a + 1) * 10 ^ cs.length
  | [], a, _ => by simp
  | c :: cs, a, h => by
    have ih := val_lt cs (a * 10 + (c - 48)) h.tail
    have hc := h.head
    rw [List.foldl_cons, List.length_cons, Nat.pow_succ]
    refine Nat.lt_of_lt_of_le ih ?_
    have : a * 10 + (c - 48) + 1 ≤ (a + 1) * 10 := by omega
    calc (a * 10 + (c - 48) + 1) * 10 ^ cs.length ≤ (a + 1) * 10 * 10 ^ cs.length := Nat.mul_le_mul_right _ this
      _ = (a + 1) * (10 ^ cs.length * 10) := by rw [Nat.mul_assoc, Nat.mul_comm 10]
theorem dv_lt {cs : List Nat} (h : AllDigits cs) {n : Nat} (hl : cs.length ≤ n) : digitsVal cs < 10 ^ n := by
  have := val_lt cs 0 h
  rw [Nat.zero_add, Nat.one_mul] at this
  exact Nat.lt_of_lt_of_le this (Nat.pow_le_pow_right (by decide) hl)
theorem num_bd {cs : List Nat} {n : Int} (h : num cs = some n) : -1000000000000 < n ∧ n < 1000000000000 := by
  unfold num at h
  split at h
  · split at h
    · rename_i hf
      obtain ⟨h1, h2, h3, _⟩ := figs_iff.mp hf.1
      have := dv_lt h3 h2
      have h := Option.some.inj h
      have e : (10 : Nat) ^ 12 = 1000000000000 := by decide
      omega
    · cases h
  · split at h
    · rename_i hf
      obtain ⟨h1, h2, h3, _⟩ := figs_iff.mp hf
      have := dv_lt h3 h2
      have h := Option.some.inj h
      have e : (10 : Nat) ^ 12 = 1000000000000 := by decide
      omega
    · cases h
def optV : Option Int → V
  | none => .non
  | some n => .int n
def within (lo hi : Int) (o : Option Int) : Option Int := o.bind fun n => if lo ≤ n ∧ n ≤ hi then some n else none
theorem figures_is : (Str.ofString "0123456789").cps.toList = List.range' 48 10 := by decide +kernel
theorem mem_figures {c : Nat} : c ∈ (Str.ofString "0123456789").cps.toList ↔ 48 ≤ c ∧ c ≤ 57 := by
  rw [figures_is, List.mem_range'_1]
  omega
theorem str1_eq {a b : Nat} : (⟨#[a]⟩ : Str) = ⟨#[b]⟩ ↔ a = b := by
  constructor
  · intro h
    have := congrArg (fun z : Str => z.cps.toList) h
    simpa using this
  · rintro rfl; rfl
theorem L_tyS {K : PySem.W.Frag} {H : Hp} {z : Str} {R : Prop} (q : R) : tyV K "str" (.str z) H ∧ R := ⟨rfl, q⟩
theorem starts1 {z : Str} : Txt.startswith z "-" = decide (z.cps.toList.head? = some 45) := by
  unfold Txt.startswith Builtin.Str.subAt
  have hl : z.length = z.cps.toList.length := by rw [Array.length_toList]; rfl
  rw [show (Str.ofString "-").length = 1 from rfl, show (Str.ofString "-").cps = #[45] from rfl, hl]
  have he : z.cps.extract 0 (0 + 1) = (z.cps.toList.take 1).toArray := by
    rw [← Array.toList_inj, Array.toList_extract]
    simp
  rw [he]
  cases z.cps.toList with
  | nil => rfl
  | cons c r =>
    rw [show (c :: r).take 1 = [c] from rfl]
    by_cases h : c = 45
    · subst h
      simp
    · have h2 : ¬ (some c = some 45) := fun z => h (Option.some.inj z)
      rw [List.head?_cons, decide_eq_false h2]
      have : (([c] : List Nat).toArray == #[45]) = false := by
        rw [beq_eq_false_iff_ne]
        intro z
        have := congrArg Array.toList z
        simp at this
        exact h this
      rw [this, Bool.and_false]
theorem cut_tail {z : Str} : (cutS z (some 1) none).cps.toList = z.cps.toList.tail := by
  unfold cutS
  have hl : z.length = z.cps.toList.length := by rw [Array.length_toList]; rfl
  rw [HT.sIx_none, show (some (1 : Int)) = some ((1 : Nat) : Int) from rfl, HT.sIx_nat, hl]
  cases z.cps.toList with
  | nil => rfl
  | cons c r =>
    rw [List.length_cons, Nat.min_eq_left (by omega)]
    simp
theorem cut_len (z : Str) (lo hi : Option Int) : (cutS z lo hi).length ≤ z.length := by
  have h1 : (cutS z lo hi).length = (cutS z lo hi).cps.toList.length := by rw [Array.length_toList]; rfl
  have h2 : z.length = z.cps.toList.length := by rw [Array.length_toList]; rfl
  rw [h1, h2]
  unfold cutS
  rw [List.toList_toArray, List.length_take, List.length_drop]
  omega
theorem cut_mem {z : Str} {lo hi : Option Int} {c : Nat} (h : c ∈ (cutS z lo hi).cps.toList) : c ∈ z.cps.toList := by
  unfold cutS at h
  rw [List.toList_toArray] at h
  exact List.mem_of_mem_drop (List.mem_of_mem_take h)
def sp_are_figures (K : PySem.W.Frag) (mg : Str → Option Value) : Sp := fun vs H Q _ => match vs with | [.str z] => z.length ≤ 1000 ∧ Q (.bl (figs z.cps.toList)) H | _ => False
theorem q_are_figures {H : Hp} {Q : VK} {E : XK} {z : Str} (q : z.length ≤ 1000 ∧ Q (.bl (figs z.cps.toList)) H) : sp_are_figures K mg [.str z] H Q E := q
local macro_rules | `(tactic| walk_at "op") => `(tactic| with_reducible refine q_are_figures ?_)
theorem c_are_figures (T : Txt K mg) : Cal P w K mg base 1 "are_figures" (sp_are_figures K mg) := by
  refine T.d_are_figures.cal (k := 0) sc_are_figures (by intro vs H Q E h; unfold sp_are_figures at h; split at h <;> first | rfl | exact h.elim) fun f cdv A outer s H vs Q E hr h => ?_
  refine ⟨_, (pss_cons (ps_if (PW.pt (pw_or (pt_not (pt_chain op_leA op_leA pe_int (pe_callB call_lenA (by rfl) T.n_len (by decide +kernel) (pa_cons (pv 0) pa_nil)) pe_int)) (pw_or1 (PW.pt (pw_and (pt_cmpR (op_eqA hr) (pe_ix ix_seq (pv 0) pe_int (fun _ _ => rfl)) pe_str (nomark _)) (pw_and1 (pt_cmpR op_gt (pe_callB call_lenA (by rfl) T.n_len (by decide +kernel) (pa_cons (pv 0) pa_nil)) pe_int (nomark _))))))))
    (pss_one (ps_ret pe_bl))
    pss_nil)
    (pss_cons (ps_for PassesOwn.never rfl (pi_str (pv 0)) (pg_name (i := 1) sc_are_figures.nd rfl (.inl rfl))
    (pss_one (ps_if (pt_cmpR op_notInA (pv 1) (pe_gc (by rfl) T.g_FIGURES) (by rfl))
    (pss_one (ps_ret pe_bl))
    pss_nil)))
    (pss_one (ps_ret pe_bl)))), ?_⟩
  try simp only [cxOf_K, cxOf_K', cxOf_mg, cxOf_mg']
  unfold sp_are_figures at h
  split at h
  case h_2 => exact h.elim
  rename_i z
  rw [show L2.start ["text", "sign"] [V.str z] = [some (V.str z), none] from rfl]
  obtain ⟨hz, q⟩ := h
  have hl : z.length = z.cps.toList.length := str_len.symm
  walk_at "sts"
  refine L_lenS (sz_dec (by omega)) ?_
  walk_at "sts"
  have hF1 : ¬ (1 ≤ z.cps.toList.length ∧ z.cps.toList.length ≤ 12) → figs z.cps.toList = false := fun h => by unfold figs; rw [decide_eq_false h, Bool.false_and]
  refine L_d (fun c1 => ?_) (fun c1 => ?_)
  · walk_at "sts"
    refine L_nd (fun c2 => ?_) (fun c2 => ?_)
    · rw [hF1 (by omega)] at q
      walk_at "sts"
      exact q
    · obtain ⟨a, r, ha⟩ : ∃ a r, z.cps.toList = a :: r := by
        cases e : z.cps.toList with
        | nil => rw [e] at hl; simp at hl; omega
        | cons a r => exact ⟨a, r, rfl⟩
      walk_at "sts"
      refine L_ixS (sz_dec (by omega)) (a := a) (by rw [ha]; exact atI_nat (j := 0) rfl) ?_
      walk_at "sts"
      have loop : ¬ (a = 48 ∧ 1 < z.length) → figs z.cps.toList = z.cps.toList.all isFig := fun h => by
        unfold figs
        rw [decide_eq_true (show 1 ≤ z.cps.toList.length ∧ z.cps.toList.length ≤ 12 by omega), Bool.true_and]
        have : (decide (z.cps.toList.head? = some 48) && decide (1 < z.cps.toList.length)) = false := by
          rw [Bool.and_eq_false_iff, decide_eq_false_iff_not, decide_eq_false_iff_not, ha]
          by_cases h48 : a = 48
          · right
            rw [← ha, ← hl]
            exact fun z => h ⟨h48, z⟩
          · left
            exact fun z => h48 (Option.some.inj z)
        rw [this]
        rfl
      have body : ∀ (N : L2.St → Hp → Prop) (v : Option V), (∀ v', z.cps.toList.all isFig = true → N [some (.str z), v'] H) → (z.cps.toList.all isFig = false → Q (.bl false) H) → ForT (Its z) [some (.str z), v] H (gName 1) (tIfS (tTest (tOp (aNotIn K) (tVar 1) (tC (.str "0123456789")))) (tRet (tC (.bl false))) tNext) N Q := fun N v h1 h2 => by
        refine f_it walk_str (fun i σ' H' => (∃ v, σ' = [some (.str z), v]) ∧ H' = H ∧ (z.cps.toList.take i).all isFig = true) ⟨⟨_, rfl⟩, rfl, rfl⟩ (fun _ _ _ _ _ => True.intro) ?_ ?_
        · rintro i x σ' H' H'' hi ⟨⟨v, rfl⟩, rfl, hall⟩ ⟨rfl, c, hc, rfl⟩
          have hc' : z.cps.toList[i]? = some c := by rw [Array.getElem?_toList]; exact hc
          walk_at "sts"
          refine L_nd (fun c3 => ?_) (fun c3 => ?_)
          · walk_at "sts"
            refine h2 ?_
            rw [List.all_eq_false]
            exact ⟨c, List.mem_of_getElem? hc', fun h => c3 (mem_figures.mpr (of_decide_eq_true h))⟩
          · walk_at "sts"
            refine ⟨⟨_, rfl⟩, rfl, ?_⟩
            rw [List.take_succ, hc', List.all_append, hall]
            have : isFig c = true := decide_eq_true (mem_figures.mp c3)
            simp [this]
        · rintro σ' H' ⟨⟨v, rfl⟩, rfl, hall⟩
          rw [List.take_of_length_le (by rw [Array.length_toList]; exact Nat.le_refl _)] at hall
          exact h1 _ hall
      refine L_d (fun c4 => ?_) (fun c4 => ?_)
      · have c4 : a = 48 := str1_eq.mp c4
        walk_at "sts"
        refine L_lenS (sz_dec (by omega)) ?_
        walk_at "sts"
        refine L_d (fun c5 => ?_) (fun c5 => ?_)
        · walk_at "sts"
          rw [show figs z.cps.toList = false by
            unfold figs
            rw [ha, List.head?_cons, c4, decide_eq_true (show some 48 = some 48 from rfl), Bool.true_and, ← c4, ← ha, ← hl, decide_eq_true (show 1 < z.length by omega)]
            simp] at q
          exact q
        · have hz2 := loop (by omega)
          rw [hz2] at q
          walk_at "sts"
          refine L_rs ?_
          exact body _ _ (fun v' h => by walk_at "sts"; rw [h] at q; exact q) (fun h => by rw [h] at q; exact q)
      · have c4 : ¬ a = 48 := fun z => c4 (str1_eq.mpr z)
        have hz2 := loop (by omega)
        rw [hz2] at q
        walk_at "sts"
        refine L_rs ?_
        exact body _ _ (fun v' h => by walk_at "sts"; rw [h] at q; exact q) (fun h => by rw [h] at q; exact q)
  · rw [hF1 (by omega)] at q
    walk_at "sts"
    exact q
def sp_number_of (K : PySem.W.Frag) (mg : Str → Option Value) : Sp := fun vs H Q _ => match vs with | [.str z, .int lo, .int hi] => z.length ≤ 1000 ∧ Q (optV (within lo hi (num z.cps.toList))) H | _ => False
theorem q_number_of {H : Hp} {Q : VK} {E : XK} {z : Str} {lo : Int} {hi : Int} (q : z.length ≤ 1000 ∧ Q (optV (within lo hi (num z.cps.toList))) H) : sp_number_of K mg [.str z, .int lo, .int hi] H Q E := q
local macro_rules | `(tactic| walk_at "op") => `(tactic| with_reducible refine q_number_of ?_)
theorem c_number_of (T : Txt K mg) : Cal P w K mg base 2 "number_of" (sp_number_of K mg) := by
  refine T.d_number_of.cal (k := 1) sc_number_of (by intro vs H Q E h; unfold sp_number_of at h; split at h <;> first | rfl | exact h.elim) fun f cdv A outer s H vs Q E hr h => ?_
  refine ⟨_, (pss_cons (ps_if (pt_val (pe_bm PySem.F.plainAttrs_str PySem.F.slot_str_startswith PySem.F.type_str_startswith mt_startswith (pv 0) (pa_cons pe_str pa_nil)))
    (pss_cons (ps_if (PW.pt (pw_or (pt_not (pt_val (pe_c (c_are_figures T) hr (by decide) (by rfl) (pa_cons (pe_slice sl_str (pv 0) (po_some pe_int) po_none) pa_nil)))) (pw_or1 (pt_cmpR (op_eqA hr) (pv 0) pe_str (nomark _)))))
    (pss_one (ps_ret pe_non))
    pss_nil)
    (pss_one (ps_set (i := 3) sc_number_of.nd rfl (.inl rfl) (pe_op op_sub pe_int (pe_callTy call_int_str (by rfl) T.n_int (by decide +kernel) (pa_cons (pe_slice sl_str (pv 0) (po_some pe_int) po_none) pa_nil))))))
    (pss_one (ps_if (pt_val (pe_c (c_are_figures T) hr (by decide) (by rfl) (pa_cons (pv 0) pa_nil)))
    (pss_one (ps_set (i := 3) sc_number_of.nd rfl (.inl rfl) (pe_callTy call_int_str (by rfl) T.n_int (by decide +kernel) (pa_cons (pv 0) pa_nil))))
    (pss_one (ps_ret pe_non)))))
    (pss_cons (ps_if (pt_not (pt_chain op_leA op_leA (pv 1) (pv 3) (pv 2)))
    (pss_one (ps_ret pe_non))
    pss_nil)
    (pss_one (ps_ret (pv 3))))), ?_⟩
  try simp only [cxOf_K, cxOf_K', cxOf_mg, cxOf_mg']
  unfold sp_number_of at h
  split at h
  case h_2 => exact h.elim
  rename_i z lo hi
  rw [show L2.start ["text", "low", "high", "number"] [V.str z, V.int lo, V.int hi] = [some (V.str z), some (V.int lo), some (V.int hi), none] from rfl]
  obtain ⟨hz, q⟩ := h
  have fin : ∀ n : Int, num z.cps.toList = some n → Q (optV (if lo ≤ n ∧ n ≤ hi then some n else none)) H := fun n h => by
    rw [h] at q
    exact q
  walk_at "sts"
  refine L_tyS ?_
  walk_at "sts"
  refine ⟨z, _, rfl, rfl, ?_⟩
  rw [starts1]
  walk_at "sts"
  refine L_d (fun c1 => ?_) (fun c1 => ?_)
  · have hn : num z.cps.toList = if figs z.cps.toList.tail = true ∧ z.cps.toList.tail ≠ [48] then some (0 - ((digitsVal z.cps.toList.tail : Nat) : Int)) else none := if_pos c1
    walk_at "sts"
    refine ⟨z, rfl, sz_dec (by omega), ?_⟩
    have hcl := cut_len z (some 1) none
    walk_at "sts"
    refine ⟨by omega, ?_⟩
    rw [cut_tail]
    have htl : (cutS z (some 1) none).length = z.cps.toList.tail.length := by rw [← str_len, cut_tail]
    cases hf : figs z.cps.toList.tail with
    | false =>
      rw [hf, if_neg (fun z => nomatch z.1)] at hn
      rw [hn] at q
      walk_at "sts"
      exact q
    | true =>
      obtain ⟨f1, f2, f3, f4⟩ := figs_iff.mp hf
      walk_at "sts"
      have hz0 : z = ("-0" : Str) ↔ z.cps.toList.tail = [48] := by
        constructor
        · rintro rfl; rfl
        · intro h
          obtain ⟨r, hr⟩ : ∃ r, z.cps.toList = 45 :: r := by
            cases e : z.cps.toList with
            | nil => rw [e] at c1; cases c1
            | cons c r => rw [e] at c1; exact ⟨r, by rw [Option.some.inj c1]⟩
          rw [hr] at h
          have h : r = [48] := h
          rw [h] at hr
          have : z.cps = #[45, 48] := by rw [← Array.toList_inj]; exact hr
          cases z
          cases this
          rfl
      refine L_d (fun c3 => ?_) (fun c3 => ?_)
      · rw [if_neg (fun z => z.2 (hz0.mp c3))] at hn
        rw [hn] at q
        walk_at "sts"
        exact q
      · rw [if_pos ⟨hf, fun z => c3 (hz0.mpr z)⟩] at hn
        have fq := fin _ hn
        walk_at "sts"
        refine ⟨z, rfl, sz_dec (by omega), ?_⟩
        walk_at "sts"
        refine ⟨_, ((digitsVal z.cps.toList.tail : Nat) : Int), rfl, ?_, by omega, ?_⟩
        · rw [PySem.intText_digits (by rw [cut_tail]; exact f3) (by rw [cut_tail]; exact List.ne_nil_of_length_pos f1) (by omega), cut_tail]
        walk_at "sts"
        refine L_d (fun d1 => ?_) (fun d1 => ?_)
        · walk_at "sts"
          refine L_nd (fun d2 => ?_) (fun d2 => ?_)
          · rw [if_neg fun z => d2 z.2] at fq
            walk_at "sts"
            exact fq
          · rw [if_pos ⟨d1, d2⟩] at fq
            walk_at "sts"
            exact fq
        · rw [if_neg fun z => d1 z.1] at fq
          walk_at "sts"
          exact fq
  · have hn : num z.cps.toList = if figs z.cps.toList = true then some ((digitsVal z.cps.toList : Nat) : Int) else none := if_neg c1
    have hl : z.length = z.cps.toList.length := str_len.symm
    walk_at "sts"
    refine ⟨by omega, ?_⟩
    cases hf : figs z.cps.toList with
    | false =>
      rw [hf, if_neg Bool.false_ne_true] at hn
      rw [hn] at q
      walk_at "sts"
      exact q
    | true =>
      obtain ⟨f1, f2, f3, f4⟩ := figs_iff.mp hf
      rw [if_pos hf] at hn
      have fq := fin _ hn
      walk_at "sts"
      refine ⟨_, ((digitsVal z.cps.toList : Nat) : Int), rfl, ?_, by omega, ?_⟩
      · exact PySem.intText_digits f3 (List.ne_nil_of_length_pos f1) (by omega)
      walk_at "sts"
      refine L_d (fun d1 => ?_) (fun d1 => ?_)
      · walk_at "sts"
        refine L_nd (fun d2 => ?_) (fun d2 => ?_)
        · rw [if_neg fun z => d2 z.2] at fq
          walk_at "sts"
          exact fq
        · rw [if_pos ⟨d1, d2⟩] at fq
          walk_at "sts"
          exact fq
      · rw [if_neg fun z => d1 z.1] at fq
        walk_at "sts"
        exact fq
/-! texts cut at a sign -/
theorem log_ok {i : Int} (h : -100000000000000000 < i ∧ i < 100000000000000000) : i.natAbs.log2 < 1920 := by
  by_cases h0 : i.natAbs = 0
  · rw [h0]; decide
  · refine (Nat.log2_lt h0).mpr ?_
    have : (100000000000000000 : Nat) ≤ 2 ^ 1920 := Nat.le_trans (show (100000000000000000 : Nat) ≤ 2 ^ 57 by decide) (Nat.pow_le_pow_right (by decide) (by decide))
    omega
theorem sgn_any (i : Int) : (0 ≤ i ∧ (Str.ofString (toString i)).cps.toList = dg i.toNat) ∨ (i < 0 ∧ (Str.ofString (toString i)).cps.toList = 45 :: dg (-i).toNat) := by
  by_cases h : 0 ≤ i
  · left
    have e : i = ((i.toNat : Nat) : Int) := by omega
    refine ⟨h, ?_⟩
    conv => lhs; rw [e]
    exact sgn_nat _
  · right
    have e : i = 0 - (((-i).toNat : Nat) : Int) := by omega
    refine ⟨by omega, ?_⟩
    conv => lhs; rw [e]
    exact sgn_neg (by omega)
theorem str_lenB {i : Int} (h : -10000000000000 < i ∧ i < 10000000000000) : (Str.ofString (toString i)).length ≤ 14 := by
  rw [← str_len]
  have e : (10 : Nat) ^ (12 + 1) = 10000000000000 := by decide
  rcases sgn_any i with ⟨h0, hs⟩ | ⟨h0, hs⟩
  · rw [hs]
    have := dg_len 12 i.toNat (by omega)
    omega
  · rw [hs, List.length_cons]
    have := dg_len 12 (-i).toNat (by omega)
    omega
theorem joinL_len (S : List Nat) : ∀ ls : List (List Nat), (TL.joinL S ls).length ≤ (ls.map (·.length)).sum + ls.length * S.length
  | [] => Nat.zero_le _
  | [p] => by simp [TL.joinL]
  | p :: q :: r => by
    have ih := joinL_len S (q :: r)
    show (p ++ (S ++ TL.joinL S (q :: r))).length ≤ _
    rw [List.length_append, List.length_append, List.map_cons, List.sum_cons, List.length_cons (as := q :: r), Nat.add_mul]
    omega
theorem join_is (c : Nat) (ps : List Str) : Txt.join ⟨#[c]⟩ ps = SX.S (TL.joinL [c] (ps.map fun z => z.cps.toList)) := by
  rw [← SX.join_S, List.map_map]
  have : ps.map (SX.S ∘ fun z => z.cps.toList) = ps := (List.map_congr_left fun z _ => SX.S_tl z).trans (List.map_id _)
  rw [this]
theorem spl_part (S : List Nat) : ∀ (l : List Nat) (k : Nat) (acc : List Nat), ∀ p ∈ TL.spl S k acc l, p.length ≤ acc.length + l.length ∧ ∀ c ∈ p, c ∈ acc ∨ c ∈ l
  | [], k, acc, p, h => by
    rw [TL.spl_nil] at h
    rw [List.mem_singleton.mp h]
    exact ⟨Nat.le_refl _, fun c hc => .inl hc⟩
  | c :: r, 0, acc, p, h => by
    unfold TL.spl at h
    split at h
    · rcases List.mem_cons.mp h with rfl | h
      · exact ⟨by omega, fun c hc => .inl hc⟩
      · obtain ⟨h1, h2⟩ := spl_part S r _ [] p h
        refine ⟨by simp at h1 ⊢; omega, fun d hd => ?_⟩
        rcases h2 d hd with h | h
        · cases h
        · exact .inr (List.mem_cons_of_mem _ h)
    · obtain ⟨h1, h2⟩ := spl_part S r 0 (acc ++ [c]) p h
      refine ⟨by simp at h1 ⊢; omega, fun d hd => ?_⟩
      rcases h2 d hd with h | h
      · rcases List.mem_append.mp h with h | h
        · exact .inl h
        · exact .inr (by rw [List.mem_singleton.mp h]; exact List.mem_cons_self ..)
      · exact .inr (List.mem_cons_of_mem _ h)
  | c :: r, k + 1, acc, p, h => by
    unfold TL.spl at h
    obtain ⟨h1, h2⟩ := spl_part S r k acc p h
    refine ⟨by simp at h1 ⊢; omega, fun d hd => ?_⟩
    rcases h2 d hd with h | h
    · exact .inl h
    · exact .inr (List.mem_cons_of_mem _ h)
def cutAt (c : Nat) (z : Str) : List Str := (TL.spl [c] 0 [] z.cps.toList).map SX.S
theorem split_is {z : Str} {c : Nat} (hc : c < 256) : Txt.split z ⟨#[c]⟩ = cutAt c z := by
  have := SX.split_S (a := z.cps.toList) (b := [c]) (List.cons_ne_nil _ _) (by simp; exact hc)
  rw [SX.S_tl] at this
  exact this
theorem cutAt_len {c : Nat} {z p : Str} (h : p ∈ cutAt c z) : p.length ≤ z.length := by
  obtain ⟨l, h1, rfl⟩ := List.mem_map.mp h
  have := (spl_part [c] _ 0 [] l h1).1
  rw [SX.S_len, ← str_len (z := z)]
  simpa using this
theorem spl_many (S : List Nat) : ∀ (l : List Nat) (k : Nat) (acc : List Nat), (TL.spl S k acc l).length ≤ l.length + 1
  | [], k, acc => by rw [TL.spl_nil]; exact Nat.le_refl _
  | c :: r, 0, acc => by
    unfold TL.spl
    split
    · have := spl_many S r (S.length - 1) []
      rw [List.length_cons, List.length_cons]
      omega
    · have := spl_many S r 0 (acc ++ [c])
      rw [List.length_cons]
      omega
  | c :: r, k + 1, acc => by
    unfold TL.spl
    have := spl_many S r k acc
    rw [List.length_cons]
    omega
theorem cutAt_many (c : Nat) (z : Str) : (cutAt c z).length ≤ z.length + 1 := by
  unfold cutAt
  rw [List.length_map]
  have := spl_many [c] z.cps.toList 0 []
  rwa [str_len] at this
def sp_NoPlan___init__ (K : PySem.W.Frag) (mg : Str → Option Value) : Sp := fun vs H Q _ => match vs with | [.ref a, v] => XIni1 (cA mg "NoPlan") "place" a v H Q | _ => False
theorem q_NoPlan___init__ {H : Hp} {Q : VK} {E : XK} {a : Addr} {v : V} (q : XIni1 (cA mg "NoPlan") "place" a v H Q) : sp_NoPlan___init__ K mg [.ref a, v] H Q E := q
local macro_rules | `(tactic| walk_at "op") => `(tactic| with_reducible refine q_NoPlan___init__ ?_)
theorem x_NoPlan (T : Txt K mg) : XMak P w K mg base 1 "NoPlan" (cA mg "NoPlan") (sp_NoPlan___init__ K mg) := by
  refine XIniAt.xmak T.m_NoPlan T.xi_NoPlan (k := 0) sc_NoPlan___init__ (by intro vs H Q E h; unfold sp_NoPlan___init__ at h; split at h <;> first | rfl | exact h.elim) fun f cdv A outer s H vs Q E hr h => ?_
  refine ⟨_, (pss_cons (ps_expr (pe_baseI (by rfl) T.m_SpeakError T.b_SpeakError (pa_cons (pv 0) (pa_cons pe_str pa_nil))))
    (pss_one (ps_ost (pv 0) (pv 1) rfl))), ?_⟩
  try simp only [cxOf_K, cxOf_K', cxOf_mg, cxOf_mg']
  unfold sp_NoPlan___init__ at h
  split at h
  case h_2 => exact h.elim
  rename_i a v
  rw [show L2.start ["self", "place"] [V.ref a, v] = [some (V.ref a), some (v)] from rfl]
  obtain ⟨ha, q⟩ := h
  walk_at "sts"
  refine L_tveI ?_
  walk_at "sts"
  refine L_veI T.o_NoPlan ha (by rw [List.length_singleton]; decide) ?_
  walk_at "sts"
  refine L_ost ?_
  walk_at "sts"
  refine L_ost1 T.o_NoPlan T.na_NoPlan_place ha fun dx nx ne => ?_
  exact q dx nx ne
/-- what is asked of a plan's __init__ -/
def Ini (K : PySem.W.Frag) (mg : Str → Option Value) (C : Addr) (f : Str) (lo hi : Int) (x : Addr) (v : V) (H : Hp) (Q : VK) (E : XK) : Prop :=
  ∃ dx, H x = some (.ins C dx []) ∧ ((BadW K H v lo hi ∧ ∀ d H', Same H H' → H' d = some (.xd [("place", .int 0)]) → E (.ref (cA mg "NoPlan")) (some d) H') ∨
    ∃ t, v = .int t ∧ lo ≤ t ∧ t ≤ hi ∧ ∀ H', (∀ b o, H b = some o → b ≠ x → H' b = some o) → H' x = some (.ins C dx [(f, .int t)]) → Q .non H')
theorem q_noPlan {H : Hp} {E : XK} (q : ∀ d H', Same H H' → H' d = some (.xd [("place", .int 0)]) → E (.ref (cA mg "NoPlan")) (some d) H') : [V.int 0].length ≤ 1000 ∧ ∀ a, H a = none → sp_NoPlan___init__ K mg (.ref a :: ([V.int 0] ++ [])) (upd H a (exo a (cA mg "NoPlan") none))
  (fun v H2 => v = .non ∧ ∃ (d : Addr) (fs : List (Str × V)), H2 a = some (exo a (cA mg "NoPlan") (some d)) ∧ H2 d = some (exd d fs) ∧ H d = none ∧ E (.ref (cA mg "NoPlan")) (some d) (upd (del H2 a) d (.xd fs))) (fun _ _ _ => False) :=
  L_mkO1 (fun _ _ _ _ h => h) fun d nd => q d _ (same_new nd) upd_same
theorem txt_short (z : Str) {t : Int} (hz : z.length ≤ 10) (h1 : 0 ≤ t) (h2 : t ≤ 100) : z.length + (↑(toString t) : Str).length ≤ sizeLine := by
  have := str_short t h1 h2
  have := sizeLine_eq
  omega
/-! plans as trees -/
inductive PT where
  | few (m : Int)
  | sta (m : Int)
  | loo (m : Int)
  | due (m : Int)
  | each (p : PT)
  | first (o i : PT)
/-- the plan at y; all its objects are of P -/
def PTA (mg : Str → Option Value) (P : Addr → Prop) (H : Hp) : PT → Addr → Prop
  | .few m, y => P y ∧ ∃ dx, H y = some (.ins (cA mg "Few") dx [("many", .int m)])
  | .sta m, y => P y ∧ ∃ dx, H y = some (.ins (cA mg "Start") dx [("step", .int m)])
  | .loo m, y => P y ∧ ∃ dx, H y = some (.ins (cA mg "Loose") dx [("many", .int m)])
  | .due m, y => P y ∧ ∃ dx, H y = some (.ins (cA mg "Duel") dx [("many", .int m)])
  | .each p, y => P y ∧ ∃ dx z, H y = some (.ins (cA mg "Each") dx [("inside", .ref z)]) ∧ PTA mg P H p z
  | .first o i, y => P y ∧ ∃ dx z z2, H y = some (.ins (cA mg "First") dx [("outside", .ref z), ("inside", .ref z2)]) ∧ PTA mg P H o z ∧ PTA mg P H i z2
theorem PTA.keep {mg : Str → Option Value} {P P' : Addr → Prop} {H H' : Hp} (k : ∀ b o, H b = some o → P b → H' b = some o) (i : ∀ b, P b → P' b) : ∀ {p : PT} {y : Addr}, PTA mg P H p y → PTA mg P' H' p y
  | .few _, _, ⟨h, dx, h1⟩ => ⟨i _ h, dx, k _ _ h1 h⟩
  | .sta _, _, ⟨h, dx, h1⟩ => ⟨i _ h, dx, k _ _ h1 h⟩
  | .loo _, _, ⟨h, dx, h1⟩ => ⟨i _ h, dx, k _ _ h1 h⟩
  | .due _, _, ⟨h, dx, h1⟩ => ⟨i _ h, dx, k _ _ h1 h⟩
  | .each _, _, ⟨h, dx, z, h1, h2⟩ => ⟨i _ h, dx, z, k _ _ h1 h, PTA.keep k i h2⟩
  | .first _ _, _, ⟨h, dx, z, z2, h1, h2, h3⟩ => ⟨i _ h, dx, z, z2, k _ _ h1 h, PTA.keep k i h2, PTA.keep k i h3⟩
abbrev Any : Addr → Prop := fun _ => True
theorem PTA.same {mg : Str → Option Value} {P : Addr → Prop} {H H' : Hp} (s : Same H H') {p : PT} {y : Addr} (h : PTA mg P H p y) : PTA mg P H' p y := h.keep (fun b o e _ => s b o e) fun _ h => h
theorem PTA.any {mg : Str → Option Value} {P : Addr → Prop} {H : Hp} {p : PT} {y : Addr} (h : PTA mg P H p y) : PTA mg Any H p y := h.keep (fun _ _ e _ => e) fun _ _ => trivial
/-- its numbers are within their bounds -/
def PT.ok : PT → Prop
  | .few m => 0 ≤ m ∧ m ≤ 24
  | .sta m => 1 ≤ m ∧ m ≤ 100
  | .loo m => 0 ≤ m ∧ m ≤ 24
  | .due m => 0 ≤ m ∧ m ≤ 24
  | .each p => p.ok
  | .first o i => o.ok ∧ i.ok
/-- how many others it stands around -/
def PT.dep : PT → Nat
  | .each p => p.dep + 1
  | .first o i => max o.dep i.dep + 1
  | _ => 0
def PT.text : PT → Str
  | .few m => "few " ++ toString m
  | .sta m => "start " ++ toString m
  | .loo m => "loose " ++ toString m
  | .due m => "duel " ++ toString m
  | .each p => "each ( " ++ p.text ++ " )"
  | .first o i => "first ( " ++ o.text ++ " ) then ( " ++ i.text ++ " )"
theorem ini_ok {K : PySem.W.Frag} {mg : Str → Option Value} {C : Addr} {f : Str} {lo hi t : Int} {x dx : Addr} {H : Hp} {Q : VK} {E : XK} (nx : H x = none) (nd : H dx = none) (ne : dx ≠ x) (h1 : lo ≤ t) (h2 : t ≤ hi)
    (q : ∀ H', Same H H' → H' x = some (.ins C dx [(f, .int t)]) → Q (.ref x) H') : Ini K mg C f lo hi x (.int t) (upd (upd H dx (.own x)) x (.ins C dx [])) (fun v H2 => v = .non ∧ Q (.ref x) H2) E :=
  ⟨dx, upd_same, .inr ⟨t, rfl, h1, h2, fun H' k e => ⟨rfl, q H' (fun b o hb => k _ _ (by rw [upd_ne (ne_of_none hb nx), upd_ne (ne_of_none hb nd)]; exact hb) (ne_of_none hb nx)) e⟩⟩⟩
def sp_Few___init__ (K : PySem.W.Frag) (mg : Str → Option Value) : Sp := fun vs H Q E => match vs with | [.ref x, v] => Ini K mg (cA mg "Few") "many" 0 24 x v H Q E | _ => False
theorem q_Few___init__ {H : Hp} {Q : VK} {E : XK} {x : Addr} {v : V} (q : Ini K mg (cA mg "Few") "many" 0 24 x v H Q E) : sp_Few___init__ K mg [.ref x, v] H Q E := q
local macro_rules | `(tactic| walk_at "op") => `(tactic| with_reducible refine q_Few___init__ ?_)
theorem m_Few (T : Txt K mg) : MakX P w K mg base 3 "Few" (cA mg "Few") (sp_Few___init__ K mg) := by
  refine InitAt.makX T.m_Few T.i_Few (k := 2) sc_Few___init__ (by intro vs H Q E h; unfold sp_Few___init__ at h; split at h <;> first | rfl | exact h.elim) fun f cdv A outer s H vs Q E hr h => ?_
  refine ⟨_, (pss_cons (ps_if (pt_not (pt_val (pe_c (c_is_whole T) hr (by decide) (by rfl) (pa_cons (pv 1) (pa_cons pe_int (pa_cons (pe_gc (by rfl) T.g_MOST_DRAWN_plans) pa_nil))))))
    (pss_one (ps_raise rfl (takes_of rfl rfl rfl rfl) (pmk_x (x_NoPlan T) T.o_NoPlan hr (by decide) (by rfl) (pa_cons pe_int pa_nil))))
    pss_nil)
    (pss_one (ps_fld (pv 0) (pv 1) rfl))), ?_⟩
  try simp only [cxOf_K, cxOf_K', cxOf_mg, cxOf_mg']
  unfold sp_Few___init__ at h
  split at h
  case h_2 => exact h.elim
  rename_i x v
  rw [show L2.start ["self", "many"] [V.ref x, v] = [some (V.ref x), some (v)] from rfl]
  obtain ⟨dx, hx, ⟨hb, q⟩ | ⟨t, rfl, h1, h2, q⟩⟩ := h
  · walk_at "sts"
    refine q_wholeB hb ?_
    walk_at "sts"
    refine L_mkO ?_
    walk_at "sts"
    exact q_noPlan q
  · walk_at "sts"
    refine L_sFldv hx T.k_Few T.na_Few_many (by decide) ?_
    refine q _ (fun b o hb ne => by rw [upd_ne ne]; exact hb) upd_same
def sp_Start___init__ (K : PySem.W.Frag) (mg : Str → Option Value) : Sp := fun vs H Q E => match vs with | [.ref x, v] => Ini K mg (cA mg "Start") "step" 1 100 x v H Q E | _ => False
theorem q_Start___init__ {H : Hp} {Q : VK} {E : XK} {x : Addr} {v : V} (q : Ini K mg (cA mg "Start") "step" 1 100 x v H Q E) : sp_Start___init__ K mg [.ref x, v] H Q E := q
local macro_rules | `(tactic| walk_at "op") => `(tactic| with_reducible refine q_Start___init__ ?_)
theorem m_Start (T : Txt K mg) : MakX P w K mg base 3 "Start" (cA mg "Start") (sp_Start___init__ K mg) := by
  refine InitAt.makX T.m_Start T.i_Start (k := 2) sc_Start___init__ (by intro vs H Q E h; unfold sp_Start___init__ at h; split at h <;> first | rfl | exact h.elim) fun f cdv A outer s H vs Q E hr h => ?_
  refine ⟨_, (pss_cons (ps_if (pt_not (pt_val (pe_c (c_is_whole T) hr (by decide) (by rfl) (pa_cons (pv 1) (pa_cons pe_int (pa_cons (pe_gc (by rfl) T.g_MOST_STEP_plans) pa_nil))))))
    (pss_one (ps_raise rfl (takes_of rfl rfl rfl rfl) (pmk_x (x_NoPlan T) T.o_NoPlan hr (by decide) (by rfl) (pa_cons pe_int pa_nil))))
    pss_nil)
    (pss_one (ps_fld (pv 0) (pv 1) rfl))), ?_⟩
  try simp only [cxOf_K, cxOf_K', cxOf_mg, cxOf_mg']
  unfold sp_Start___init__ at h
  split at h
  case h_2 => exact h.elim
  rename_i x v
  rw [show L2.start ["self", "step"] [V.ref x, v] = [some (V.ref x), some (v)] from rfl]
  obtain ⟨dx, hx, ⟨hb, q⟩ | ⟨t, rfl, h1, h2, q⟩⟩ := h
  · walk_at "sts"
    refine q_wholeB hb ?_
    walk_at "sts"
    refine L_mkO ?_
    walk_at "sts"
    exact q_noPlan q
  · walk_at "sts"
    refine L_sFldv hx T.k_Start T.na_Start_step (by decide) ?_
    refine q _ (fun b o hb ne => by rw [upd_ne ne]; exact hb) upd_same
def sp_Loose___init__ (K : PySem.W.Frag) (mg : Str → Option Value) : Sp := fun vs H Q E => match vs with | [.ref x, v] => Ini K mg (cA mg "Loose") "many" 0 24 x v H Q E | _ => False
theorem q_Loose___init__ {H : Hp} {Q : VK} {E : XK} {x : Addr} {v : V} (q : Ini K mg (cA mg "Loose") "many" 0 24 x v H Q E) : sp_Loose___init__ K mg [.ref x, v] H Q E := q
local macro_rules | `(tactic| walk_at "op") => `(tactic| with_reducible refine q_Loose___init__ ?_)
theorem m_Loose (T : Txt K mg) : MakX P w K mg base 3 "Loose" (cA mg "Loose") (sp_Loose___init__ K mg) := by
  refine InitAt.makX T.m_Loose T.i_Loose (k := 2) sc_Loose___init__ (by intro vs H Q E h; unfold sp_Loose___init__ at h; split at h <;> first | rfl | exact h.elim) fun f cdv A outer s H vs Q E hr h => ?_
  refine ⟨_, (pss_cons (ps_if (pt_not (pt_val (pe_c (c_is_whole T) hr (by decide) (by rfl) (pa_cons (pv 1) (pa_cons pe_int (pa_cons (pe_gc (by rfl) T.g_MOST_DRAWN_plans) pa_nil))))))
    (pss_one (ps_raise rfl (takes_of rfl rfl rfl rfl) (pmk_x (x_NoPlan T) T.o_NoPlan hr (by decide) (by rfl) (pa_cons pe_int pa_nil))))
    pss_nil)
    (pss_one (ps_fld (pv 0) (pv 1) rfl))), ?_⟩
  try simp only [cxOf_K, cxOf_K', cxOf_mg, cxOf_mg']
  unfold sp_Loose___init__ at h
  split at h
  case h_2 => exact h.elim
  rename_i x v
  rw [show L2.start ["self", "many"] [V.ref x, v] = [some (V.ref x), some (v)] from rfl]
  obtain ⟨dx, hx, ⟨hb, q⟩ | ⟨t, rfl, h1, h2, q⟩⟩ := h
  · walk_at "sts"
    refine q_wholeB hb ?_
    walk_at "sts"
    refine L_mkO ?_
    walk_at "sts"
    exact q_noPlan q
  · walk_at "sts"
    refine L_sFldv hx T.k_Loose T.na_Loose_many (by decide) ?_
    refine q _ (fun b o hb ne => by rw [upd_ne ne]; exact hb) upd_same
def sp_Duel___init__ (K : PySem.W.Frag) (mg : Str → Option Value) : Sp := fun vs H Q E => match vs with | [.ref x, v] => Ini K mg (cA mg "Duel") "many" 0 24 x v H Q E | _ => False
theorem q_Duel___init__ {H : Hp} {Q : VK} {E : XK} {x : Addr} {v : V} (q : Ini K mg (cA mg "Duel") "many" 0 24 x v H Q E) : sp_Duel___init__ K mg [.ref x, v] H Q E := q
local macro_rules | `(tactic| walk_at "op") => `(tactic| with_reducible refine q_Duel___init__ ?_)
theorem m_Duel (T : Txt K mg) : MakX P w K mg base 3 "Duel" (cA mg "Duel") (sp_Duel___init__ K mg) := by
  refine InitAt.makX T.m_Duel T.i_Duel (k := 2) sc_Duel___init__ (by intro vs H Q E h; unfold sp_Duel___init__ at h; split at h <;> first | rfl | exact h.elim) fun f cdv A outer s H vs Q E hr h => ?_
  refine ⟨_, (pss_cons (ps_if (pt_not (pt_val (pe_c (c_is_whole T) hr (by decide) (by rfl) (pa_cons (pv 1) (pa_cons pe_int (pa_cons (pe_gc (by rfl) T.g_MOST_DRAWN_plans) pa_nil))))))
    (pss_one (ps_raise rfl (takes_of rfl rfl rfl rfl) (pmk_x (x_NoPlan T) T.o_NoPlan hr (by decide) (by rfl) (pa_cons pe_int pa_nil))))
    pss_nil)
    (pss_one (ps_fld (pv 0) (pv 1) rfl))), ?_⟩
  try simp only [cxOf_K, cxOf_K', cxOf_mg, cxOf_mg']
  unfold sp_Duel___init__ at h
  split at h
  case h_2 => exact h.elim
  rename_i x v
  rw [show L2.start ["self", "many"] [V.ref x, v] = [some (V.ref x), some (v)] from rfl]
  obtain ⟨dx, hx, ⟨hb, q⟩ | ⟨t, rfl, h1, h2, q⟩⟩ := h
  · walk_at "sts"
    refine q_wholeB hb ?_
    walk_at "sts"
    refine L_mkO ?_
    walk_at "sts"
    exact q_noPlan q
  · walk_at "sts"
    refine L_sFldv hx T.k_Duel T.na_Duel_many (by decide) ?_
    refine q _ (fun b o hb ne => by rw [upd_ne ne]; exact hb) upd_same
def sp_Each___init__ (K : PySem.W.Frag) (mg : Str → Option Value) : Sp := fun vs H Q _ => match vs with | [.ref x, y] => ∃ dx, H x = some (.ins (cA mg "Each") dx []) ∧ ∀ H', (∀ b o, H b = some o → b ≠ x → H' b = some o) → H' x = some (.ins (cA mg "Each") dx [("inside", y)]) → Q .non H' | _ => False
theorem q_Each___init__ {H : Hp} {Q : VK} {E : XK} {x : Addr} {y : V} (q : ∃ dx, H x = some (.ins (cA mg "Each") dx []) ∧ ∀ H', (∀ b o, H b = some o → b ≠ x → H' b = some o) → H' x = some (.ins (cA mg "Each") dx [("inside", y)]) → Q .non H') : sp_Each___init__ K mg [.ref x, y] H Q E := q
local macro_rules | `(tactic| walk_at "op") => `(tactic| with_reducible refine q_Each___init__ ?_)
theorem m_Each (T : Txt K mg) : Mak P w K mg base 1 "Each" (cA mg "Each") (sp_Each___init__ K mg) := by
  refine InitAt.mak T.m_Each T.i_Each (k := 0) sc_Each___init__ (by intro vs H Q E h; unfold sp_Each___init__ at h; split at h <;> first | rfl | exact h.elim) fun f cdv A outer s H vs Q E hr h => ?_
  refine ⟨_, (pss_one (ps_fld (pv 0) (pv 1) rfl)), ?_⟩
  try simp only [cxOf_K, cxOf_K', cxOf_mg, cxOf_mg']
  unfold sp_Each___init__ at h
  split at h
  case h_2 => exact h.elim
  rename_i x y
  rw [show L2.start ["self", "inside"] [V.ref x, y] = [some (V.ref x), some (y)] from rfl]
  obtain ⟨dx, hx, q⟩ := h
  walk_at "sts"
  refine L_sFldv hx T.k_Each T.na_Each_inside (by decide) ?_
  refine q _ (fun b o hb ne => by rw [upd_ne ne]; exact hb) upd_same
def sp_First___init__ (K : PySem.W.Frag) (mg : Str → Option Value) : Sp := fun vs H Q _ => match vs with | [.ref x, y, z] => ∃ dx, H x = some (.ins (cA mg "First") dx []) ∧ ∀ H', (∀ b o, H b = some o → b ≠ x → H' b = some o) → H' x = some (.ins (cA mg "First") dx [("outside", y), ("inside", z)]) → Q .non H' | _ => False
theorem q_First___init__ {H : Hp} {Q : VK} {E : XK} {x : Addr} {y : V} {z : V} (q : ∃ dx, H x = some (.ins (cA mg "First") dx []) ∧ ∀ H', (∀ b o, H b = some o → b ≠ x → H' b = some o) → H' x = some (.ins (cA mg "First") dx [("outside", y), ("inside", z)]) → Q .non H') : sp_First___init__ K mg [.ref x, y, z] H Q E := q
local macro_rules | `(tactic| walk_at "op") => `(tactic| with_reducible refine q_First___init__ ?_)
theorem m_First (T : Txt K mg) : Mak P w K mg base 1 "First" (cA mg "First") (sp_First___init__ K mg) := by
  refine InitAt.mak T.m_First T.i_First (k := 0) sc_First___init__ (by intro vs H Q E h; unfold sp_First___init__ at h; split at h <;> first | rfl | exact h.elim) fun f cdv A outer s H vs Q E hr h => ?_
  refine ⟨_, (pss_cons (ps_fld (pv 0) (pv 1) rfl)
    (pss_one (ps_fld (pv 0) (pv 2) rfl))), ?_⟩
  try simp only [cxOf_K, cxOf_K', cxOf_mg, cxOf_mg']
  unfold sp_First___init__ at h
  split at h
  case h_2 => exact h.elim
  rename_i x y z
  rw [show L2.start ["self", "outside", "inside"] [V.ref x, y, z] = [some (V.ref x), some (y), some (z)] from rfl]
  obtain ⟨dx, hx, q⟩ := h
  walk_at "sts"
  refine L_sFldv hx T.k_First T.na_First_outside (by decide) ?_
  walk_at "sts"
  refine L_sFldv upd_same T.k_First T.na_First_inside (by show 1 < 1000; decide) ?_
  refine q _ (fun b o hb ne => by rw [upd_ne ne, upd_ne ne]; exact hb) upd_same
/-- words taken one behind the other -/
def Wds (mg : Str → Option Value) (H : Hp) (x l : Addr) (ws : List Str) (a : Nat) : Prop := ∃ dx, H x = some (.ins (cA mg "Words") dx [("words", .ref l), ("at", .int (a : Int))]) ∧ H l = some (.lst (ws.map V.str))
/-- all but x stays -/
def Kx (x : Addr) (H H' : Hp) : Prop := ∀ b o, H b = some o → b ≠ x → H' b = some o
theorem Kx.refl {x : Addr} {H : Hp} : Kx x H H := fun _ _ h _ => h
theorem Kx.trans {x : Addr} {H H1 H2 : Hp} (a : Kx x H H1) (b : Kx x H1 H2) : Kx x H H2 := fun c o h n => b c o (a c o h n) n
theorem Kx.same {x : Addr} {H H' : Hp} (s : Same H H') : Kx x H H' := fun b o h _ => s b o h
theorem Wds.ne {mg : Str → Option Value} {H : Hp} {x l : Addr} {ws : List Str} {a : Nat} (h : Wds mg H x l ws a) : l ≠ x := fun z => by
  obtain ⟨dx, h1, h2⟩ := h
  rw [z, h1] at h2
  cases h2
theorem Wds.same {mg : Str → Option Value} {H H' : Hp} {x l : Addr} {ws : List Str} {a : Nat} (h : Wds mg H x l ws a) (s : Same H H') : Wds mg H' x l ws a := by
  obtain ⟨dx, h1, h2⟩ := h
  exact ⟨dx, s _ _ h1, s _ _ h2⟩
/-- a refusal at a place is wanted -/
def NPX (mg : Str → Option Value) (E : XK) (x : Addr) (H : Hp) (k : Nat) : Prop := ∀ d H', Kx x H H' → H' d = some (.xd [("place", .int (k : Int))]) → E (.ref (cA mg "NoPlan")) (some d) H'
theorem NPX.kx {mg : Str → Option Value} {E : XK} {x : Addr} {H H' : Hp} {k : Nat} (h : NPX mg E x H k) (e : Kx x H H') : NPX mg E x H' k := fun d H2 e2 hd => h d H2 (e.trans e2) hd
theorem q_noPlanK {H : Hp} {E : XK} {k : Int} (q : ∀ d H', Same H H' → H' d = some (.xd [("place", .int k)]) → E (.ref (cA mg "NoPlan")) (some d) H') : [V.int k].length ≤ 1000 ∧ ∀ a, H a = none → sp_NoPlan___init__ K mg (.ref a :: ([V.int k] ++ [])) (upd H a (exo a (cA mg "NoPlan") none))
  (fun v H2 => v = .non ∧ ∃ (d : Addr) (fs : List (Str × V)), H2 a = some (exo a (cA mg "NoPlan") (some d)) ∧ H2 d = some (exd d fs) ∧ H d = none ∧ E (.ref (cA mg "NoPlan")) (some d) (upd (del H2 a) d (.xd fs))) (fun _ _ _ => False) :=
  L_mkO1 (fun _ _ _ _ h => h) fun d nd => q d _ (same_new nd) upd_same
/-- what may be handed in -/
structure WsOk (ws : List Str) : Prop where
  n : ws.length ≤ 100000
  w : ∀ z ∈ ws, z.length ≤ 1000
abbrev Rp := Nat ⊕ (PT × Nat)
def gb (ws : List Str) (z : Str) (a : Nat) : Nat ⊕ Nat := if ws[a]? = some z then .inr (a + 1) else .inl a
def tn (ws : List Str) (lo hi : Int) (a : Nat) : Nat ⊕ (Int × Nat) := match ws[a]? with
  | none => .inl a
  | some z => match within lo hi (num z.cps.toList) with
    | none => .inl a
    | some n => .inr (n, a + 1)
def sp_Words___init__ (K : PySem.W.Frag) (mg : Str → Option Value) : Sp := fun vs H Q _ => match vs with | [.ref x, .ref l] => ∃ dx ws, H x = some (.ins (cA mg "Words") dx []) ∧ H l = some (.lst (ws.map V.str)) ∧ ∀ H', Kx x H H' → Wds mg H' x l ws 0 → Q .non H' | _ => False
theorem q_Words___init__ {H : Hp} {Q : VK} {E : XK} {x : Addr} {l : Addr} (q : ∃ dx ws, H x = some (.ins (cA mg "Words") dx []) ∧ H l = some (.lst (ws.map V.str)) ∧ ∀ H', Kx x H H' → Wds mg H' x l ws 0 → Q .non H') : sp_Words___init__ K mg [.ref x, .ref l] H Q E := q
local macro_rules | `(tactic| walk_at "op") => `(tactic| with_reducible refine q_Words___init__ ?_)
theorem m_Words (T : Txt K mg) : Mak P w K mg base 1 "Words" (cA mg "Words") (sp_Words___init__ K mg) := by
  refine InitAt.mak T.m_Words T.i_Words (k := 0) sc_Words___init__ (by intro vs H Q E h; unfold sp_Words___init__ at h; split at h <;> first | rfl | exact h.elim) fun f cdv A outer s H vs Q E hr h => ?_
  refine ⟨_, (pss_cons (ps_fld (pv 0) (pv 1) rfl)
    (pss_one (ps_fld (pv 0) pe_int rfl))), ?_⟩
  try simp only [cxOf_K, cxOf_K', cxOf_mg, cxOf_mg']
  unfold sp_Words___init__ at h
  split at h
  case h_2 => exact h.elim
  rename_i x l
  rw [show L2.start ["self", "words"] [V.ref x, V.ref l] = [some (V.ref x), some (V.ref l)] from rfl]
  obtain ⟨dx, ws, hx, hl, q⟩ := h
  walk_at "sts"
  refine L_sFldv hx T.k_Words T.na_Words_words (by decide) ?_
  walk_at "sts"
  refine L_sFldv upd_same T.k_Words T.na_Words_at (by show 1 < 1000; decide) ?_
  have nl : l ≠ x := fun z => by rw [z, hx] at hl; cases hl
  refine q _ (fun b o hb ne => by rw [upd_ne ne, upd_ne ne]; exact hb) ⟨dx, upd_same, by rw [upd_ne nl, upd_ne nl]; exact hl⟩
def sp_Words_here (K : PySem.W.Frag) (mg : Str → Option Value) : Sp := fun vs H Q E => match vs with | [.ref x] => ∃ l ws a, Wds mg H x l ws a ∧ a ≤ ws.length ∧ ((ws[a]? = none ∧ NPX mg E x H a) ∨ ∃ z, ws[a]? = some z ∧ Q (.str z) H) | _ => False
theorem q_Words_here {H : Hp} {Q : VK} {E : XK} {x : Addr} (q : ∃ l ws a, Wds mg H x l ws a ∧ a ≤ ws.length ∧ ((ws[a]? = none ∧ NPX mg E x H a) ∨ ∃ z, ws[a]? = some z ∧ Q (.str z) H)) : sp_Words_here K mg [.ref x] H Q E := q
local macro_rules | `(tactic| walk_at "op") => `(tactic| with_reducible refine q_Words_here ?_)
theorem c_Words_here (T : Txt K mg) : MetX P w K mg base 3 (cA mg "Words") "here" (sp_Words_here K mg) := by
  refine MethAt.metX T.k_Words T.d_Words_here (k := 2) sc_Words_here (by intro vs H Q E h; unfold sp_Words_here at h; split at h <;> first | rfl | exact h.elim) fun f cdv A outer s H vs Q E hr h => ?_
  refine ⟨_, (pss_cons (ps_if (pt_cmpR (op_eqA hr) (pe_fld (pv 0) rfl) (pe_callB call_lenA (by rfl) T.n_len (by decide +kernel) (pa_cons (pe_fld (pv 0) rfl) pa_nil)) (nomark _))
    (pss_one (ps_raise rfl (takes_of rfl rfl rfl rfl) (pmk_x (x_NoPlan T) T.o_NoPlan hr (by decide) (by rfl) (pa_cons (pe_fld (pv 0) rfl) pa_nil))))
    pss_nil)
    (pss_one (ps_ret (pe_ix ix_seq (pe_fld (pv 0) rfl) (pe_fld (pv 0) rfl) (fun _ _ => rfl))))), ?_⟩
  try simp only [cxOf_K, cxOf_K', cxOf_mg, cxOf_mg']
  unfold sp_Words_here at h
  split at h
  case h_2 => exact h.elim
  rename_i x
  rw [show L2.start ["self"] [V.ref x] = [some (V.ref x)] from rfl]
  obtain ⟨l, ws, a, ⟨dx, hx, hl⟩, ha, hc⟩ := h
  walk_at "sts"
  refine L_fldv hx T.k_Words T.na_Words_at rfl ?_
  walk_at "sts"
  refine L_fldv hx T.k_Words T.na_Words_words rfl ?_
  walk_at "sts"
  refine L_lenL (.of hl) ?_
  walk_at "sts"
  rw [List.length_map]
  rcases hc with ⟨hn, q⟩ | ⟨z, hz, q⟩
  · have := List.getElem?_eq_none_iff.mp hn
    refine L_dT (show (a : Int) = (ws.length : Int) by omega) ?_
    walk_at "sts"
    refine L_mkO ?_
    walk_at "sts"
    refine L_fldv hx T.k_Words T.na_Words_at rfl ?_
    walk_at "sts"
    exact q_noPlanK fun d H' s hd => q d H' (.same s) hd
  · have := (List.getElem?_eq_some_iff.mp hz).1
    refine L_dF (show ¬ (a : Int) = (ws.length : Int) by omega) ?_
    walk_at "sts"
    refine L_fldv hx T.k_Words T.na_Words_words rfl ?_
    walk_at "sts"
    refine L_fldv hx T.k_Words T.na_Words_at rfl ?_
    exact L_ixL (.of hl) (atI_int (by omega) (by rw [Int.toNat_natCast, List.getElem?_map, hz]; rfl)) q
def sp_Words_go_by (K : PySem.W.Frag) (mg : Str → Option Value) : Sp := fun vs H Q E => match vs with | [.ref x, .str z] => ∃ l ws a, Wds mg H x l ws a ∧ a ≤ ws.length ∧ WsOk ws ∧ (match gb ws z a with | .inl k => NPX mg E x H k | .inr a' => ∀ H', Kx x H H' → Wds mg H' x l ws a' → Q .non H') | _ => False
theorem q_Words_go_by {H : Hp} {Q : VK} {E : XK} {x : Addr} {z : Str} (q : ∃ l ws a, Wds mg H x l ws a ∧ a ≤ ws.length ∧ WsOk ws ∧ (match gb ws z a with | .inl k => NPX mg E x H k | .inr a' => ∀ H', Kx x H H' → Wds mg H' x l ws a' → Q .non H')) : sp_Words_go_by K mg [.ref x, .str z] H Q E := q
local macro_rules | `(tactic| walk_at "op") => `(tactic| with_reducible refine q_Words_go_by ?_)
theorem c_Words_go_by (T : Txt K mg) : MetX P w K mg base 4 (cA mg "Words") "go_by" (sp_Words_go_by K mg) := by
  refine MethAt.metX T.k_Words T.d_Words_go_by (k := 3) sc_Words_go_by (by intro vs H Q E h; unfold sp_Words_go_by at h; split at h <;> first | rfl | exact h.elim) fun f cdv A outer s H vs Q E hr h => ?_
  refine ⟨_, (pss_cons (ps_if (pt_cmpR (op_neA hr) (pe_xMt0 (c_Words_here T) hr (by decide) (fun σ => passAt (takes_of rfl rfl rfl rfl) σ) (pv 0)) (pv 1) (nomark _))
    (pss_one (ps_raise rfl (takes_of rfl rfl rfl rfl) (pmk_x (x_NoPlan T) T.o_NoPlan hr (by decide) (by rfl) (pa_cons (pe_fld (pv 0) rfl) pa_nil))))
    pss_nil)
    (pss_one (ps_fldaug (pv 0) pe_int in_add))), ?_⟩
  try simp only [cxOf_K, cxOf_K', cxOf_mg, cxOf_mg']
  unfold sp_Words_go_by at h
  split at h
  case h_2 => exact h.elim
  rename_i x w
  rw [show L2.start ["self", "word"] [V.ref x, V.str w] = [some (V.ref x), some (V.str w)] from rfl]
  obtain ⟨l, ws, a, hw, ha, hok, q⟩ := h
  have hw' := hw
  obtain ⟨dx, hx, hl⟩ := hw'
  unfold gb at q
  walk_at "sts"
  refine L_methv hx rfl ?_
  walk_at "sts"
  cases hz : ws[a]? with
  | none =>
    rw [hz, if_neg (fun z => nomatch z)] at q
    refine ⟨l, ws, a, hw, ha, .inl ⟨hz, ?_⟩⟩
    exact q
  | some z =>
    rw [hz] at q
    refine ⟨l, ws, a, hw, ha, .inr ⟨z, hz, ?_⟩⟩
    walk_at "sts"
    refine L_nd (fun c => ?_) (fun c => ?_)
    · rw [if_neg (fun e => c (Option.some.inj e))] at q
      walk_at "sts"
      refine L_mkO ?_
      walk_at "sts"
      refine L_fldv hx T.k_Words T.na_Words_at rfl ?_
      walk_at "sts"
      exact q_noPlanK fun d H' s hd => q d H' (.same s) hd
    · rw [if_pos (congrArg some c)] at q
      walk_at "sts"
      refine L_fldaug ?_
      walk_at "sts"
      refine ⟨x, _, dx, _, _, rfl, hx, T.k_Words, T.na_Words_at, rfl, ?_⟩
      walk_at "sts"
      refine L_rAdd ⟨dx, _, hx, by show 2 < 1000; decide, ?_⟩
      refine q _ (fun b o hb ne => by rw [upd_ne ne]; exact hb) ⟨dx, upd_same, by rw [upd_ne hw.ne]; exact hl⟩
def sp_Words_take_number (K : PySem.W.Frag) (mg : Str → Option Value) : Sp := fun vs H Q E => match vs with | [.ref x, .int lo, .int hi] => ∃ l ws a, Wds mg H x l ws a ∧ a ≤ ws.length ∧ WsOk ws ∧ (match tn ws lo hi a with | .inl k => NPX mg E x H k | .inr (n, a') => ∀ H', Kx x H H' → Wds mg H' x l ws a' → Q (.int n) H') | _ => False
theorem q_Words_take_number {H : Hp} {Q : VK} {E : XK} {x : Addr} {lo : Int} {hi : Int} (q : ∃ l ws a, Wds mg H x l ws a ∧ a ≤ ws.length ∧ WsOk ws ∧ (match tn ws lo hi a with | .inl k => NPX mg E x H k | .inr (n, a') => ∀ H', Kx x H H' → Wds mg H' x l ws a' → Q (.int n) H')) : sp_Words_take_number K mg [.ref x, .int lo, .int hi] H Q E := q
local macro_rules | `(tactic| walk_at "op") => `(tactic| with_reducible refine q_Words_take_number ?_)
theorem c_Words_take_number (T : Txt K mg) : MetX P w K mg base 4 (cA mg "Words") "take_number" (sp_Words_take_number K mg) := by
  refine MethAt.metX T.k_Words T.d_Words_take_number (k := 3) sc_Words_take_number (by intro vs H Q E h; unfold sp_Words_take_number at h; split at h <;> first | rfl | exact h.elim) fun f cdv A outer s H vs Q E hr h => ?_
  refine ⟨_, (pss_cons (ps_set (i := 3) sc_Words_take_number.nd rfl (.inl rfl) (pe_c (c_number_of T) hr (by decide) (by rfl) (pa_cons (pe_xMt0 (c_Words_here T) hr (by decide) (fun σ => passAt (takes_of rfl rfl rfl rfl) σ) (pv 0)) (pa_cons (pv 1) (pa_cons (pv 2) pa_nil)))))
    (pss_cons (ps_if (pt_cmpR op_isNA (pv 3) pe_non (nomark _))
    (pss_one (ps_raise rfl (takes_of rfl rfl rfl rfl) (pmk_x (x_NoPlan T) T.o_NoPlan hr (by decide) (by rfl) (pa_cons (pe_fld (pv 0) rfl) pa_nil))))
    pss_nil)
    (pss_cons (ps_fldaug (pv 0) pe_int in_add)
    (pss_one (ps_ret (pv 3)))))), ?_⟩
  try simp only [cxOf_K, cxOf_K', cxOf_mg, cxOf_mg']
  unfold sp_Words_take_number at h
  split at h
  case h_2 => exact h.elim
  rename_i x lo hi
  rw [show L2.start ["self", "low", "high", "found"] [V.ref x, V.int lo, V.int hi] = [some (V.ref x), some (V.int lo), some (V.int hi), none] from rfl]
  obtain ⟨l, ws, a, hw, ha, hok, q⟩ := h
  have hw' := hw
  obtain ⟨dx, hx, hl⟩ := hw'
  unfold tn at q
  walk_at "sts"
  refine L_methv hx rfl ?_
  walk_at "sts"
  cases hz : ws[a]? with
  | none =>
    rw [hz] at q
    refine ⟨l, ws, a, hw, ha, .inl ⟨hz, ?_⟩⟩
    exact q
  | some z =>
    rw [hz] at q
    dsimp only at q
    refine ⟨l, ws, a, hw, ha, .inr ⟨z, hz, ?_⟩⟩
    walk_at "sts"
    refine ⟨hok.w z (List.mem_of_getElem? hz), ?_⟩
    cases hn : within lo hi (num z.cps.toList) with
    | none =>
      rw [hn] at q
      walk_at "sts"
      refine L_dT rfl ?_
      walk_at "sts"
      refine L_mkO ?_
      walk_at "sts"
      refine L_fldv hx T.k_Words T.na_Words_at rfl ?_
      walk_at "sts"
      exact q_noPlanK fun d H' s hd => q d H' (.same s) hd
    | some n =>
      rw [hn] at q
      walk_at "sts"
      refine L_dF (fun z => nomatch z) ?_
      walk_at "sts"
      refine L_fldaug ?_
      walk_at "sts"
      refine ⟨x, _, dx, _, _, rfl, hx, T.k_Words, T.na_Words_at, rfl, ?_⟩
      walk_at "sts"
      refine L_rAdd ⟨dx, _, hx, by show 2 < 1000; decide, ?_⟩
      walk_at "sts"
      refine q _ (fun b o hb ne => by rw [upd_ne ne]; exact hb) ⟨dx, upd_same, by rw [upd_ne hw.ne]; exact hl⟩
/-! how words are read -/
def tkI (ws : List Str) (f : Nat → Rp) (a : Nat) : Rp := match gb ws "(" a with
  | .inl k => .inl k
  | .inr a1 => match f a1 with
    | .inl k => .inl k
    | .inr (p, a2) => match gb ws ")" a2 with
      | .inl k => .inl k
      | .inr a3 => .inr (p, a3)
def tkW (ws : List Str) (f : Nat → Rp) (z : Str) (a : Nat) : Rp := match tkI ws f a with
  | .inl k => .inl k
  | .inr (p, a1) => if z = "each" then .inr (.each p, a1) else match gb ws "then" a1 with
    | .inl k => .inl k
    | .inr a2 => match tkI ws f a2 with
      | .inl k => .inl k
      | .inr (p2, a3) => .inr (.first p p2, a3)
def tkN (ws : List Str) (z : Str) (a : Nat) : Rp := if z = "start" then (match tn ws 1 100 a with
    | .inl k => .inl k
    | .inr (n, a1) => .inr (.sta n, a1))
  else match tn ws 0 24 a with
    | .inl k => .inl k
    | .inr (n, a1) => .inr (if z = "few" then .few n else if z = "loose" then .loo n else .due n, a1)
def tkS (ws : List Str) (a : Nat) (wide : Str → Rp) : Rp := match ws[a]? with
  | none => .inl a
  | some z => if z ∈ (["each", "first"] : List Str) then wide z else if z ∈ (["few", "start", "loose", "duel"] : List Str) then tkN ws z (a + 1) else .inl a
def tkP (ws : List Str) : Nat → Nat → Rp
  | 0, a => tkS ws a fun _ => .inl a
  | r + 1, a => tkS ws a fun z => tkW ws (tkP ws r) z (a + 1)
/-- what is read of a text -/
def rdP (z : Str) : Nat ⊕ PT := match tkP (cutAt 32 z) 3 0 with
  | .inl k => .inl k
  | .inr (p, a) => if a < (cutAt 32 z).length then .inl a else .inr p
theorem gb_le {ws : List Str} {z : Str} {a b : Nat} (h : gb ws z a = .inr b) : b ≤ ws.length := by
  unfold gb at h
  split at h
  · cases h
    rename_i e
    exact (List.getElem?_eq_some_iff.mp e).1
  · cases h
theorem tn_le {ws : List Str} {lo hi : Int} {a b : Nat} {n : Int} (h : tn ws lo hi a = .inr (n, b)) : b ≤ ws.length ∧ lo ≤ n ∧ n ≤ hi := by
  unfold tn at h
  split at h
  · cases h
  · rename_i z e
    split at h
    · cases h
    · rename_i m hm
      cases h
      refine ⟨(List.getElem?_eq_some_iff.mp e).1, ?_⟩
      unfold within at hm
      obtain ⟨k, _, hk⟩ := Option.bind_eq_some_iff.mp hm
      split at hk
      · cases hk
        assumption
      · cases hk
theorem tkI_ok {ws : List Str} {f : Nat → Rp} {r : Nat} (hf : ∀ a p b, f a = .inr (p, b) → b ≤ ws.length ∧ p.ok ∧ p.dep ≤ r) {a b : Nat} {p : PT} (h : tkI ws f a = .inr (p, b)) : b ≤ ws.length ∧ p.ok ∧ p.dep ≤ r := by
  unfold tkI at h
  split at h
  · cases h
  · split at h
    · cases h
    · rename_i e1
      split at h
      · cases h
      · rename_i e2
        cases h
        exact ⟨gb_le e2, (hf _ _ _ e1).2⟩
theorem tkN_ok {ws : List Str} {z : Str} {a b : Nat} {p : PT} (h : tkN ws z a = .inr (p, b)) : b ≤ ws.length ∧ p.ok ∧ p.dep = 0 := by
  unfold tkN at h
  split at h
  · split at h
    · cases h
    · rename_i e
      cases h
      exact ⟨(tn_le e).1, (tn_le e).2, rfl⟩
  · split at h
    · cases h
    · rename_i n a1 e
      cases h
      refine ⟨(tn_le e).1, ?_⟩
      have := (tn_le e).2
      split
      · exact ⟨this, rfl⟩
      · split <;> exact ⟨this, rfl⟩
theorem tkW_ok {ws : List Str} {f : Nat → Rp} {r : Nat} (hf : ∀ a p b, f a = .inr (p, b) → b ≤ ws.length ∧ p.ok ∧ p.dep ≤ r) {z : Str} {a b : Nat} {p : PT} (h : tkW ws f z a = .inr (p, b)) : b ≤ ws.length ∧ p.ok ∧ p.dep ≤ r + 1 := by
  unfold tkW at h
  split at h
  · cases h
  · rename_i e1
    split at h
    · cases h
      have := tkI_ok hf e1
      exact ⟨this.1, this.2.1, Nat.succ_le_succ this.2.2⟩
    · split at h
      · cases h
      · split at h
        · cases h
        · rename_i e2
          cases h
          have h1 := tkI_ok hf e1
          have h2 := tkI_ok hf e2
          exact ⟨h2.1, ⟨h1.2.1, h2.2.1⟩, Nat.succ_le_succ (Nat.max_le.mpr ⟨h1.2.2, h2.2.2⟩)⟩
theorem tkS_ok {ws : List Str} {a b r : Nat} {p : PT} {wide : Str → Rp} (hw : ∀ z p b, wide z = .inr (p, b) → b ≤ ws.length ∧ p.ok ∧ p.dep ≤ r) (h : tkS ws a wide = .inr (p, b)) : b ≤ ws.length ∧ p.ok ∧ p.dep ≤ r := by
  unfold tkS at h
  split at h
  · cases h
  · split at h
    · exact hw _ _ _ h
    · split at h
      · have := tkN_ok h
        exact ⟨this.1, this.2.1, by omega⟩
      · cases h
theorem tkP_ok {ws : List Str} : ∀ (r : Nat) {a b : Nat} {p : PT}, tkP ws r a = .inr (p, b) → b ≤ ws.length ∧ p.ok ∧ p.dep ≤ r
  | 0, a, b, p, h => by
    unfold tkP at h
    exact tkS_ok (fun _ _ _ e => by cases e) h
  | r + 1, a, b, p, h => tkS_ok (fun _ _ _ e => tkW_ok (fun _ _ _ e => tkP_ok r e) e) h
/-- what is owed for what is read -/
def RpP (mg : Str → Option Value) (Q : VK) (E : XK) (x l : Addr) (ws : List Str) (H : Hp) : Rp → Prop
  | .inl k => NPX mg E x H k
  | .inr (p, a) => ∀ H' y, Kx x H H' → Wds mg H' x l ws a → PTA mg (fun b => b ≠ x ∧ H b = none) H' p y → Q (.ref y) H'
theorem none_kx {x b : Addr} {H H' : Hp} (e : Kx x H H') (h : b ≠ x ∧ H' b = none) : b ≠ x ∧ H b = none := ⟨h.1, by
  cases z : H b with
  | none => rfl
  | some o => rw [e _ _ z h.1] at h; cases h.2⟩
theorem RpP.kx {mg : Str → Option Value} {Q : VK} {E : XK} {x l : Addr} {ws : List Str} {H H' : Hp} {r : Rp} (h : RpP mg Q E x l ws H r) (e : Kx x H H') : RpP mg Q E x l ws H' r := by
  match r with
  | .inl k => exact NPX.kx h e
  | .inr (p, a) => exact fun H2 y e2 hw hp => h H2 y (e.trans e2) hw (hp.keep (fun _ _ e _ => e) fun b => none_kx e)
theorem Wds.nx {mg : Str → Option Value} {H : Hp} {x l y : Addr} {ws : List Str} {a : Nat} (h : Wds mg H x l ws a) (n : H y = none) : y ≠ x := fun z => by
  obtain ⟨dx, h1, _⟩ := h
  rw [z, h1] at n
  cases n
def spq_Words_take_plan (D : Nat) (K : PySem.W.Frag) (mg : Str → Option Value) : Sp := fun vs H Q E => match vs with | [.ref x, .int d] => ∃ l ws a r, Wds mg H x l ws a ∧ a ≤ ws.length ∧ WsOk ws ∧ d = 3 - ((r : Nat) : Int) ∧ 3 * r ≤ D ∧ RpP mg Q E x l ws H (tkP ws r a) | _ => False
def spr_Words_take_plan : Nat → PySem.W.Frag → (Str → Option Value) → Sp
  | 0, _, _ => SpF
  | D + 1, K, mg => spq_Words_take_plan D K mg
abbrev sp_Words_take_plan (K : PySem.W.Frag) (mg : Str → Option Value) : Sp := spr_Words_take_plan 10 K mg
def spq_Words_take_wide (D : Nat) (K : PySem.W.Frag) (mg : Str → Option Value) : Sp := fun vs H Q E => match vs with | [.ref x, .str z, .int d] => ∃ l ws a r, Wds mg H x l ws a ∧ a ≤ ws.length ∧ WsOk ws ∧ d = 3 - ((r : Nat) : Int) ∧ 3 * r + 2 ≤ D ∧ RpP mg Q E x l ws H (tkW ws (tkP ws r) z a) | _ => False
def spr_Words_take_wide : Nat → PySem.W.Frag → (Str → Option Value) → Sp
  | 0, _, _ => SpF
  | D + 1, K, mg => spq_Words_take_wide D K mg
abbrev sp_Words_take_wide (K : PySem.W.Frag) (mg : Str → Option Value) : Sp := spr_Words_take_wide 10 K mg
def spq_Words_take_inner (D : Nat) (K : PySem.W.Frag) (mg : Str → Option Value) : Sp := fun vs H Q E => match vs with | [.ref x, .int d] => ∃ l ws a r, Wds mg H x l ws a ∧ a ≤ ws.length ∧ WsOk ws ∧ d = 3 - ((r : Nat) : Int) ∧ 3 * r + 1 ≤ D ∧ RpP mg Q E x l ws H (tkI ws (tkP ws r) a) | _ => False
def spr_Words_take_inner : Nat → PySem.W.Frag → (Str → Option Value) → Sp
  | 0, _, _ => SpF
  | D + 1, K, mg => spq_Words_take_inner D K mg
abbrev sp_Words_take_inner (K : PySem.W.Frag) (mg : Str → Option Value) : Sp := spr_Words_take_inner 10 K mg
structure Grp_W (P : Program) (w : World) (K : PySem.W.Frag) (mg : Str → Option Value) (base : Heap) (n : Nat) : Prop where
  g_Words_take_plan : MetX P w K mg base (4 + n) (cA mg "Words") "take_plan" (spr_Words_take_plan n K mg)
  g_Words_take_wide : MetX P w K mg base (4 + n) (cA mg "Words") "take_wide" (spr_Words_take_wide n K mg)
  g_Words_take_inner : MetX P w K mg base (4 + n) (cA mg "Words") "take_inner" (spr_Words_take_inner n K mg)
theorem st_Words_take_plan (T : Txt K mg) (D : Nat) (ih : Grp_W P w K mg base D) : MetX P w K mg base (4 + D + 1) (cA mg "Words") "take_plan" (spr_Words_take_plan (D + 1) K mg) := by
  refine MethAt.metX T.k_Words T.d_Words_take_plan (k := 4 + D) sc_Words_take_plan (by intro vs H Q E h; replace h : spq_Words_take_plan D K mg vs H Q E := h; unfold spq_Words_take_plan at h; split at h <;> first | rfl | exact h.elim) fun f cdv A outer s H vs Q E hr h => ?_
  refine ⟨_, (pss_cons (ps_set (i := 2) sc_Words_take_plan.nd rfl (.inl rfl) (pe_xMt0 (c_Words_here T) hr (by omega) (fun σ => passAt (takes_of rfl rfl rfl rfl) σ) (pv 0)))
    (pss_cons (ps_if (pt_cmpR op_inA (pv 2) (pe_tup (pa_cons pe_str (pa_cons pe_str pa_nil))) (by rfl))
    (pss_cons (ps_if (pt_cmpR (op_eqA hr) (pv 1) (pe_gc (by rfl) T.g_DEEPEST) (nomark _))
    (pss_one (ps_raise rfl (takes_of rfl rfl rfl rfl) (pmk_x (x_NoPlan T) T.o_NoPlan hr (by omega) (by rfl) (pa_cons (pe_fld (pv 0) rfl) pa_nil))))
    pss_nil)
    (pss_cons (ps_fldaug (pv 0) pe_int in_add)
    (pss_one (ps_ret (pe_xMt ih.g_Words_take_wide hr (by omega) (fun σ => passAt (takes_of rfl rfl rfl rfl) σ) (pv 0) (pa_cons (pv 2) (pa_cons (pe_op op_addA (pv 1) pe_int) pa_nil)))))))
    pss_nil)
    (pss_cons (ps_if (pt_cmpR op_notInA (pv 2) (pe_tup (pa_cons pe_str (pa_cons pe_str (pa_cons pe_str (pa_cons pe_str pa_nil))))) (by rfl))
    (pss_one (ps_raise rfl (takes_of rfl rfl rfl rfl) (pmk_x (x_NoPlan T) T.o_NoPlan hr (by omega) (by rfl) (pa_cons (pe_fld (pv 0) rfl) pa_nil))))
    pss_nil)
    (pss_cons (ps_fldaug (pv 0) pe_int in_add)
    (pss_cons (ps_if (pt_cmpR (op_eqA hr) (pv 2) pe_str (nomark _))
    (pss_one (ps_ret (pe_xMk (m_Start T) hr (by omega) (by rfl) (fun σ => passAt (takes_of rfl rfl rfl rfl) σ) (pa_cons (pe_xMt (c_Words_take_number T) hr (by omega) (fun σ => passAt (takes_of rfl rfl rfl rfl) σ) (pv 0) (pa_cons pe_int (pa_cons (pe_gc (by rfl) T.g_MOST_STEP_plantexts) pa_nil))) pa_nil))))
    pss_nil)
    (pss_cons (ps_set (i := 3) sc_Words_take_plan.nd rfl (.inl rfl) (pe_xMt (c_Words_take_number T) hr (by omega) (fun σ => passAt (takes_of rfl rfl rfl rfl) σ) (pv 0) (pa_cons pe_int (pa_cons (pe_gc (by rfl) T.g_MOST_DRAWN_plantexts) pa_nil))))
    (pss_cons (ps_if (pt_cmpR (op_eqA hr) (pv 2) pe_str (nomark _))
    (pss_one (ps_ret (pe_xMk (m_Few T) hr (by omega) (by rfl) (fun σ => passAt (takes_of rfl rfl rfl rfl) σ) (pa_cons (pv 3) pa_nil))))
    pss_nil)
    (pss_cons (ps_if (pt_cmpR (op_eqA hr) (pv 2) pe_str (nomark _))
    (pss_one (ps_ret (pe_xMk (m_Loose T) hr (by omega) (by rfl) (fun σ => passAt (takes_of rfl rfl rfl rfl) σ) (pa_cons (pv 3) pa_nil))))
    pss_nil)
    (pss_one (ps_ret (pe_xMk (m_Duel T) hr (by omega) (by rfl) (fun σ => passAt (takes_of rfl rfl rfl rfl) σ) (pa_cons (pv 3) pa_nil)))))))))))), ?_⟩
  try simp only [cxOf_K, cxOf_K', cxOf_mg, cxOf_mg']
  replace h : spq_Words_take_plan D K mg vs H Q E := h
  unfold spq_Words_take_plan at h
  split at h
  case h_2 => exact h.elim
  rename_i x d
  rw [show L2.start ["self", "deep", "word", "number"] [V.ref x, V.int d] = [some (V.ref x), some (V.int d), none, none] from rfl]
  obtain ⟨l, ws, a, r, hw, ha, hok, rfl, hD, q⟩ := h
  have hw' := hw
  obtain ⟨dx, hx, hl⟩ := hw'
  walk_at "sts"
  refine L_methv hx rfl ?_
  walk_at "sts"
  cases hz : ws[a]? with
  | none =>
    refine ⟨l, ws, a, hw, ha, .inl ⟨hz, ?_⟩⟩
    cases r with
    | zero => rw [tkP, tkS, hz] at q; exact q
    | succ r => rw [tkP, tkS, hz] at q; exact q
  | some z =>
    have hat := (List.getElem?_eq_some_iff.mp hz).1
    refine ⟨l, ws, a, hw, ha, .inr ⟨z, hz, ?_⟩⟩
    walk_at "sts"
    walk_at "nw"
    rename_i p hp H1 s1 e1
    refine L_inTs (ns := ["each", "first"]) (.of e1) ?_
    have hx1 := s1 _ _ hx
    have at1 : ∀ {H2 : Hp}, (∀ b o, H1 b = some o → b ≠ x → H2 b = some o) → H2 x = some (.ins (cA mg "Words") dx [("words", .ref l), ("at", .int ((a + 1 : Nat) : Int))]) → Kx x H H2 ∧ Wds mg H2 x l ws (a + 1) := fun k e => ⟨fun b o hb n => k _ _ (s1 _ _ hb) n, dx, e, k _ _ (s1 _ _ hl) hw.ne⟩
    walk_at "sts"
    refine L_d (fun c => ?_) (fun c => ?_)
    · walk_at "sts"
      cases r with
      | zero =>
        rw [tkP, tkS, hz] at q
        dsimp only at q
        rw [if_pos c] at q
        refine L_dT (by omega) ?_
        walk_at "sts"
        refine L_mkO ?_
        walk_at "sts"
        refine L_fldv hx1 T.k_Words T.na_Words_at rfl ?_
        walk_at "sts"
        exact q_noPlanK fun d H' s hd => q d H' (.same (s1.trans s)) hd
      | succ r =>
        rw [tkP, tkS, hz] at q
        dsimp only at q
        rw [if_pos c] at q
        refine L_dF (by omega) ?_
        walk_at "sts"
        refine L_fldaug ?_
        walk_at "sts"
        refine ⟨x, _, dx, _, _, rfl, hx1, T.k_Words, T.na_Words_at, rfl, ?_⟩
        walk_at "sts"
        refine L_rAdd ⟨dx, _, hx1, by show 2 < 1000; decide, ?_⟩
        walk_at "sts"
        obtain ⟨D', rfl⟩ : ∃ D', D = D' + 1 := ⟨D - 1, by omega⟩
        obtain ⟨k2, w2⟩ := at1 (H2 := upd H1 x (.ins (cA mg "Words") dx [("words", .ref l), ("at", .int ((a + 1 : Nat) : Int))])) (fun b o hb n => by rw [upd_ne n]; exact hb) upd_same
        refine L_methv upd_same rfl ?_
        walk_at "sts"
        exact ⟨l, ws, a + 1, r, w2, hat, hok, by omega, by omega, q.kx k2⟩
    · have q2 : RpP mg Q E x l ws H (if z ∈ (["few", "start", "loose", "duel"] : List Str) then tkN ws z (a + 1) else .inl a) := by
        cases r with
        | zero => rw [tkP, tkS, hz] at q; dsimp only at q; rw [if_neg c] at q; exact q
        | succ r => rw [tkP, tkS, hz] at q; dsimp only at q; rw [if_neg c] at q; exact q
      clear q
      walk_at "sts"
      walk_at "nw"
      rename_i p2 hp2 H2 s2 e2
      refine L_notInTs (ns := ["few", "start", "loose", "duel"]) (.of e2) ?_
      have hx2 := s2 _ _ hx1
      walk_at "sts"
      refine L_nd (fun c2 => ?_) (fun c2 => ?_)
      · rw [if_neg c2] at q2
        walk_at "sts"
        refine L_mkO ?_
        walk_at "sts"
        refine L_fldv hx2 T.k_Words T.na_Words_at rfl ?_
        walk_at "sts"
        exact q_noPlanK fun d H' s hd => q2 d H' (.same ((s1.trans s2).trans s)) hd
      · rw [if_pos c2] at q2
        walk_at "sts"
        refine L_fldaug ?_
        walk_at "sts"
        refine ⟨x, _, dx, _, _, rfl, hx2, T.k_Words, T.na_Words_at, rfl, ?_⟩
        walk_at "sts"
        refine L_rAdd ⟨dx, _, hx2, by show 2 < 1000; decide, ?_⟩
        walk_at "sts"
        obtain ⟨k3, w3⟩ := at1 (H2 := upd H2 x (.ins (cA mg "Words") dx [("words", .ref l), ("at", .int ((a + 1 : Nat) : Int))])) (fun b o hb n => by rw [upd_ne n]; exact s2 _ _ hb) upd_same
        have q3 := q2.kx k3
        clear q2
        have w3' : Wds mg (upd H2 x (.ins (cA mg "Words") dx [("words", .ref l), ("at", .int ((a : Int) + 1))])) x l ws (a + 1) := w3
        clear w3
        refine L_d (fun c3 => ?_) (fun c3 => ?_)
        · rw [tkN, if_pos c3] at q3
          walk_at "sts"
          refine L_methv upd_same rfl ?_
          walk_at "sts"
          refine ⟨l, ws, a + 1, w3', hat, hok, ?_⟩
          cases hn : tn ws 1 100 (a + 1) with
          | inl k => rw [hn] at q3; exact q3
          | inr pr =>
            obtain ⟨n, b⟩ := pr
            rw [hn] at q3
            dsimp only at q3
            intro H4 k4 w4
            walk_at "sts"
            have q4 := RpP.kx q3 k4
            intro y dy ny nd ne
            refine ini_ok ny nd ne (tn_le hn).2.1 (tn_le hn).2.2 fun H5 s5 e5 => ?_
            exact q4 H5 y (.same s5) (w4.same s5) ⟨⟨w4.nx ny, ny⟩, dy, e5⟩
        · rw [tkN, if_neg c3] at q3
          walk_at "sts"
          refine L_methv upd_same rfl ?_
          walk_at "sts"
          refine ⟨l, ws, a + 1, w3', hat, hok, ?_⟩
          cases hn : tn ws 0 24 (a + 1) with
          | inl k => rw [hn] at q3; exact q3
          | inr pr =>
            obtain ⟨n, b⟩ := pr
            rw [hn] at q3
            dsimp only at q3
            intro H4 k4 w4
            walk_at "sts"
            have q4 := RpP.kx q3 k4
            refine L_d (fun c4 => ?_) (fun c4 => ?_)
            · rw [if_pos c4] at q4
              walk_at "sts"
              intro y dy ny nd ne
              refine ini_ok ny nd ne (tn_le hn).2.1 (tn_le hn).2.2 fun H5 s5 e5 => ?_
              exact q4 H5 y (.same s5) (w4.same s5) ⟨⟨w4.nx ny, ny⟩, dy, e5⟩
            · rw [if_neg c4] at q4
              walk_at "sts"
              refine L_d (fun c5 => ?_) (fun c5 => ?_)
              · rw [if_pos c5] at q4
                walk_at "sts"
                intro y dy ny nd ne
                refine ini_ok ny nd ne (tn_le hn).2.1 (tn_le hn).2.2 fun H5 s5 e5 => ?_
                exact q4 H5 y (.same s5) (w4.same s5) ⟨⟨w4.nx ny, ny⟩, dy, e5⟩
              · rw [if_neg c5] at q4
                walk_at "sts"
                intro y dy ny nd ne
                refine ini_ok ny nd ne (tn_le hn).2.1 (tn_le hn).2.2 fun H5 s5 e5 => ?_
                exact q4 H5 y (.same s5) (w4.same s5) ⟨⟨w4.nx ny, ny⟩, dy, e5⟩
theorem st_Words_take_wide (T : Txt K mg) (D : Nat) (ih : Grp_W P w K mg base D) : MetX P w K mg base (4 + D + 1) (cA mg "Words") "take_wide" (spr_Words_take_wide (D + 1) K mg) := by
  refine MethAt.metX T.k_Words T.d_Words_take_wide (k := 4 + D) sc_Words_take_wide (by intro vs H Q E h; replace h : spq_Words_take_wide D K mg vs H Q E := h; unfold spq_Words_take_wide at h; split at h <;> first | rfl | exact h.elim) fun f cdv A outer s H vs Q E hr h => ?_
  refine ⟨_, (pss_cons (ps_set (i := 3) sc_Words_take_wide.nd rfl (.inl rfl) (pe_xMt ih.g_Words_take_inner hr (by omega) (fun σ => passAt (takes_of rfl rfl rfl rfl) σ) (pv 0) (pa_cons (pv 2) pa_nil)))
    (pss_cons (ps_if (pt_cmpR (op_eqA hr) (pv 1) pe_str (nomark _))
    (pss_one (ps_ret (pe_mk (m_Each T) hr (by omega) (by rfl) (pa_cons (pv 3) pa_nil))))
    pss_nil)
    (pss_cons (ps_expr (pe_xMt (c_Words_go_by T) hr (by omega) (fun σ => passAt (takes_of rfl rfl rfl rfl) σ) (pv 0) (pa_cons pe_str pa_nil)))
    (pss_one (ps_ret (pe_mk (m_First T) hr (by omega) (by rfl) (pa_cons (pv 3) (pa_cons (pe_xMt ih.g_Words_take_inner hr (by omega) (fun σ => passAt (takes_of rfl rfl rfl rfl) σ) (pv 0) (pa_cons (pv 2) pa_nil)) pa_nil)))))))), ?_⟩
  try simp only [cxOf_K, cxOf_K', cxOf_mg, cxOf_mg']
  replace h : spq_Words_take_wide D K mg vs H Q E := h
  unfold spq_Words_take_wide at h
  split at h
  case h_2 => exact h.elim
  rename_i x z d
  rw [show L2.start ["self", "word", "deep", "one"] [V.ref x, V.str z, V.int d] = [some (V.ref x), some (V.str z), some (V.int d), none] from rfl]
  obtain ⟨l, ws, a, r, hw, ha, hok, rfl, hD, q⟩ := h
  obtain ⟨D', rfl⟩ : ∃ D', D = D' + 1 := ⟨D - 1, by omega⟩
  have hw' := hw
  obtain ⟨dx, hx, hl⟩ := hw'
  walk_at "sts"
  refine L_methv hx rfl ?_
  walk_at "sts"
  refine ⟨l, ws, a, r, hw, ha, hok, rfl, by omega, ?_⟩
  rw [tkW] at q
  cases h1 : tkI ws (tkP ws r) a with
  | inl k => rw [h1] at q; exact q
  | inr pr =>
    obtain ⟨p, b⟩ := pr
    rw [h1] at q
    dsimp only at q
    intro H1 y k1 w1 hp
    walk_at "sts"
    refine L_d (fun c => ?_) (fun c => ?_)
    · rw [if_pos c] at q
      walk_at "sts"
      intro e de ne nde nee
      refine ⟨de, upd_same, fun H2 k2 e2 => ⟨rfl, ?_⟩⟩
      have s2 : Same H1 H2 := fun b o hb => k2 _ _ (by rw [upd_ne (ne_of_none hb ne), upd_ne (ne_of_none hb nde)]; exact hb) (ne_of_none hb ne)
      exact q H2 e (k1.trans (.same s2)) (w1.same s2) ⟨none_kx k1 ⟨w1.nx ne, ne⟩, de, y, e2, hp.same s2⟩
    · rw [if_neg c] at q
      walk_at "sts"
      obtain ⟨dx1, hx1, hl1⟩ := id w1
      refine L_methv hx1 rfl ?_
      walk_at "sts"
      refine ⟨l, ws, b, w1, (tkI_ok (fun _ _ _ e => tkP_ok r e) h1).1, hok, ?_⟩
      cases hg : gb ws "then" b with
      | inl k => rw [hg] at q; exact NPX.kx q k1
      | inr b2 =>
        rw [hg] at q
        dsimp only at q
        intro H2 k2 w2
        walk_at "sts"
        obtain ⟨dx2, hx2, hl2⟩ := id w2
        refine L_methv hx2 rfl ?_
        walk_at "sts"
        refine ⟨l, ws, b2, r, w2, gb_le hg, hok, rfl, by omega, ?_⟩
        cases h2 : tkI ws (tkP ws r) b2 with
        | inl k => rw [h2] at q; exact NPX.kx q (k1.trans k2)
        | inr pr2 =>
          obtain ⟨p2, b3⟩ := pr2
          rw [h2] at q
          intro H3 y2 k3 w3 hp2
          walk_at "sts"
          intro e de ne nde nee
          refine ⟨de, upd_same, fun H4 k4 e4 => ⟨rfl, ?_⟩⟩
          have s4 : Same H3 H4 := fun b o hb => k4 _ _ (by rw [upd_ne (ne_of_none hb ne), upd_ne (ne_of_none hb nde)]; exact hb) (ne_of_none hb ne)
          exact q H4 e ((k1.trans k2).trans (k3.trans (.same s4))) (w3.same s4) ⟨none_kx ((k1.trans k2).trans k3) ⟨w3.nx ne, ne⟩, de, y, y2, e4, hp.keep (fun b o hb hP => s4 _ _ ((k2.trans k3) b o hb hP.1)) fun _ h => h, (hp2.same s4).keep (fun _ _ e _ => e) fun b => none_kx (k1.trans k2)⟩
theorem st_Words_take_inner (T : Txt K mg) (D : Nat) (ih : Grp_W P w K mg base D) : MetX P w K mg base (4 + D + 1) (cA mg "Words") "take_inner" (spr_Words_take_inner (D + 1) K mg) := by
  refine MethAt.metX T.k_Words T.d_Words_take_inner (k := 4 + D) sc_Words_take_inner (by intro vs H Q E h; replace h : spq_Words_take_inner D K mg vs H Q E := h; unfold spq_Words_take_inner at h; split at h <;> first | rfl | exact h.elim) fun f cdv A outer s H vs Q E hr h => ?_
  refine ⟨_, (pss_cons (ps_expr (pe_xMt (c_Words_go_by T) hr (by omega) (fun σ => passAt (takes_of rfl rfl rfl rfl) σ) (pv 0) (pa_cons pe_str pa_nil)))
    (pss_cons (ps_set (i := 2) sc_Words_take_inner.nd rfl (.inl rfl) (pe_xMt ih.g_Words_take_plan hr (by omega) (fun σ => passAt (takes_of rfl rfl rfl rfl) σ) (pv 0) (pa_cons (pv 1) pa_nil)))
    (pss_cons (ps_expr (pe_xMt (c_Words_go_by T) hr (by omega) (fun σ => passAt (takes_of rfl rfl rfl rfl) σ) (pv 0) (pa_cons pe_str pa_nil)))
    (pss_one (ps_ret (pv 2)))))), ?_⟩
  try simp only [cxOf_K, cxOf_K', cxOf_mg, cxOf_mg']
  replace h : spq_Words_take_inner D K mg vs H Q E := h
  unfold spq_Words_take_inner at h
  split at h
  case h_2 => exact h.elim
  rename_i x d
  rw [show L2.start ["self", "deep", "found"] [V.ref x, V.int d] = [some (V.ref x), some (V.int d), none] from rfl]
  obtain ⟨l, ws, a, r, hw, ha, hok, rfl, hD, q⟩ := h
  obtain ⟨D', rfl⟩ : ∃ D', D = D' + 1 := ⟨D - 1, by omega⟩
  obtain ⟨dx, hx, hl⟩ := id hw
  rw [tkI] at q
  walk_at "sts"
  refine L_methv hx rfl ?_
  walk_at "sts"
  refine ⟨l, ws, a, hw, ha, hok, ?_⟩
  cases h1 : gb ws "(" a with
  | inl k => rw [h1] at q; exact q
  | inr b1 =>
    rw [h1] at q
    dsimp only at q
    intro H1 k1 w1
    walk_at "sts"
    obtain ⟨dx1, hx1, hl1⟩ := id w1
    refine L_methv hx1 rfl ?_
    walk_at "sts"
    refine ⟨l, ws, b1, r, w1, gb_le h1, hok, rfl, by omega, ?_⟩
    cases h2 : tkP ws r b1 with
    | inl k => rw [h2] at q; exact NPX.kx q k1
    | inr pr =>
      obtain ⟨p, b2⟩ := pr
      rw [h2] at q
      dsimp only at q
      intro H2 y k2 w2 hp
      walk_at "sts"
      obtain ⟨dx2, hx2, hl2⟩ := id w2
      refine L_methv hx2 rfl ?_
      walk_at "sts"
      refine ⟨l, ws, b2, w2, (tkP_ok r h2).1, hok, ?_⟩
      cases h3 : gb ws ")" b2 with
      | inl k => rw [h3] at q; exact NPX.kx q (k1.trans k2)
      | inr b3 =>
        rw [h3] at q
        intro H3 k3 w3
        walk_at "sts"
        exact q H3 y ((k1.trans k2).trans k3) w3 (hp.keep (fun b o hb hP => k3 _ _ hb hP.1) fun b h => none_kx k1 h)
theorem grp_W (T : Txt K mg) : ∀ D : Nat, Grp_W P w K mg base D
  | 0 => ⟨MethAt.metX0' T.k_Words T.d_Words_take_plan, MethAt.metX0' T.k_Words T.d_Words_take_wide, MethAt.metX0' T.k_Words T.d_Words_take_inner⟩
  | D + 1 => ⟨st_Words_take_plan T D (grp_W T D), st_Words_take_wide T D (grp_W T D), st_Words_take_inner T D (grp_W T D)⟩
theorem c_Words_take_plan (T : Txt K mg) : MetX P w K mg base (14) (cA mg "Words") "take_plan" (sp_Words_take_plan K mg) := (grp_W T 10).g_Words_take_plan
theorem c_Words_take_wide (T : Txt K mg) : MetX P w K mg base (14) (cA mg "Words") "take_wide" (sp_Words_take_wide K mg) := (grp_W T 10).g_Words_take_wide
theorem c_Words_take_inner (T : Txt K mg) : MetX P w K mg base (14) (cA mg "Words") "take_inner" (sp_Words_take_inner K mg) := (grp_W T 10).g_Words_take_inner
def sp_plan_of (K : PySem.W.Frag) (mg : Str → Option Value) : Sp := fun vs H Q E => match vs with | [v] => (NotS K H v ∧ ∀ d H', Same H H' → H' d = some (.xd [("place", .int 0)]) → E (.ref (cA mg "NoPlan")) (some d) H') ∨ ∃ z : Str, v = .str z ∧ z.length ≤ 1000 ∧ (match rdP z with | .inl k => ∀ d H', Same H H' → H' d = some (.xd [("place", .int ((k : Nat) : Int))]) → E (.ref (cA mg "NoPlan")) (some d) H' | .inr p => ∀ H' y, Same H H' → PTA mg (fun b => H b = none) H' p y → Q (.ref y) H') | _ => False
theorem c_plan_of (T : Txt K mg) : CalX P w K mg base 15 "plan_of" (sp_plan_of K mg) := by
  refine T.d_plan_of.calX (k := 14) sc_plan_of (by intro vs H Q E h; unfold sp_plan_of at h; split at h <;> first | rfl | exact h.elim) fun f cdv A outer s H vs Q E hr h => ?_
  refine ⟨_, (pss_cons (ps_if (pt_not (pt_val (pe_callB call_isi (by rfl) T.n_isinstance (by decide +kernel) (pa_cons (pv 0) (pa_cons (pe_ty "str" (by rfl) T.n_str (by decide +kernel)) pa_nil)))))
    (pss_one (ps_raise rfl (takes_of rfl rfl rfl rfl) (pmk_x (x_NoPlan T) T.o_NoPlan hr (by decide) (by rfl) (pa_cons pe_int pa_nil))))
    pss_nil)
    (pss_cons (ps_set (i := 1) sc_plan_of.nd rfl (.inl rfl) (pe_mk (m_Words T) hr (by decide) (by rfl) (pa_cons (pe_bm PySem.F.plainAttrs_str PySem.F.slot_str_split PySem.F.type_str_split mt_split (pv 0) (pa_cons pe_str pa_nil)) pa_nil)))
    (pss_cons (ps_set (i := 2) sc_plan_of.nd rfl (.inl rfl) (pe_xMt (c_Words_take_plan T) hr (by decide) (fun σ => passAt (takes_of rfl rfl rfl rfl) σ) (pv 1) (pa_cons pe_int pa_nil)))
    (pss_cons (ps_if (pt_cmpR op_ltA (pe_fld (pv 1) rfl) (pe_callB call_lenA (by rfl) T.n_len (by decide +kernel) (pa_cons (pe_fld (pv 1) rfl) pa_nil)) (nomark _))
    (pss_one (ps_raise rfl (takes_of rfl rfl rfl rfl) (pmk_x (x_NoPlan T) T.o_NoPlan hr (by decide) (by rfl) (pa_cons (pe_fld (pv 1) rfl) pa_nil))))
    pss_nil)
    (pss_one (ps_ret (pv 2))))))), ?_⟩
  try simp only [cxOf_K, cxOf_K', cxOf_mg, cxOf_mg']
  unfold sp_plan_of at h
  split at h
  case h_2 => exact h.elim
  rename_i v
  rw [show L2.start ["text", "words", "found"] [v] = [some (v), none, none] from rfl]
  rcases h with ⟨⟨ty, h1, h2⟩, q⟩ | ⟨z, rfl, hz, q⟩
  · walk_at "sts"
    refine L_isi h1 h2 ?_
    walk_at "sts"
    refine L_mkO ?_
    walk_at "sts"
    exact q_noPlanK fun d H' s hd => q d H' s hd
  walk_at "sts"
  refine L_isi (.base (.str _)) (b := true) (by decide +kernel) ?_
  walk_at "sts"
  refine L_tyS ?_
  walk_at "sts"
  refine ⟨z, " ", rfl, rfl, rfl, sz_dec (by omega), ?_⟩
  rw [show (" " : Str) = ⟨#[32]⟩ from rfl, split_is (by decide)]
  have hok : WsOk (cutAt 32 z) := ⟨by have := cutAt_many 32 z; omega, fun w hw => Nat.le_trans (cutAt_len hw) hz⟩
  rw [rdP] at q
  generalize cutAt 32 z = ws at q hok
  walk_at "nwp"
  rename_i p hp H1 s1 e1
  walk_at "sts"
  intro x dx nx nd ne
  refine ⟨dx, ws, upd_same, by rw [upd_ne (ne_of_none e1 nx), upd_ne (ne_of_none e1 nd)]; exact e1, fun H2 k2 w2 => ⟨rfl, ?_⟩⟩
  have s2 : Same H1 H2 := fun b o hb => k2 _ _ (by rw [upd_ne (ne_of_none hb nx), upd_ne (ne_of_none hb nd)]; exact hb) (ne_of_none hb nx)
  have nk : ∀ {H3 : Hp}, Kx x H2 H3 → Same H H3 := fun k b o hb => k _ _ (s2 _ _ (s1 _ _ hb)) (ne_of_none (s1 _ _ hb) nx)
  walk_at "sts"
  obtain ⟨dx2, hx2, hl2⟩ := id w2
  refine L_methv hx2 rfl ?_
  walk_at "sts"
  refine ⟨p, ws, 0, 3, w2, Nat.zero_le _, hok, rfl, by decide, ?_⟩
  cases h1 : tkP ws 3 0 with
  | inl k =>
    rw [h1] at q
    exact fun d H3 k3 hd => q d H3 (nk k3) hd
  | inr pr =>
    obtain ⟨t, b⟩ := pr
    rw [h1] at q
    dsimp only at q
    intro H3 y k3 w3 hy
    obtain ⟨dx3, hx3, hl3⟩ := id w3
    walk_at "sts"
    refine L_fldv hx3 T.k_Words T.na_Words_at rfl ?_
    walk_at "sts"
    refine L_fldv hx3 T.k_Words T.na_Words_words rfl ?_
    walk_at "sts"
    refine L_lenL (.of hl3) ?_
    walk_at "sts"
    rw [List.length_map]
    refine L_d (fun c => ?_) (fun c => ?_)
    · rw [if_pos (by omega)] at q
      walk_at "sts"
      refine L_mkO ?_
      walk_at "sts"
      refine L_fldv hx3 T.k_Words T.na_Words_at rfl ?_
      walk_at "sts"
      exact q_noPlanK fun d H' s hd => q d H' ((nk k3).trans s) hd
    · rw [if_neg (by omega)] at q
      walk_at "sts"
      refine q H3 y (nk k3) (hy.keep (fun _ _ e _ => e) fun b hb => ?_)
      cases e : H b with
      | none => rfl
      | some o => rw [s2 _ _ (s1 _ _ e)] at hb; cases hb.2
theorem txt_len (z : Str) {t : Int} {n : Nat} (hz : z.length ≤ n) (h1 : 0 ≤ t) (h2 : t ≤ 100) : (z ++ (↑(toString t) : Str)).length ≤ n + 3 := by
  have := str_short t h1 h2
  rw [str_len_append]
  omega
theorem PT.len : ∀ {p : PT}, p.ok → p.text.length + 25 ≤ 40 * 2 ^ p.dep
  | .few m, h => by
    have := txt_len "few " (n := 4) (t := m) (by decide) h.1 (by have := h.2; omega)
    show ("few " ++ (↑(toString m) : Str)).length + 25 ≤ 40 * 2 ^ 0
    omega
  | .sta m, h => by
    have := txt_len "start " (n := 6) (t := m) (by decide) (by have := h.1; omega) h.2
    show ("start " ++ (↑(toString m) : Str)).length + 25 ≤ 40 * 2 ^ 0
    omega
  | .loo m, h => by
    have := txt_len "loose " (n := 6) (t := m) (by decide) h.1 (by have := h.2; omega)
    show ("loose " ++ (↑(toString m) : Str)).length + 25 ≤ 40 * 2 ^ 0
    omega
  | .due m, h => by
    have := txt_len "duel " (n := 5) (t := m) (by decide) h.1 (by have := h.2; omega)
    show ("duel " ++ (↑(toString m) : Str)).length + 25 ≤ 40 * 2 ^ 0
    omega
  | .each p, h => by
    have := PT.len (p := p) h
    show ("each ( " ++ p.text ++ " )").length + 25 ≤ 40 * 2 ^ (p.dep + 1)
    rw [str_len_append, str_len_append, Nat.pow_succ]
    have e1 : ("each ( " : Str).length = 7 := by decide
    have e2 : (" )" : Str).length = 2 := by decide
    have := Nat.one_le_two_pow (n := p.dep)
    omega
  | .first o i, h => by
    have h1 := PT.len (p := o) h.1
    have h2 := PT.len (p := i) h.2
    show ("first ( " ++ o.text ++ " ) then ( " ++ i.text ++ " )").length + 25 ≤ 40 * 2 ^ (max o.dep i.dep + 1)
    rw [str_len_append, str_len_append, str_len_append, str_len_append, Nat.pow_succ]
    have e1 : ("first ( " : Str).length = 8 := by decide
    have e2 : (" )" : Str).length = 2 := by decide
    have e3 : (" ) then ( " : Str).length = 10 := by decide
    have b1 : 2 ^ o.dep ≤ 2 ^ max o.dep i.dep := Nat.pow_le_pow_right (by decide) (Nat.le_max_left ..)
    have b2 : 2 ^ i.dep ≤ 2 ^ max o.dep i.dep := Nat.pow_le_pow_right (by decide) (Nat.le_max_right ..)
    omega
theorem PT.len3 {p : PT} (h : p.ok) (d : p.dep ≤ 4) : p.text.length ≤ 640 := by
  have := PT.len h
  have : 2 ^ p.dep ≤ 2 ^ 4 := Nat.pow_le_pow_right (by decide) d
  omega
def spq_Few_text (D : Nat) (K : PySem.W.Frag) (mg : Str → Option Value) : Sp := fun vs H Q _ => match vs with | [.ref x] => ∃ m, PTA mg Any H (.few m) x ∧ (PT.few m).ok ∧ Q (.str (PT.few m).text) H | _ => False
def spr_Few_text : Nat → PySem.W.Frag → (Str → Option Value) → Sp
  | 0, _, _ => SpF
  | D + 1, K, mg => spq_Few_text D K mg
abbrev sp_Few_text (K : PySem.W.Frag) (mg : Str → Option Value) : Sp := spr_Few_text 5 K mg
def spq_Start_text (D : Nat) (K : PySem.W.Frag) (mg : Str → Option Value) : Sp := fun vs H Q _ => match vs with | [.ref x] => ∃ m, PTA mg Any H (.sta m) x ∧ (PT.sta m).ok ∧ Q (.str (PT.sta m).text) H | _ => False
def spr_Start_text : Nat → PySem.W.Frag → (Str → Option Value) → Sp
  | 0, _, _ => SpF
  | D + 1, K, mg => spq_Start_text D K mg
abbrev sp_Start_text (K : PySem.W.Frag) (mg : Str → Option Value) : Sp := spr_Start_text 5 K mg
def spq_Loose_text (D : Nat) (K : PySem.W.Frag) (mg : Str → Option Value) : Sp := fun vs H Q _ => match vs with | [.ref x] => ∃ m, PTA mg Any H (.loo m) x ∧ (PT.loo m).ok ∧ Q (.str (PT.loo m).text) H | _ => False
def spr_Loose_text : Nat → PySem.W.Frag → (Str → Option Value) → Sp
  | 0, _, _ => SpF
  | D + 1, K, mg => spq_Loose_text D K mg
abbrev sp_Loose_text (K : PySem.W.Frag) (mg : Str → Option Value) : Sp := spr_Loose_text 5 K mg
def spq_Duel_text (D : Nat) (K : PySem.W.Frag) (mg : Str → Option Value) : Sp := fun vs H Q _ => match vs with | [.ref x] => ∃ m, PTA mg Any H (.due m) x ∧ (PT.due m).ok ∧ Q (.str (PT.due m).text) H | _ => False
def spr_Duel_text : Nat → PySem.W.Frag → (Str → Option Value) → Sp
  | 0, _, _ => SpF
  | D + 1, K, mg => spq_Duel_text D K mg
abbrev sp_Duel_text (K : PySem.W.Frag) (mg : Str → Option Value) : Sp := spr_Duel_text 5 K mg
def spq_Each_text (D : Nat) (K : PySem.W.Frag) (mg : Str → Option Value) : Sp := fun vs H Q _ => match vs with | [.ref x] => ∃ p, PTA mg Any H (.each p) x ∧ p.ok ∧ p.dep + 1 ≤ D ∧ D ≤ 4 ∧ Q (.str (PT.each p).text) H | _ => False
def spr_Each_text : Nat → PySem.W.Frag → (Str → Option Value) → Sp
  | 0, _, _ => SpF
  | D + 1, K, mg => spq_Each_text D K mg
abbrev sp_Each_text (K : PySem.W.Frag) (mg : Str → Option Value) : Sp := spr_Each_text 5 K mg
def spq_First_text (D : Nat) (K : PySem.W.Frag) (mg : Str → Option Value) : Sp := fun vs H Q _ => match vs with | [.ref x] => ∃ p p', PTA mg Any H (.first p p') x ∧ (p.ok ∧ p'.ok) ∧ max p.dep p'.dep + 1 ≤ D ∧ D ≤ 4 ∧ Q (.str (PT.first p p').text) H | _ => False
def spr_First_text : Nat → PySem.W.Frag → (Str → Option Value) → Sp
  | 0, _, _ => SpF
  | D + 1, K, mg => spq_First_text D K mg
abbrev sp_First_text (K : PySem.W.Frag) (mg : Str → Option Value) : Sp := spr_First_text 5 K mg
structure Grp_T (P : Program) (w : World) (K : PySem.W.Frag) (mg : Str → Option Value) (base : Heap) (n : Nat) : Prop where
  g_Few_text : Met P w K mg base (0 + n) (cA mg "Few") "text" (spr_Few_text n K mg)
  g_Start_text : Met P w K mg base (0 + n) (cA mg "Start") "text" (spr_Start_text n K mg)
  g_Loose_text : Met P w K mg base (0 + n) (cA mg "Loose") "text" (spr_Loose_text n K mg)
  g_Duel_text : Met P w K mg base (0 + n) (cA mg "Duel") "text" (spr_Duel_text n K mg)
  g_Each_text : Met P w K mg base (0 + n) (cA mg "Each") "text" (spr_Each_text n K mg)
  g_First_text : Met P w K mg base (0 + n) (cA mg "First") "text" (spr_First_text n K mg)
theorem st_Few_text (T : Txt K mg) (D : Nat) (ih : Grp_T P w K mg base D) : Met P w K mg base (0 + D + 1) (cA mg "Few") "text" (spr_Few_text (D + 1) K mg) := by
  refine MethAt.met T.k_Few T.d_Few_text (k := 0 + D) sc_Few_text (by intro vs H Q E h; replace h : spq_Few_text D K mg vs H Q E := h; unfold spq_Few_text at h; split at h <;> first | rfl | exact h.elim) fun f cdv A outer s H vs Q E hr h => ?_
  refine ⟨_, (pss_one (ps_ret (pe_op op_addA pe_str (pe_callTy call_str1A (by rfl) T.n_str (by decide +kernel) (pa_cons (pe_fld (pv 0) rfl) pa_nil))))), ?_⟩
  try simp only [cxOf_K, cxOf_K', cxOf_mg, cxOf_mg']
  replace h : spq_Few_text D K mg vs H Q E := h
  unfold spq_Few_text at h
  split at h
  case h_2 => exact h.elim
  rename_i x
  rw [show L2.start ["self"] [V.ref x] = [some (V.ref x)] from rfl]
  obtain ⟨m, ⟨_, dx, hx⟩, ⟨h1, h2⟩, q⟩ := h
  walk_at "sts"
  refine L_fldv hx T.k_Few T.na_Few_many rfl ?_
  walk_at "sts"
  refine L_str1 (by omega) ?_
  walk_at "sts"
  exact L_addS (txt_short _ (by decide) (by omega) (by omega)) q
theorem st_Start_text (T : Txt K mg) (D : Nat) (ih : Grp_T P w K mg base D) : Met P w K mg base (0 + D + 1) (cA mg "Start") "text" (spr_Start_text (D + 1) K mg) := by
  refine MethAt.met T.k_Start T.d_Start_text (k := 0 + D) sc_Start_text (by intro vs H Q E h; replace h : spq_Start_text D K mg vs H Q E := h; unfold spq_Start_text at h; split at h <;> first | rfl | exact h.elim) fun f cdv A outer s H vs Q E hr h => ?_
  refine ⟨_, (pss_one (ps_ret (pe_op op_addA pe_str (pe_callTy call_str1A (by rfl) T.n_str (by decide +kernel) (pa_cons (pe_fld (pv 0) rfl) pa_nil))))), ?_⟩
  try simp only [cxOf_K, cxOf_K', cxOf_mg, cxOf_mg']
  replace h : spq_Start_text D K mg vs H Q E := h
  unfold spq_Start_text at h
  split at h
  case h_2 => exact h.elim
  rename_i x
  rw [show L2.start ["self"] [V.ref x] = [some (V.ref x)] from rfl]
  obtain ⟨m, ⟨_, dx, hx⟩, ⟨h1, h2⟩, q⟩ := h
  walk_at "sts"
  refine L_fldv hx T.k_Start T.na_Start_step rfl ?_
  walk_at "sts"
  refine L_str1 (by omega) ?_
  walk_at "sts"
  exact L_addS (txt_short _ (by decide) (by omega) (by omega)) q
theorem st_Loose_text (T : Txt K mg) (D : Nat) (ih : Grp_T P w K mg base D) : Met P w K mg base (0 + D + 1) (cA mg "Loose") "text" (spr_Loose_text (D + 1) K mg) := by
  refine MethAt.met T.k_Loose T.d_Loose_text (k := 0 + D) sc_Loose_text (by intro vs H Q E h; replace h : spq_Loose_text D K mg vs H Q E := h; unfold spq_Loose_text at h; split at h <;> first | rfl | exact h.elim) fun f cdv A outer s H vs Q E hr h => ?_
  refine ⟨_, (pss_one (ps_ret (pe_op op_addA pe_str (pe_callTy call_str1A (by rfl) T.n_str (by decide +kernel) (pa_cons (pe_fld (pv 0) rfl) pa_nil))))), ?_⟩
  try simp only [cxOf_K, cxOf_K', cxOf_mg, cxOf_mg']
  replace h : spq_Loose_text D K mg vs H Q E := h
  unfold spq_Loose_text at h
  split at h
  case h_2 => exact h.elim
  rename_i x
  rw [show L2.start ["self"] [V.ref x] = [some (V.ref x)] from rfl]
  obtain ⟨m, ⟨_, dx, hx⟩, ⟨h1, h2⟩, q⟩ := h
  walk_at "sts"
  refine L_fldv hx T.k_Loose T.na_Loose_many rfl ?_
  walk_at "sts"
  refine L_str1 (by omega) ?_
  walk_at "sts"
  exact L_addS (txt_short _ (by decide) (by omega) (by omega)) q
theorem st_Duel_text (T : Txt K mg) (D : Nat) (ih : Grp_T P w K mg base D) : Met P w K mg base (0 + D + 1) (cA mg "Duel") "text" (spr_Duel_text (D + 1) K mg) := by
  refine MethAt.met T.k_Duel T.d_Duel_text (k := 0 + D) sc_Duel_text (by intro vs H Q E h; replace h : spq_Duel_text D K mg vs H Q E := h; unfold spq_Duel_text at h; split at h <;> first | rfl | exact h.elim) fun f cdv A outer s H vs Q E hr h => ?_
  refine ⟨_, (pss_one (ps_ret (pe_op op_addA pe_str (pe_callTy call_str1A (by rfl) T.n_str (by decide +kernel) (pa_cons (pe_fld (pv 0) rfl) pa_nil))))), ?_⟩
  try simp only [cxOf_K, cxOf_K', cxOf_mg, cxOf_mg']
  replace h : spq_Duel_text D K mg vs H Q E := h
  unfold spq_Duel_text at h
  split at h
  case h_2 => exact h.elim
  rename_i x
  rw [show L2.start ["self"] [V.ref x] = [some (V.ref x)] from rfl]
  obtain ⟨m, ⟨_, dx, hx⟩, ⟨h1, h2⟩, q⟩ := h
  walk_at "sts"
  refine L_fldv hx T.k_Duel T.na_Duel_many rfl ?_
  walk_at "sts"
  refine L_str1 (by omega) ?_
  walk_at "sts"
  exact L_addS (txt_short _ (by decide) (by omega) (by omega)) q
theorem st_Each_text (T : Txt K mg) (D : Nat) (ih : Grp_T P w K mg base D) : Met P w K mg base (0 + D + 1) (cA mg "Each") "text" (spr_Each_text (D + 1) K mg) := by
  refine MethAt.met T.k_Each T.d_Each_text (k := 0 + D) sc_Each_text (by intro vs H Q E h; replace h : spq_Each_text D K mg vs H Q E := h; unfold spq_Each_text at h; split at h <;> first | rfl | exact h.elim) fun f cdv A outer s H vs Q E hr h => ?_
  refine ⟨_, (pss_one (ps_ret (pe_op op_addA (pe_op op_addA pe_str (PE.or (pe_mt0 ih.g_Few_text hr (by omega) (pe_fld (pv 0) rfl)) (PE.or (pe_mt0 ih.g_Start_text hr (by omega) (pe_fld (pv 0) rfl)) (PE.or (pe_mt0 ih.g_Loose_text hr (by omega) (pe_fld (pv 0) rfl)) (PE.or (pe_mt0 ih.g_Duel_text hr (by omega) (pe_fld (pv 0) rfl)) (PE.or (pe_mt0 ih.g_Each_text hr (by omega) (pe_fld (pv 0) rfl)) (pe_mt0 ih.g_First_text hr (by omega) (pe_fld (pv 0) rfl)))))))) pe_str))), ?_⟩
  try simp only [cxOf_K, cxOf_K', cxOf_mg, cxOf_mg']
  replace h : spq_Each_text D K mg vs H Q E := h
  unfold spq_Each_text at h
  split at h
  case h_2 => exact h.elim
  rename_i x
  rw [show L2.start ["self"] [V.ref x] = [some (V.ref x)] from rfl]
  obtain ⟨p, ⟨_, dx, z, hx, hp⟩, hok, hD, hD4, q⟩ := h
  obtain ⟨D', rfl⟩ : ∃ D', D = D' + 1 := ⟨D - 1, by omega⟩
  have hl := PT.len3 hok (by omega)
  walk_at "sts"
  refine L_via (P := tOrE _ _ _ _) (fun v H' => v = .str p.text ∧ H' = H) (fun Q q => ?_) ?_

  · clear hl
    cases p with
    | few m =>
      refine L_orl ?_
      walk_at "sts"
      refine L_fldv hx T.k_Each T.na_Each_inside rfl ?_
      walk_at "sts"
      obtain ⟨_, dz, hz⟩ := id hp
      refine L_methv hz (by with_unfolding_all rfl) ?_
      walk_at "sts"
      exact ⟨m, hp, hok, q _ _ ⟨rfl, rfl⟩⟩
    | sta m =>
      refine L_orr ?_
      refine L_orl ?_
      walk_at "sts"
      refine L_fldv hx T.k_Each T.na_Each_inside rfl ?_
      walk_at "sts"
      obtain ⟨_, dz, hz⟩ := id hp
      refine L_methv hz (by with_unfolding_all rfl) ?_
      walk_at "sts"
      exact ⟨m, hp, hok, q _ _ ⟨rfl, rfl⟩⟩
    | loo m =>
      refine L_orr ?_
      refine L_orr ?_
      refine L_orl ?_
      walk_at "sts"
      refine L_fldv hx T.k_Each T.na_Each_inside rfl ?_
      walk_at "sts"
      obtain ⟨_, dz, hz⟩ := id hp
      refine L_methv hz (by with_unfolding_all rfl) ?_
      walk_at "sts"
      exact ⟨m, hp, hok, q _ _ ⟨rfl, rfl⟩⟩
    | due m =>
      refine L_orr ?_
      refine L_orr ?_
      refine L_orr ?_
      refine L_orl ?_
      walk_at "sts"
      refine L_fldv hx T.k_Each T.na_Each_inside rfl ?_
      walk_at "sts"
      obtain ⟨_, dz, hz⟩ := id hp
      refine L_methv hz (by with_unfolding_all rfl) ?_
      walk_at "sts"
      exact ⟨m, hp, hok, q _ _ ⟨rfl, rfl⟩⟩
    | each p1 =>
      refine L_orr ?_
      refine L_orr ?_
      refine L_orr ?_
      refine L_orr ?_
      refine L_orl ?_
      walk_at "sts"
      refine L_fldv hx T.k_Each T.na_Each_inside rfl ?_
      walk_at "sts"
      obtain ⟨_, dz, z1, hz, hz1⟩ := id hp
      refine L_methv hz (by with_unfolding_all rfl) ?_
      walk_at "sts"
      exact ⟨p1, hp, hok, by have := hD; simp only [PT.dep] at this; omega, by omega, q _ _ ⟨rfl, rfl⟩⟩
    | first p1 p2 =>
      refine L_orr ?_
      refine L_orr ?_
      refine L_orr ?_
      refine L_orr ?_
      refine L_orr ?_
      walk_at "sts"
      refine L_fldv hx T.k_Each T.na_Each_inside rfl ?_
      walk_at "sts"
      obtain ⟨_, dz, z1, z2, hz, hz1, hz2⟩ := id hp
      refine L_methv hz (by with_unfolding_all rfl) ?_
      walk_at "sts"
      exact ⟨p1, p2, hp, hok, by have := hD; simp only [PT.dep] at this; omega, by omega, q _ _ ⟨rfl, rfl⟩⟩
  rintro v H' ⟨rfl, rfl⟩
  walk_at "sts"
  have e1 : ("each ( " : Str).length = 7 := by decide
  have e2 : (" )" : Str).length = 2 := by decide
  refine L_addS (sz_dec (by omega)) ?_
  walk_at "sts"
  exact L_addS (by rw [str_len_append]; exact sz_dec (by omega)) q
theorem st_First_text (T : Txt K mg) (D : Nat) (ih : Grp_T P w K mg base D) : Met P w K mg base (0 + D + 1) (cA mg "First") "text" (spr_First_text (D + 1) K mg) := by
  refine MethAt.met T.k_First T.d_First_text (k := 0 + D) sc_First_text (by intro vs H Q E h; replace h : spq_First_text D K mg vs H Q E := h; unfold spq_First_text at h; split at h <;> first | rfl | exact h.elim) fun f cdv A outer s H vs Q E hr h => ?_
  refine ⟨_, (pss_one (ps_ret (pe_op op_addA (pe_op op_addA (pe_op op_addA (pe_op op_addA pe_str (PE.or (pe_mt0 ih.g_Few_text hr (by omega) (pe_fld (pv 0) rfl)) (PE.or (pe_mt0 ih.g_Start_text hr (by omega) (pe_fld (pv 0) rfl)) (PE.or (pe_mt0 ih.g_Loose_text hr (by omega) (pe_fld (pv 0) rfl)) (PE.or (pe_mt0 ih.g_Duel_text hr (by omega) (pe_fld (pv 0) rfl)) (PE.or (pe_mt0 ih.g_Each_text hr (by omega) (pe_fld (pv 0) rfl)) (pe_mt0 ih.g_First_text hr (by omega) (pe_fld (pv 0) rfl)))))))) pe_str) (PE.or (pe_mt0 ih.g_Few_text hr (by omega) (pe_fld (pv 0) rfl)) (PE.or (pe_mt0 ih.g_Start_text hr (by omega) (pe_fld (pv 0) rfl)) (PE.or (pe_mt0 ih.g_Loose_text hr (by omega) (pe_fld (pv 0) rfl)) (PE.or (pe_mt0 ih.g_Duel_text hr (by omega) (pe_fld (pv 0) rfl)) (PE.or (pe_mt0 ih.g_Each_text hr (by omega) (pe_fld (pv 0) rfl)) (pe_mt0 ih.g_First_text hr (by omega) (pe_fld (pv 0) rfl)))))))) pe_str))), ?_⟩
  try simp only [cxOf_K, cxOf_K', cxOf_mg, cxOf_mg']
  replace h : spq_First_text D K mg vs H Q E := h
  unfold spq_First_text at h
  split at h
  case h_2 => exact h.elim
  rename_i x
  rw [show L2.start ["self"] [V.ref x] = [some (V.ref x)] from rfl]
  obtain ⟨p, p', ⟨_, dx, z, z', hx, hp, hp'⟩, ⟨hok, hok'⟩, hDD, hD4, q⟩ := h
  obtain ⟨D', rfl⟩ : ∃ D', D = D' + 1 := ⟨D - 1, by omega⟩
  have hD : p.dep + 1 ≤ D' + 1 := Nat.le_trans (Nat.succ_le_succ (Nat.le_max_left ..)) hDD
  have hD' : p'.dep + 1 ≤ D' + 1 := Nat.le_trans (Nat.succ_le_succ (Nat.le_max_right ..)) hDD
  clear hDD
  have hl := PT.len3 hok (by omega)
  have hl' := PT.len3 hok' (by omega)
  have e1 : ("first ( " : Str).length = 8 := by decide
  have e2 : (" )" : Str).length = 2 := by decide
  have e3 : (" ) then ( " : Str).length = 10 := by decide
  walk_at "sts"
  refine L_via (P := tOrE _ _ _ _) (fun v H' => v = .str p.text ∧ H' = H) (fun Q q => ?_) ?_
  · clear hl
    cases p with
    | few m =>
      refine L_orl ?_
      walk_at "sts"
      refine L_fldv hx T.k_First T.na_First_outside rfl ?_
      walk_at "sts"
      obtain ⟨_, dz, hz⟩ := id hp
      refine L_methv hz (by with_unfolding_all rfl) ?_
      walk_at "sts"
      exact ⟨m, hp, hok, q _ _ ⟨rfl, rfl⟩⟩
    | sta m =>
      refine L_orr ?_
      refine L_orl ?_
      walk_at "sts"
      refine L_fldv hx T.k_First T.na_First_outside rfl ?_
      walk_at "sts"
      obtain ⟨_, dz, hz⟩ := id hp
      refine L_methv hz (by with_unfolding_all rfl) ?_
      walk_at "sts"
      exact ⟨m, hp, hok, q _ _ ⟨rfl, rfl⟩⟩
    | loo m =>
      refine L_orr ?_
      refine L_orr ?_
      refine L_orl ?_
      walk_at "sts"
      refine L_fldv hx T.k_First T.na_First_outside rfl ?_
      walk_at "sts"
      obtain ⟨_, dz, hz⟩ := id hp
      refine L_methv hz (by with_unfolding_all rfl) ?_
      walk_at "sts"
      exact ⟨m, hp, hok, q _ _ ⟨rfl, rfl⟩⟩
    | due m =>
      refine L_orr ?_
      refine L_orr ?_
      refine L_orr ?_
      refine L_orl ?_
      walk_at "sts"
      refine L_fldv hx T.k_First T.na_First_outside rfl ?_
      walk_at "sts"
      obtain ⟨_, dz, hz⟩ := id hp
      refine L_methv hz (by with_unfolding_all rfl) ?_
      walk_at "sts"
      exact ⟨m, hp, hok, q _ _ ⟨rfl, rfl⟩⟩
    | each p1 =>
      refine L_orr ?_
      refine L_orr ?_
      refine L_orr ?_
      refine L_orr ?_
      refine L_orl ?_
      walk_at "sts"
      refine L_fldv hx T.k_First T.na_First_outside rfl ?_
      walk_at "sts"
      obtain ⟨_, dz, z1, hz, hz1⟩ := id hp
      refine L_methv hz (by with_unfolding_all rfl) ?_
      walk_at "sts"
      exact ⟨p1, hp, hok, by have := hD; simp only [PT.dep] at this; omega, by omega, q _ _ ⟨rfl, rfl⟩⟩
    | first p1 p2 =>
      refine L_orr ?_
      refine L_orr ?_
      refine L_orr ?_
      refine L_orr ?_
      refine L_orr ?_
      walk_at "sts"
      refine L_fldv hx T.k_First T.na_First_outside rfl ?_
      walk_at "sts"
      obtain ⟨_, dz, z1, z2, hz, hz1, hz2⟩ := id hp
      refine L_methv hz (by with_unfolding_all rfl) ?_
      walk_at "sts"
      exact ⟨p1, p2, hp, hok, by have := hD; simp only [PT.dep] at this; omega, by omega, q _ _ ⟨rfl, rfl⟩⟩
  rintro v H' ⟨rfl, rfl⟩
  walk_at "sts"
  refine L_addS (sz_dec (by omega)) ?_
  walk_at "sts"
  refine L_addS (by rw [str_len_append]; exact sz_dec (by omega)) ?_
  walk_at "sts"
  refine L_via (P := tOrE _ _ _ _) (fun v H2 => v = .str p'.text ∧ H2 = H') (fun Q q => ?_) ?_
  · clear hl
    cases p' with
    | few m =>
      refine L_orl ?_
      walk_at "sts"
      refine L_fldv hx T.k_First T.na_First_inside rfl ?_
      walk_at "sts"
      obtain ⟨_, dz, hz⟩ := id hp'
      refine L_methv hz (by with_unfolding_all rfl) ?_
      walk_at "sts"
      exact ⟨m, hp', hok', q _ _ ⟨rfl, rfl⟩⟩
    | sta m =>
      refine L_orr ?_
      refine L_orl ?_
      walk_at "sts"
      refine L_fldv hx T.k_First T.na_First_inside rfl ?_
      walk_at "sts"
      obtain ⟨_, dz, hz⟩ := id hp'
      refine L_methv hz (by with_unfolding_all rfl) ?_
      walk_at "sts"
      exact ⟨m, hp', hok', q _ _ ⟨rfl, rfl⟩⟩
    | loo m =>
      refine L_orr ?_
      refine L_orr ?_
      refine L_orl ?_
      walk_at "sts"
      refine L_fldv hx T.k_First T.na_First_inside rfl ?_
      walk_at "sts"
      obtain ⟨_, dz, hz⟩ := id hp'
      refine L_methv hz (by with_unfolding_all rfl) ?_
      walk_at "sts"
      exact ⟨m, hp', hok', q _ _ ⟨rfl, rfl⟩⟩
    | due m =>
      refine L_orr ?_
      refine L_orr ?_
      refine L_orr ?_
      refine L_orl ?_
      walk_at "sts"
      refine L_fldv hx T.k_First T.na_First_inside rfl ?_
      walk_at "sts"
      obtain ⟨_, dz, hz⟩ := id hp'
      refine L_methv hz (by with_unfolding_all rfl) ?_
      walk_at "sts"
      exact ⟨m, hp', hok', q _ _ ⟨rfl, rfl⟩⟩
    | each p1 =>
      refine L_orr ?_
      refine L_orr ?_
      refine L_orr ?_
      refine L_orr ?_
      refine L_orl ?_
      walk_at "sts"
      refine L_fldv hx T.k_First T.na_First_inside rfl ?_
      walk_at "sts"
      obtain ⟨_, dz, z1, hz, hz1⟩ := id hp'
      refine L_methv hz (by with_unfolding_all rfl) ?_
      walk_at "sts"
      exact ⟨p1, hp', hok', by have := hD'; simp only [PT.dep] at this; omega, by omega, q _ _ ⟨rfl, rfl⟩⟩
    | first p1 p2 =>
      refine L_orr ?_
      refine L_orr ?_
      refine L_orr ?_
      refine L_orr ?_
      refine L_orr ?_
      walk_at "sts"
      refine L_fldv hx T.k_First T.na_First_inside rfl ?_
      walk_at "sts"
      obtain ⟨_, dz, z1, z2, hz, hz1, hz2⟩ := id hp'
      refine L_methv hz (by with_unfolding_all rfl) ?_
      walk_at "sts"
      exact ⟨p1, p2, hp', hok', by have := hD'; simp only [PT.dep] at this; omega, by omega, q _ _ ⟨rfl, rfl⟩⟩
  rintro v H2 ⟨rfl, rfl⟩
  walk_at "sts"
  refine L_addS (by rw [str_len_append, str_len_append]; exact sz_dec (by omega)) ?_
  walk_at "sts"
  exact L_addS (by rw [str_len_append, str_len_append, str_len_append]; exact sz_dec (by omega)) q
theorem grp_T (T : Txt K mg) : ∀ D : Nat, Grp_T P w K mg base D
  | 0 => ⟨MethAt.met0' T.k_Few T.d_Few_text, MethAt.met0' T.k_Start T.d_Start_text, MethAt.met0' T.k_Loose T.d_Loose_text, MethAt.met0' T.k_Duel T.d_Duel_text, MethAt.met0' T.k_Each T.d_Each_text, MethAt.met0' T.k_First T.d_First_text⟩
  | D + 1 => ⟨st_Few_text T D (grp_T T D), st_Start_text T D (grp_T T D), st_Loose_text T D (grp_T T D), st_Duel_text T D (grp_T T D), st_Each_text T D (grp_T T D), st_First_text T D (grp_T T D)⟩
theorem c_Few_text (T : Txt K mg) : Met P w K mg base (5) (cA mg "Few") "text" (sp_Few_text K mg) := (grp_T T 5).g_Few_text
theorem c_Start_text (T : Txt K mg) : Met P w K mg base (5) (cA mg "Start") "text" (sp_Start_text K mg) := (grp_T T 5).g_Start_text
theorem c_Loose_text (T : Txt K mg) : Met P w K mg base (5) (cA mg "Loose") "text" (sp_Loose_text K mg) := (grp_T T 5).g_Loose_text
theorem c_Duel_text (T : Txt K mg) : Met P w K mg base (5) (cA mg "Duel") "text" (sp_Duel_text K mg) := (grp_T T 5).g_Duel_text
theorem c_Each_text (T : Txt K mg) : Met P w K mg base (5) (cA mg "Each") "text" (sp_Each_text K mg) := (grp_T T 5).g_Each_text
theorem c_First_text (T : Txt K mg) : Met P w K mg base (5) (cA mg "First") "text" (sp_First_text K mg) := (grp_T T 5).g_First_text
/-! words of plans; the list of what may come -/
def ptW : PT → List Str
  | .few m => ["few", ↑(toString m)]
  | .sta m => ["start", ↑(toString m)]
  | .loo m => ["loose", ↑(toString m)]
  | .due m => ["duel", ↑(toString m)]
  | .each p => (["each", "("] : List Str) ++ ptW p ++ ([")"] : List Str)
  | .first o i => (["first", "("] : List Str) ++ ptW o ++ ([")", "then", "("] : List Str) ++ ptW i ++ ([")"] : List Str)
theorem tlx_append (x y : Str) : (x ++ y).cps.toList = x.cps.toList ++ y.cps.toList := TL.tl_append x y
theorem str_inj {a b : Str} (h : a.cps.toList = b.cps.toList) : a = b := by
  have := congrArg SX.S h
  rwa [SX.S_tl, SX.S_tl] at this
theorem num_word {z : Str} {n lo hi : Int} (h0 : 0 ≤ lo) (h1 : hi ≤ 100) : within lo hi (num z.cps.toList) = some n ↔ lo ≤ n ∧ n ≤ hi ∧ z = (↑(toString n) : Str) := by
  constructor
  · intro h
    unfold within at h
    obtain ⟨m, hm, hk⟩ := Option.bind_eq_some_iff.mp h
    split at hk
    case isFalse => cases hk
    rename_i hb
    cases hk
    refine ⟨hb.1, hb.2, ?_⟩
    unfold num at hm
    split at hm
    · split at hm
      · rename_i hf
        exfalso
        have e := Option.some.inj hm
        have e0 : digitsVal z.cps.toList.tail = 0 := by omega
        obtain ⟨_, _, _, hd⟩ := figs_iff.mp hf.1
        rw [e0, dg_lt (by decide)] at hd
        exact hf.2 hd.symm
      · cases hm
    · split at hm
      · rename_i hf
        have e := Option.some.inj hm
        obtain ⟨_, _, _, hd⟩ := figs_iff.mp hf
        refine str_inj ?_
        rw [← e]
        exact hd.symm.trans (sgn_nat _).symm
      · cases hm
  · rintro ⟨h2, h3, rfl⟩
    obtain ⟨k, rfl⟩ : ∃ k : Nat, n = k := ⟨n.toNat, by omega⟩
    have e : (↑(toString (k : Int)) : Str).cps.toList = dg k := sgn_nat k
    rw [e]
    have hl := dg_len 2 k (by have : (10 : Nat) ^ (2 + 1) = 1000 := by decide
                              omega)
    have hn := dg_ne k
    have hp : 1 ≤ (dg k).length := by
      cases z : dg k with
      | nil => exact absurd z hn
      | cons => simp
    have hf : figs (dg k) = true := figs_iff.mpr ⟨hp, by omega, dg_all k, by rw [dg_val]⟩
    have hh : (dg k).head? ≠ some 45 := fun z => by
      cases c : dg k with
      | nil => rw [c] at z; cases z
      | cons a r =>
        rw [c] at z
        cases z
        have := (dg_all k) 45 (by rw [c]; exact List.mem_cons_self ..)
        omega
    unfold num
    rw [if_neg hh, if_pos hf, dg_val]
    unfold within
    show (if lo ≤ ((k : Nat) : Int) ∧ ((k : Nat) : Int) ≤ hi then some ((k : Nat) : Int) else none) = some ((k : Nat) : Int)
    rw [if_pos ⟨h2, h3⟩]
inductive SI where
  | num (lo hi : Int)
  | sgn (z : Str)
  | pl (r : Nat)
def opensS (w : Str) (r : Nat) : Option (List SI) :=
  if w ∈ (["few", "loose", "duel"] : List Str) then some [.num 0 24] else if w = "start" then some [.num 1 100]
  else if 0 < r ∧ w = "each" then some [.sgn "(", .pl (r - 1), .sgn ")"]
  else if 0 < r ∧ w = "first" then some [.sgn "(", .pl (r - 1), .sgn ")", .sgn "then", .sgn "(", .pl (r - 1), .sgn ")"] else none
def stepS : SI → Str → Option (List SI)
  | .num lo hi, w => if (within lo hi (num w.cps.toList)).isSome then some [] else none
  | .sgn z, w => if w = z then some [] else none
  | .pl r, w => opensS w r
def runS : List SI → List Str → Nat → Option Nat
  | [], [], _ => none
  | _ :: _, [], k => some k
  | [], _ :: _, k => some k
  | d :: st, w :: ws, k => match stepS d w with
    | none => some k
    | some more => runS (more ++ st) ws (k + 1)
theorem drop_at {ws : List Str} {a : Nat} {z : Str} (h : ws[a]? = some z) : ws.drop a = z :: ws.drop (a + 1) := by
  obtain ⟨hlt, e⟩ := List.getElem?_eq_some_iff.mp h
  rw [← e]
  exact List.drop_eq_getElem_cons hlt
theorem drop_none {ws : List Str} {a : Nat} (h : ws[a]? = none) : ws.drop a = [] := List.drop_eq_nil_iff.mpr (List.getElem?_eq_none_iff.mp h)
theorem run_gb {ws : List Str} {z : Str} {a : Nat} (st : List SI) : runS (.sgn z :: st) (ws.drop a) a = match gb ws z a with | .inl k => some k | .inr b => runS st (ws.drop b) b := by
  cases h : ws[a]? with
  | none => rw [drop_none h, gb, h, if_neg (fun e => nomatch e)]; rfl
  | some w =>
    rw [drop_at h, runS, gb, h, stepS]
    by_cases c : w = z
    · rw [if_pos c, if_pos (congrArg some c)]; rfl
    · rw [if_neg c, if_neg (fun e => c (Option.some.inj e))]
theorem run_tn {ws : List Str} {lo hi : Int} {a : Nat} (st : List SI) : runS (.num lo hi :: st) (ws.drop a) a = match tn ws lo hi a with | .inl k => some k | .inr (_, b) => runS st (ws.drop b) b := by
  cases h : ws[a]? with
  | none => rw [drop_none h, tn, h]; rfl
  | some w =>
    rw [drop_at h, runS, tn, h, stepS]
    dsimp only
    cases c : within lo hi (num w.cps.toList) with
    | none => rfl
    | some n => rfl
theorem run_tkI {ws : List Str} {r a : Nat} {f : Nat → Rp} (hf : ∀ a st, runS (.pl r :: st) (ws.drop a) a = match f a with | .inl k => some k | .inr (_, b) => runS st (ws.drop b) b) (st : List SI) :
    runS (.sgn "(" :: .pl r :: .sgn ")" :: st) (ws.drop a) a = match tkI ws f a with | .inl k => some k | .inr (_, b) => runS st (ws.drop b) b := by
  rw [run_gb, tkI]
  cases h1 : gb ws "(" a with
  | inl k => rfl
  | inr b =>
    dsimp only
    rw [hf]
    cases h2 : f b with
    | inl k => rfl
    | inr pr =>
      obtain ⟨p, c⟩ := pr
      dsimp only
      rw [run_gb]
      cases h3 : gb ws ")" c with
      | inl k => rfl
      | inr b3 => rfl
theorem run_tkN {ws : List Str} {z : Str} {a : Nat} (st : List SI) (hz : z ∈ (["few", "start", "loose", "duel"] : List Str)) (r : Nat) :
    (match stepS (.pl r) z with | none => some (a - 1) | some more => runS (more ++ st) (ws.drop a) a) = match tkN ws z a with | .inl k => some k | .inr (_, b) => runS st (ws.drop b) b := by
  have key : ∀ (lo hi : Int) (g : Int → PT), runS (.num lo hi :: st) (ws.drop a) a = match (match tn ws lo hi a with | .inl k => (.inl k : Rp) | .inr (n, a1) => .inr (g n, a1)) with | .inl k => some k | .inr (_, b) => runS st (ws.drop b) b := fun lo hi g => by
    rw [run_tn]
    cases tn ws lo hi a with
    | inl k => rfl
    | inr pr => rfl
  simp only [List.mem_cons, List.not_mem_nil, or_false] at hz
  rcases hz with rfl | rfl | rfl | rfl
  · exact key 0 24 _
  · exact key 1 100 _
  · exact key 0 24 _
  · exact key 0 24 _
theorem run_tkP {ws : List Str} : ∀ (r a : Nat) (st : List SI), runS (.pl r :: st) (ws.drop a) a = match tkP ws r a with | .inl k => some k | .inr (_, b) => runS st (ws.drop b) b
  | r, a, st => by
    cases h : ws[a]? with
    | none => cases r <;> rw [drop_none h, tkP, tkS, h] <;> rfl
    | some z =>
      rw [drop_at h, runS]
      by_cases c : z ∈ (["few", "start", "loose", "duel"] : List Str)
      · have c2 : ¬ z ∈ (["each", "first"] : List Str) := by
          simp only [List.mem_cons, List.not_mem_nil, or_false] at c ⊢
          rcases c with rfl | rfl | rfl | rfl <;> decide
        have e : tkP ws r a = tkN ws z (a + 1) := by cases r <;> rw [tkP, tkS, h] <;> dsimp only <;> rw [if_neg c2, if_pos c]
        rw [e, ← run_tkN st c r]
        rfl
      · have c' := c
        simp only [List.mem_cons, List.not_mem_nil, or_false, not_or] at c'
        obtain ⟨n1, n2, n3, n4⟩ := c'
        have hop : stepS (.pl r) z = if 0 < r ∧ z = "each" then some [.sgn "(", .pl (r - 1), .sgn ")"] else if 0 < r ∧ z = "first" then some [.sgn "(", .pl (r - 1), .sgn ")", .sgn "then", .sgn "(", .pl (r - 1), .sgn ")"] else none := by
          show opensS z r = _
          unfold opensS
          rw [if_neg (by simp only [List.mem_cons, List.not_mem_nil, or_false, not_or]; exact ⟨n1, n3, n4⟩), if_neg n2]
        rw [hop]
        cases r with
        | zero =>
          rw [if_neg (fun z => absurd z.1 (by decide)), if_neg (fun z => absurd z.1 (by decide)), tkP, tkS, h]
          dsimp only
          by_cases c2 : z ∈ (["each", "first"] : List Str)
          · rw [if_pos c2]
          · rw [if_neg c2, if_neg c]
        | succ r =>
          rw [tkP, tkS, h]
          dsimp only
          by_cases c2 : z = "each"
          · subst c2
            rw [if_pos ⟨Nat.succ_pos _, rfl⟩, if_pos (by decide), tkW]
            refine (run_tkI (fun a st => run_tkP r a st) st).trans ?_
            cases tkI ws (tkP ws r) (a + 1) with
            | inl k => rfl
            | inr pr => rfl
          · rw [if_neg (fun z => c2 z.2)]
            by_cases c3 : z = "first"
            · subst c3
              rw [if_pos ⟨Nat.succ_pos _, rfl⟩, if_pos (by decide), tkW]
              refine (run_tkI (fun a st => run_tkP r a st) _).trans ?_
              cases tkI ws (tkP ws r) (a + 1) with
              | inl k => rfl
              | inr pr =>
                obtain ⟨p, b⟩ := pr
                dsimp only
                rw [if_neg (by decide)]
                refine (run_gb _).trans ?_
                cases gb ws "then" b with
                | inl k => rfl
                | inr b2 =>
                  dsimp only
                  refine (run_tkI (fun a st => run_tkP r a st) _).trans ?_
                  cases tkI ws (tkP ws r) b2 with
                  | inl k => rfl
                  | inr pr => rfl
            · rw [if_neg (fun z => c3 z.2), if_neg (by simp only [List.mem_cons, List.not_mem_nil, or_false, not_or]; exact ⟨c2, c3⟩), if_neg c]
/-- what is wrong, as the law finds it, is what is read -/
theorem run_rdP (z : Str) : runS [.pl 3] (cutAt 32 z) 0 = match rdP z with | .inl k => some k | .inr _ => none := by
  have := run_tkP (ws := cutAt 32 z) 3 0 []
  rw [List.drop_zero] at this
  rw [this, rdP]
  cases tkP (cutAt 32 z) 3 0 with
  | inl k => rfl
  | inr pr =>
    obtain ⟨p, b⟩ := pr
    dsimp only
    by_cases c : b < (cutAt 32 z).length
    · rw [if_pos c, List.drop_eq_getElem_cons c]
      rfl
    · rw [if_neg c, List.drop_eq_nil_of_le (by omega)]
      rfl
/-! what was read is written back -/
theorem gb_at {ws : List Str} {z : Str} {a b : Nat} (h : gb ws z a = .inr b) : ws.drop a = z :: ws.drop b := by
  unfold gb at h
  split at h
  · cases h; rename_i e; exact drop_at e
  · cases h
theorem tn_at {ws : List Str} {lo hi n : Int} {a b : Nat} (h0 : 0 ≤ lo) (h1 : hi ≤ 100) (h : tn ws lo hi a = .inr (n, b)) : ws.drop a = (↑(toString n) : Str) :: ws.drop b := by
  unfold tn at h
  split at h
  · cases h
  · rename_i z e
    split at h
    · cases h
    · rename_i m hm
      cases h
      rw [drop_at e, ((num_word h0 h1).mp hm).2.2]
theorem tkI_at {ws : List Str} {f : Nat → Rp} (hf : ∀ a p b, f a = .inr (p, b) → ws.drop a = ptW p ++ ws.drop b) {a b : Nat} {p : PT} (h : tkI ws f a = .inr (p, b)) : ws.drop a = ("(" : Str) :: (ptW p ++ (")" : Str) :: ws.drop b) := by
  unfold tkI at h
  split at h
  · cases h
  · rename_i e1
    split at h
    · cases h
    · rename_i e2
      split at h
      · cases h
      · rename_i e3
        cases h
        rw [gb_at e1, hf _ _ _ e2, gb_at e3]
theorem tkN_at {ws : List Str} {z : Str} {a b : Nat} {p : PT} (hz : z ∈ (["few", "start", "loose", "duel"] : List Str)) (h : tkN ws z a = .inr (p, b)) : z :: ws.drop a = ptW p ++ ws.drop b := by
  simp only [List.mem_cons, List.not_mem_nil, or_false] at hz
  unfold tkN at h
  rcases hz with rfl | rfl | rfl | rfl
  · rw [if_neg (by decide)] at h
    split at h
    · cases h
    · rename_i e; cases h; rw [tn_at (by decide) (by decide) e]; rfl
  · rw [if_pos rfl] at h
    split at h
    · cases h
    · rename_i e; cases h; rw [tn_at (by decide) (by decide) e]; rfl
  · rw [if_neg (by decide)] at h
    split at h
    · cases h
    · rename_i e; cases h; rw [tn_at (by decide) (by decide) e]; rfl
  · rw [if_neg (by decide)] at h
    split at h
    · cases h
    · rename_i e; cases h; rw [tn_at (by decide) (by decide) e]; rfl
theorem tkP_at {ws : List Str} : ∀ (r : Nat) (a : Nat) (p : PT) (b : Nat), tkP ws r a = .inr (p, b) → ws.drop a = ptW p ++ ws.drop b
  | r, a, p, b, h => by
    cases hz : ws[a]? with
    | none => cases r <;> rw [tkP, tkS, hz] at h <;> cases h
    | some z =>
      have hs : (z ∈ (["each", "first"] : List Str) ∧ ∃ r', r = r' + 1 ∧ tkW ws (tkP ws r') z (a + 1) = .inr (p, b)) ∨ (z ∈ (["few", "start", "loose", "duel"] : List Str) ∧ tkN ws z (a + 1) = .inr (p, b)) := by
        cases r with
        | zero =>
          rw [tkP, tkS, hz] at h
          dsimp only at h
          split at h
          · cases h
          · split at h
            · exact .inr ⟨by assumption, h⟩
            · cases h
        | succ r =>
          rw [tkP, tkS, hz] at h
          dsimp only at h
          split at h
          · exact .inl ⟨by assumption, r, rfl, h⟩
          · split at h
            · exact .inr ⟨by assumption, h⟩
            · cases h
      rw [drop_at hz]
      clear h
      rcases hs with ⟨hm, r', rfl, h⟩ | ⟨hm, h⟩
      · unfold tkW at h
        split at h
        · cases h
        · rename_i p1 a1 e1
          have i1 := tkI_at (fun a p b => tkP_at r' a p b) e1
          split at h
          · rename_i c
            cases h
            rw [i1, c]
            show _ = ((["each", "("] : List Str) ++ ptW p1 ++ ([")"] : List Str)) ++ ws.drop b
            simp
          · rename_i c
            have c3 : z = "first" := by
              simp only [List.mem_cons, List.not_mem_nil, or_false] at hm
              exact hm.resolve_left c
            split at h
            · cases h
            · rename_i a2 e2
              split at h
              · cases h
              · rename_i p2 a3 e3
                cases h
                have i2 := tkI_at (fun a p b => tkP_at r' a p b) e3
                rw [i1, gb_at e2, i2, c3]
                show _ = ((["first", "("] : List Str) ++ ptW p1 ++ ([")", "then", "("] : List Str) ++ ptW p2 ++ ([")"] : List Str)) ++ ws.drop b
                simp
      · exact tkN_at hm h
theorem joinL_cons {S p : List Nat} {r : List (List Nat)} (h : r ≠ []) : TL.joinL S (p :: r) = p ++ (S ++ TL.joinL S r) := by
  cases r with
  | nil => exact absurd rfl h
  | cons q r => rfl
theorem joinL_app {S : List Nat} : ∀ {xs ys : List (List Nat)}, xs ≠ [] → ys ≠ [] → TL.joinL S (xs ++ ys) = TL.joinL S xs ++ (S ++ TL.joinL S ys)
  | [], _, h, _ => absurd rfl h
  | [x], ys, _, hy => joinL_cons hy
  | x :: y :: xs, ys, _, hy => by
    show TL.joinL S (x :: ((y :: xs) ++ ys)) = _
    rw [joinL_cons (p := x) (r := (y :: xs) ++ ys) (by simp), joinL_app (xs := y :: xs) (by simp) hy, joinL_cons (p := x) (r := y :: xs) (by simp)]
    simp only [List.append_assoc]
theorem spl_ne (S : List Nat) : ∀ (l : List Nat) (k : Nat) (acc : List Nat), TL.spl S k acc l ≠ []
  | [], k, acc => by rw [TL.spl_nil]; simp
  | c :: r, 0, acc => by
    unfold TL.spl
    split
    · simp
    · exact spl_ne S r 0 _
  | c :: r, k + 1, acc => by
    unfold TL.spl
    exact spl_ne S r k acc
theorem join_spl (c : Nat) : ∀ (l acc : List Nat), TL.joinL [c] (TL.spl [c] 0 acc l) = acc ++ l
  | [], acc => by rw [TL.spl_nil]; simp [TL.joinL]
  | d :: r, acc => by
    unfold TL.spl
    split
    · rename_i h
      have e : d = c := by simpa [TL.pre] using h
      show TL.joinL [c] (acc :: TL.spl [c] 0 [] r) = _
      rw [joinL_cons (spl_ne _ _ _ _), join_spl c r [], e]
      simp
    · rw [join_spl c r]
      simp
theorem ptW_ne (p : PT) : ptW p ≠ [] := by cases p <;> simp [ptW]
theorem text_list : ∀ p : PT, p.text.cps.toList = TL.joinL [32] ((ptW p).map fun z => z.cps.toList)
  | .few m => by rw [PT.text, tlx_append]; rfl
  | .sta m => by rw [PT.text, tlx_append]; rfl
  | .loo m => by rw [PT.text, tlx_append]; rfl
  | .due m => by rw [PT.text, tlx_append]; rfl
  | .each p => by
    have hn : (ptW p).map (fun z => z.cps.toList) ≠ [] := by simp [ptW_ne]
    have e1 : ("each ( " : Str).cps.toList = TL.joinL [32] ((["each", "("] : List Str).map fun z : Str => z.cps.toList) ++ [32] := by decide +kernel
    have e2 : (" )" : Str).cps.toList = [32] ++ TL.joinL [32] (([")"] : List Str).map fun z : Str => z.cps.toList) := by decide +kernel
    rw [PT.text, tlx_append, tlx_append, text_list p, ptW, List.map_append, List.map_append, joinL_app (by simp) (by simp), joinL_app (by simp) hn, e1, e2]
    simp only [List.append_assoc]
  | .first o i => by
    have ho : (ptW o).map (fun z => z.cps.toList) ≠ [] := by simp [ptW_ne]
    have hi : (ptW i).map (fun z => z.cps.toList) ≠ [] := by simp [ptW_ne]
    have e1 : ("first ( " : Str).cps.toList = TL.joinL [32] ((["first", "("] : List Str).map fun z : Str => z.cps.toList) ++ [32] := by decide +kernel
    have e2 : (" )" : Str).cps.toList = [32] ++ TL.joinL [32] (([")"] : List Str).map fun z : Str => z.cps.toList) := by decide +kernel
    have e3 : (" ) then ( " : Str).cps.toList = [32] ++ (TL.joinL [32] (([")", "then", "("] : List Str).map fun z : Str => z.cps.toList) ++ [32]) := by decide +kernel
    rw [PT.text, tlx_append, tlx_append, tlx_append, tlx_append, text_list o, text_list i, ptW, List.map_append, List.map_append, List.map_append, List.map_append, joinL_app (by simp) (by simp), joinL_app (by simp) hi, joinL_app (by simp) (by simp), joinL_app (by simp) ho, e1, e2, e3]
    simp only [List.append_assoc]
theorem rdP_text {z : Str} {p : PT} (h : rdP z = .inr p) : p.text = z ∧ p.ok ∧ p.dep ≤ 3 := by
  unfold rdP at h
  split at h
  · cases h
  · rename_i q b e
    split at h
    · cases h
    · rename_i c
      cases h
      refine ⟨?_, (tkP_ok 3 e).2⟩
      have := tkP_at 3 0 _ b e
      rw [List.drop_zero, List.drop_eq_nil_of_le (by omega), List.append_nil] at this
      refine str_inj ?_
      rw [text_list, ← this, cutAt, List.map_map]
      rw [show ((fun z : Str => z.cps.toList) ∘ SX.S) = id from funext fun l => rfl, List.map_id, join_spl]
      rfl
/-! a plan's own text is read as that plan -/
theorem drop_more {ws : List Str} {a : Nat} {xs ys : List Str} (h : ws.drop a = xs ++ ys) : ws.drop (a + xs.length) = ys := by
  rw [← List.drop_drop, h, List.drop_left']
  rfl
theorem gb_of {ws : List Str} {z : Str} {a : Nat} {r : List Str} (h : ws.drop a = z :: r) : gb ws z a = .inr (a + 1) ∧ ws.drop (a + 1) = r := by
  have e : ws[a]? = some z := by
    have := congrArg (·[0]?) h
    simpa using this
  refine ⟨by rw [gb, if_pos e], ?_⟩
  have := drop_more (xs := [z]) (ys := r) h
  exact this
theorem tn_of {ws : List Str} {lo hi n : Int} {a : Nat} {r : List Str} (h0 : 0 ≤ lo) (h1 : hi ≤ 100) (hn : lo ≤ n ∧ n ≤ hi) (h : ws.drop a = (↑(toString n) : Str) :: r) : tn ws lo hi a = .inr (n, a + 1) := by
  have e : ws[a]? = some (↑(toString n) : Str) := by
    have := congrArg (·[0]?) h
    simpa using this
  rw [tn, e]
  dsimp only
  rw [(num_word h0 h1).mpr ⟨hn.1, hn.2, rfl⟩]
theorem tkI_of {ws : List Str} {f : Nat → Rp} {a : Nat} {p : PT} {r : List Str} (hf : ∀ a r, ws.drop a = ptW p ++ r → f a = .inr (p, a + (ptW p).length)) (h : ws.drop a = ("(" : Str) :: (ptW p ++ (")" : Str) :: r)) : tkI ws f a = .inr (p, a + 1 + (ptW p).length + 1) ∧ ws.drop (a + 1 + (ptW p).length + 1) = r := by
  obtain ⟨g1, d1⟩ := gb_of h
  have d2 := drop_more d1
  obtain ⟨g2, d3⟩ := gb_of d2
  refine ⟨?_, d3⟩
  rw [tkI, g1]
  dsimp only
  rw [hf _ _ d1]
  dsimp only
  rw [g2]
theorem tkS_lf {ws : List Str} {a r : Nat} {z : Str} {rs : List Str} (hz : z ∈ (["few", "start", "loose", "duel"] : List Str)) (h : ws.drop a = z :: rs) : tkP ws r a = tkN ws z (a + 1) := by
  have e : ws[a]? = some z := by
    have := congrArg (·[0]?) h
    simpa using this
  have c2 : ¬ z ∈ (["each", "first"] : List Str) := by
    simp only [List.mem_cons, List.not_mem_nil, or_false] at hz ⊢
    rcases hz with rfl | rfl | rfl | rfl <;> decide
  cases r <;> rw [tkP, tkS, e] <;> dsimp only <;> rw [if_neg c2, if_pos hz]
theorem tkP_of {ws : List Str} : ∀ (p : PT) (r a : Nat) (rest : List Str), p.ok → p.dep ≤ r → ws.drop a = ptW p ++ rest → tkP ws r a = .inr (p, a + (ptW p).length)
  | .few m, r, a, rest, ok, hd, h => by
    rw [tkS_lf (z := "few") (by decide) h, tkN, if_neg (by decide), tn_of (by decide) (by decide) ok (gb_of h).2]
    rfl
  | .sta m, r, a, rest, ok, hd, h => by
    rw [tkS_lf (z := "start") (by decide) h, tkN, if_pos rfl, tn_of (by decide) (by decide) ok (gb_of h).2]
    rfl
  | .loo m, r, a, rest, ok, hd, h => by
    rw [tkS_lf (z := "loose") (by decide) h, tkN, if_neg (by decide), tn_of (by decide) (by decide) ok (gb_of h).2]
    rfl
  | .due m, r, a, rest, ok, hd, h => by
    rw [tkS_lf (z := "duel") (by decide) h, tkN, if_neg (by decide), tn_of (by decide) (by decide) ok (gb_of h).2]
    rfl
  | .each p, 0, a, rest, ok, hd, h => absurd hd (Nat.not_succ_le_zero _)
  | .first o i, 0, a, rest, ok, hd, h => absurd hd (Nat.not_succ_le_zero _)
  | .each p, r + 1, a, rest, ok, hd, h => by
    have h' : ws.drop a = ("each" : Str) :: (("(" : Str) :: (ptW p ++ (")" : Str) :: rest)) := by rw [h, ptW]; simp
    have e : ws[a]? = some ("each" : Str) := by
      have := congrArg (·[0]?) h'
      simpa using this
    obtain ⟨i1, d1⟩ := tkI_of (f := tkP ws r) (fun a rs => tkP_of p r a rs ok (Nat.le_of_succ_le_succ hd)) (gb_of h').2
    rw [tkP, tkS, e]
    try dsimp only
    rw [if_pos (by decide), tkW, i1]
    try dsimp only
    rw [if_pos rfl]
    have : a + 1 + 1 + (ptW p).length + 1 = a + (ptW (.each p)).length := by rw [ptW]; simp; omega
    rw [this]
  | .first o i, r + 1, a, rest, ok, hd, h => by
    have h' : ws.drop a = ("first" : Str) :: (("(" : Str) :: (ptW o ++ (")" : Str) :: (("then" : Str) :: (("(" : Str) :: (ptW i ++ (")" : Str) :: rest))))) := by rw [h, ptW]; simp
    have e : ws[a]? = some ("first" : Str) := by
      have := congrArg (·[0]?) h'
      simpa using this
    have hd' := Nat.max_le.mp (Nat.le_of_succ_le_succ hd)
    obtain ⟨i1, d1⟩ := tkI_of (f := tkP ws r) (fun a rs => tkP_of o r a rs ok.1 hd'.1) (gb_of h').2
    obtain ⟨g1, d2⟩ := gb_of d1
    obtain ⟨i2, d3⟩ := tkI_of (f := tkP ws r) (fun a rs => tkP_of i r a rs ok.2 hd'.2) d2
    rw [tkP, tkS, e]
    try dsimp only
    rw [if_pos (by decide), tkW, i1]
    try dsimp only
    rw [if_neg (by decide), g1]
    try dsimp only
    rw [i2]
    try dsimp only
    have : a + 1 + 1 + (ptW o).length + 1 + 1 + 1 + (ptW i).length + 1 = a + (ptW (.first o i)).length := by rw [ptW]; simp; omega
    rw [this]
theorem ptW_nb : ∀ (p : PT), p.ok → ∀ z ∈ ptW p, 32 ∉ z.cps.toList := by
  have num : ∀ m : Int, 0 ≤ m → 32 ∉ (↑(toString m) : Str).cps.toList := fun m hm h => by
    obtain ⟨k, rfl⟩ : ∃ k : Nat, m = k := ⟨m.toNat, by omega⟩
    rw [show (↑(toString (k : Int)) : Str).cps.toList = dg k from sgn_nat k] at h
    have := (dg_all k) 32 h
    omega
  intro p
  induction p with
  | few m => intro ok z hz; simp only [ptW, List.mem_cons, List.not_mem_nil, or_false] at hz; rcases hz with rfl | rfl; decide; exact num m ok.1
  | sta m => intro ok z hz; simp only [ptW, List.mem_cons, List.not_mem_nil, or_false] at hz; rcases hz with rfl | rfl; decide; exact num m (by have := ok.1; omega)
  | loo m => intro ok z hz; simp only [ptW, List.mem_cons, List.not_mem_nil, or_false] at hz; rcases hz with rfl | rfl; decide; exact num m ok.1
  | due m => intro ok z hz; simp only [ptW, List.mem_cons, List.not_mem_nil, or_false] at hz; rcases hz with rfl | rfl; decide; exact num m ok.1
  | each p ih =>
    intro ok z hz
    simp only [ptW, List.mem_append, List.mem_cons, List.not_mem_nil, or_false] at hz
    rcases hz with ((rfl | rfl) | hz) | rfl
    · decide
    · decide
    · exact ih ok z hz
    · decide
  | first o i ih1 ih2 =>
    intro ok z hz
    simp only [ptW, List.mem_append, List.mem_cons, List.not_mem_nil, or_false] at hz
    rcases hz with (((((rfl | rfl) | hz) | (rfl | rfl | rfl)) | hz)) | rfl
    · decide
    · decide
    · exact ih1 ok.1 z hz
    · decide
    · decide
    · decide
    · exact ih2 ok.2 z hz
    · decide
theorem rdP_of {p : PT} (ok : p.ok) (hd : p.dep ≤ 3) : rdP p.text = .inr p := by
  have hc : cutAt 32 p.text = ptW p := by
    rw [cutAt, text_list, SX.spl_join (by simp [ptW_ne]) ?_, List.map_map]
    · rw [show (SX.S ∘ fun z : Str => z.cps.toList) = id from funext fun z => SX.S_tl z, List.map_id]
    · intro l hl
      obtain ⟨z, hz, rfl⟩ := List.mem_map.mp hl
      exact ptW_nb p ok z hz
  rw [rdP, hc, tkP_of p 3 0 [] ok hd (by rw [List.drop_zero, List.append_nil])]
  dsimp only
  rw [Nat.zero_add, if_neg (Nat.lt_irrefl _)]
def sp__law_cell (K : PySem.W.Frag) (mg : Str → Option Value) : Sp := fun vs H Q _ => match vs with | [.ref a, .int k] => ∃ ns : List Int, SqL K H a (ns.map V.int) ∧ 0 ≤ k ∧ k < 1000000 ∧ ∀ c, Q (.int c) H | _ => False
theorem q__law_cell {H : Hp} {Q : VK} {E : XK} {a : Addr} {k : Int} (q : ∃ ns : List Int, SqL K H a (ns.map V.int) ∧ 0 ≤ k ∧ k < 1000000 ∧ ∀ c, Q (.int c) H) : sp__law_cell K mg [.ref a, .int k] H Q E := q
local macro_rules | `(tactic| walk_at "op") => `(tactic| with_reducible refine q__law_cell ?_)
theorem c__law_cell (T : Txt K mg) : Cal P w K mg base 1 "_law_cell" (sp__law_cell K mg) := by
  refine T.d__law_cell.cal (k := 0) sc__law_cell (by intro vs H Q E h; unfold sp__law_cell at h; split at h <;> first | rfl | exact h.elim) fun f cdv A outer s H vs Q E hr h => ?_
  refine ⟨_, (pss_cons (ps_if (pt_cmpR op_ltA (pv 1) (pe_callB call_lenA (by rfl) T.n_len (by decide +kernel) (pa_cons (pv 0) pa_nil)) (nomark _))
    (pss_one (ps_ret (pe_ix ix_seq (pv 0) (pv 1) (fun _ _ => rfl))))
    pss_nil)
    (pss_one (ps_ret (pe_op op_addA (pe_op op_mulA pe_int (pv 1)) pe_int)))), ?_⟩
  try simp only [cxOf_K, cxOf_K', cxOf_mg, cxOf_mg']
  unfold sp__law_cell at h
  split at h
  case h_2 => exact h.elim
  rename_i a k
  rw [show L2.start ["_law_script", "_law_k"] [V.ref a, V.int k] = [some (V.ref a), some (V.int k)] from rfl]
  obtain ⟨ns, hS, hk, hk2, q⟩ := h
  walk_at "sts"
  refine L_lenL hS ?_
  walk_at "sts"
  refine L_d (fun c => ?_) (fun c => ?_)
  · walk_at "sts"
    exact L_ixL hS (atI_ints hk (by rw [List.length_map] at c; exact c)) (q _)
  · walk_at "sa"
    exact q _
def sp__law_mixed (K : PySem.W.Frag) (mg : Str → Option Value) : Sp := fun vs H Q _ => match vs with | [.int c, .int k] => 0 ≤ k ∧ k < 1000000 ∧ ∀ r, 0 ≤ r → r < 1099511627776 → Q (.int r) H | _ => False
theorem q__law_mixed {H : Hp} {Q : VK} {E : XK} {c : Int} {k : Int} (q : 0 ≤ k ∧ k < 1000000 ∧ ∀ r, 0 ≤ r → r < 1099511627776 → Q (.int r) H) : sp__law_mixed K mg [.int c, .int k] H Q E := q
local macro_rules | `(tactic| walk_at "op") => `(tactic| with_reducible refine q__law_mixed ?_)
theorem c__law_mixed (T : Txt K mg) : Cal P w K mg base 1 "_law_mixed" (sp__law_mixed K mg) := by
  refine T.d__law_mixed.cal (k := 0) sc__law_mixed (by intro vs H Q E h; unfold sp__law_mixed at h; split at h <;> first | rfl | exact h.elim) fun f cdv A outer s H vs Q E hr h => ?_
  refine ⟨_, (pss_cons (ps_if (pt_cmpR (op_eqA hr) (pe_op op_mod (pv 0) pe_int) pe_int (nomark _))
    (pss_one (ps_ret (pe_op op_mod (pe_op op_shr (pv 0) (pe_op op_addA pe_int (pe_op op_mulA pe_int (pv 1)))) (pe_op op_pow pe_int pe_int))))
    pss_nil)
    (pss_cons (ps_set (i := 2) sc__law_mixed.nd rfl (.inl rfl) (pe_op op_mod (pe_op op_addA (pv 0) (pe_op op_mulA pe_int (pv 1))) pe_int))
    (pss_cons (ps_set (i := 2) sc__law_mixed.nd rfl (.inl rfl) (pe_op op_mod (pe_op op_addA (pe_op op_mulA (pv 2) pe_int) (pv 1)) pe_int))
    (pss_cons (ps_set (i := 2) sc__law_mixed.nd rfl (.inl rfl) (pe_op op_mod (pe_op op_mulA (pv 2) (pe_op op_addA (pv 2) pe_int)) pe_int))
    (pss_one (ps_ret (pe_op op_mod (pe_op op_mulA (pv 2) (pe_op op_addA (pv 2) pe_int)) pe_int))))))), ?_⟩
  try simp only [cxOf_K, cxOf_K', cxOf_mg, cxOf_mg']
  unfold sp__law_mixed at h
  split at h
  case h_2 => exact h.elim
  rename_i c k
  rw [show L2.start ["_law_cell_here", "_law_k", "_law_number"] [V.int c, V.int k] = [some (V.int c), some (V.int k), none] from rfl]
  obtain ⟨hk, hk2, q⟩ := h
  walk_at "sts"
  refine L_I (by decide) ?_
  walk_at "sts"
  refine L_d (fun c => ?_) (fun c => ?_)
  · walk_at "sts"
    refine L_mulI ((bd_64 (by decide)).cmul (bd_64 (by omega))) ?_
    walk_at "sts"
    refine L_I (show 0 ≤ _ by omega) ?_
    walk_at "sa"
    exact q _ (Int.emod_nonneg _ (by decide)) (Int.emod_lt_of_pos _ (by decide))
  · walk_at "sa"
    exact q _ (Int.emod_nonneg _ (by decide)) (Int.lt_of_lt_of_le (Int.emod_lt_of_pos _ (by decide)) (by decide))
/-- a plan as the law tells it -/
def dPT : PT → PyData
  | .few m => .tuple [.str "few", .int m]
  | .sta m => .tuple [.str "start", .int m]
  | .loo m => .tuple [.str "loose", .int m]
  | .due m => .tuple [.str "duel", .int m]
  | .each p => .tuple [.str "each", dPT p]
  | .first o i => .tuple [.str "first", dPT o, dPT i]
def PT.nodue : PT → Prop
  | .due _ => False
  | .each p => p.nodue
  | .first o i => o.nodue ∧ i.nodue
  | _ => True
theorem at2 {a b x : Int} : atI [V.int a, V.int b] (x % 2) = some (.int (if x % 2 = 0 then a else b)) := by
  rcases Int.emod_two_eq x with h | h <;> rw [h] <;> rfl
theorem lf_of {w : Int} {b : Bool} (h : w = 0 ∨ w = 2 ∨ (w = 3 ∧ b = true)) : ∃ (z : Str) (g : Int → PT), atI [V.str "few", V.str "", V.str "loose", V.str "duel"] w = some (.str z) ∧ (∀ m, dPT (g m) = .tuple [.str z, .int m]) ∧ (∀ m, 0 ≤ m → m ≤ 24 → (g m).ok) ∧ (∀ m, (g m).dep = 0) ∧ (∀ m, b = false → (g m).nodue) := by
  rcases h with rfl | rfl | ⟨rfl, rfl⟩
  · exact ⟨"few", .few, rfl, fun _ => rfl, fun _ h1 h2 => ⟨h1, h2⟩, fun _ => rfl, fun _ _ => trivial⟩
  · exact ⟨"loose", .loo, rfl, fun _ => rfl, fun _ h1 h2 => ⟨h1, h2⟩, fun _ => rfl, fun _ _ => trivial⟩
  · exact ⟨"duel", .due, rfl, fun _ => rfl, fun _ h1 h2 => ⟨h1, h2⟩, fun _ => rfl, fun _ z => nomatch z⟩
def spq__law_tree (D : Nat) (K : PySem.W.Frag) (mg : Str → Option Value) : Sp := fun vs H Q _ => match vs with | [.int n, .int d, .bl b] => ∃ r : Nat, d = 3 - (r : Int) ∧ r ≤ D ∧ ∀ p n' t vt H', Same H H' → p.ok → p.dep ≤ r → (b = false → p.nodue) → H' t = some (.tup [vt, .int n']) → Dp K H' vt (dPT p) → Q (.ref t) H' | _ => False
def spr__law_tree : Nat → PySem.W.Frag → (Str → Option Value) → Sp
  | 0, _, _ => fun _ _ _ _ => False
  | D + 1, K, mg => spq__law_tree D K mg
abbrev sp__law_tree (K : PySem.W.Frag) (mg : Str → Option Value) : Sp := spr__law_tree 5 K mg
theorem cr__law_tree (T : Txt K mg) : ∀ D : Nat, Cal P w K mg base (0 + D) "_law_tree" (spr__law_tree D K mg)
  | 0 => T.d__law_tree.calF
  | D + 1 => by
    have ih := cr__law_tree T D
    refine T.d__law_tree.cal (k := 0 + D) sc__law_tree (by intro vs H Q E h; replace h : spq__law_tree D K mg vs H Q E := h; unfold spq__law_tree at h; split at h <;> first | rfl | exact h.elim) fun f cdv A outer s H vs Q E hr h => ?_
    refine ⟨_, (pss_cons (ps_set (i := 3) sc__law_tree.nd rfl (.inl rfl) (pe_op op_mod (pv 0) pe_int))
    (pss_cons (ps_set (i := 0) sc__law_tree.nd rfl (.inl rfl) (pe_op op_fdivW (pv 0) pe_int))
    (Evl.pss_cut (ps_if (pt_cmpR (op_eqA hr) (pv 1) pe_int (nomark _))
    (pss_one (ps_set (i := 3) sc__law_tree.nd rfl (.inl rfl) (pe_op op_mod (pv 3) pe_int)))
    pss_nil)
    (Evl.pss_cut (ps_if (PW.pt (pw_and (pt_cmpR (op_eqA hr) (pv 3) pe_int (nomark _)) (pw_and1 (pt_not (pt_val (pv 2))))))
    (pss_one (ps_set (i := 3) sc__law_tree.nd rfl (.inl rfl) pe_int))
    pss_nil)
    (pss_cons (ps_if (pt_cmpR (op_eqA hr) (pv 3) pe_int (nomark _))
    (pss_one (ps_ret (pe_tup (pa_cons (pe_tup (pa_cons pe_str (pa_cons (pe_op op_addA pe_int (pe_op op_mod (pv 0) (pe_ix ix_seq (pe_lst (pa_cons pe_int (pa_cons pe_int pa_nil))) (pe_op op_mod (pe_op op_fdivW (pv 0) pe_int) pe_int) (fun _ _ => rfl)))) pa_nil))) (pa_cons (pe_op op_fdivW (pv 0) pe_int) pa_nil)))))
    pss_nil)
    (pss_cons (ps_if (pt_cmpR op_ltA (pv 3) pe_int (nomark _))
    (pss_one (ps_ret (pe_tup (pa_cons (pe_tup (pa_cons (pe_ix ix_seq (pe_lst (pa_cons pe_str (pa_cons pe_str (pa_cons pe_str (pa_cons pe_str pa_nil))))) (pv 3) (fun _ _ => rfl)) (pa_cons (pe_op op_mod (pv 0) (pe_ix ix_seq (pe_lst (pa_cons pe_int (pa_cons pe_int pa_nil))) (pe_op op_mod (pe_op op_fdivW (pv 0) pe_int) pe_int) (fun _ _ => rfl))) pa_nil))) (pa_cons (pe_op op_fdivW (pv 0) pe_int) pa_nil)))))
    pss_nil)
    (pss_cons (ps_asg (pe_c ih hr (by omega) (by rfl) (pa_cons (pv 0) (pa_cons (pe_op op_addA (pv 1) pe_int) (pa_cons (pv 2) pa_nil)))) (pg_tup rfl (pgs_cons (pg_name (i := 4) sc__law_tree.nd rfl (.inl rfl)) (pgs_cons (pg_name (i := 0) sc__law_tree.nd rfl (.inl rfl)) pgs_nil))))
    (pss_cons (ps_if (pt_cmpR (op_eqA hr) (pv 3) pe_int (nomark _))
    (pss_one (ps_ret (pe_tup (pa_cons (pe_tup (pa_cons pe_str (pa_cons (pv 4) pa_nil))) (pa_cons (pv 0) pa_nil)))))
    pss_nil)
    (pss_cons (ps_asg (pe_c ih hr (by omega) (by rfl) (pa_cons (pv 0) (pa_cons (pe_op op_addA (pv 1) pe_int) (pa_cons (pv 2) pa_nil)))) (pg_tup rfl (pgs_cons (pg_name (i := 5) sc__law_tree.nd rfl (.inl rfl)) (pgs_cons (pg_name (i := 0) sc__law_tree.nd rfl (.inl rfl)) pgs_nil))))
    (pss_one (ps_ret (pe_tup (pa_cons (pe_tup (pa_cons pe_str (pa_cons (pv 4) (pa_cons (pv 5) pa_nil)))) (pa_cons (pv 0) pa_nil)))))))))))))), ?_⟩
    try simp only [cxOf_K, cxOf_K', cxOf_mg, cxOf_mg']
    replace h : spq__law_tree D K mg vs H Q E := h
    unfold spq__law_tree at h
    split at h
    case h_2 => exact h.elim
    rename_i n d b
    rw [show L2.start ["_law_number", "_law_deep", "_law_wide", "_law_way", "_law_one", "_law_other"] [V.int n, V.int d, V.bl b] = [some (V.int n), some (V.int d), some (V.bl b), none, none, none] from rfl]
    obtain ⟨r, rfl, hD, q⟩ := h
    walk_at "sa"
    refine L_cut (Mid := fun σ' H' => H' = H ∧ ∃ w : Int, 0 ≤ w ∧ w < 6 ∧ (r = 0 → w < 4) ∧ σ' = [some (.int (n / 6)), some (.int (3 - (r : Int))), some (.bl b), some (.int w), none, none]) ?_ ?_
    · walk_at "sts"
      refine L_d (fun c => ?_) (fun c => ?_)
      · walk_at "sa"
        exact ⟨rfl, _, by omega, by omega, by omega, rfl⟩
      · walk_at "sa"
        exact ⟨rfl, _, by omega, by omega, by omega, rfl⟩
    rintro σ' H' ⟨rfl, w, h0, h6, hr0, rfl⟩
    refine L_cut (Mid := fun σ' H'' => H'' = H' ∧ ∃ w : Int, 0 ≤ w ∧ w < 6 ∧ (r = 0 → w < 4) ∧ (w = 3 → b = true) ∧ σ' = [some (.int (n / 6)), some (.int (3 - (r : Int))), some (.bl b), some (.int w), none, none]) ?_ ?_
    · walk_at "sts"
      refine L_d (fun c => ?_) (fun c => ?_)
      · walk_at "sts"
        cases b with
        | true =>
          walk_at "sts"
          exact ⟨rfl, _, h0, h6, hr0, fun _ => rfl, rfl⟩
        | false =>
          walk_at "sts"
          exact ⟨rfl, _, by omega, by omega, by omega, (fun z => by cases z), rfl⟩
      · walk_at "sts"
        exact ⟨rfl, _, h0, h6, hr0, fun z => absurd z c, rfl⟩
    clear h0 h6 hr0 w
    rintro σ' H'' ⟨rfl, w, h0, h6, hr0, hw3, rfl⟩
    walk_at "sts"
    refine L_d (fun c => ?_) (fun c => ?_)
    · walk_at "sa"
      walk_at "nw"
      rename_i p1 hp1 H1 s1 e1
      walk_at "sa"
      refine L_ixL (.of e1) at2 ?_
      generalize hm : (if n / 6 / 100 % 2 = 0 then (4 : Int) else 100) = m
      have m0 : 0 < m ∧ m ≤ 100 := by rw [← hm]; split <;> omega
      walk_at "sts"
      refine L_I m0.1 ?_
      have b0 := Int.emod_nonneg (n / 6) (show m ≠ 0 by omega)
      have b1 := Int.emod_lt_of_pos (n / 6) m0.1
      walk_at "sts"
      walk_at "nw"
      rename_i p2 hp2 H2 s2 e2
      walk_at "sa"
      walk_at "nw"
      rename_i p3 hp3 H3 s3 e3
      exact q (.sta (1 + n / 6 % m)) _ p3 _ H3 (s1.trans (s2.trans s3)) ⟨by omega, by omega⟩ (Nat.zero_le _) (fun _ => trivial) e3 (.tup (.of (s3 _ _ e2)) (.cons (.str _) (.cons (.int _) .nil)))
    walk_at "sts"
    refine L_d (fun c2 => ?_) (fun c2 => ?_)
    · obtain ⟨z, g, hz, hg, hg1, hg2, hg3⟩ := lf_of (w := w) (b := b) (by
        rcases (show w = 0 ∨ w = 2 ∨ w = 3 by omega) with h | h | h
        · exact .inl h
        · exact .inr (.inl h)
        · exact .inr (.inr ⟨h, hw3 h⟩))
      walk_at "sts"
      walk_at "nw"
      rename_i p0 hp0 H0 s0 e0
      walk_at "sts"
      refine L_ixL (.of e0) hz ?_
      walk_at "sa"
      walk_at "nw"
      rename_i p1 hp1 H1 s1 e1
      walk_at "sa"
      refine L_ixL (.of e1) at2 ?_
      generalize hm : (if n / 6 / 25 % 2 = 0 then (5 : Int) else 25) = m
      have m0 : 0 < m ∧ m ≤ 25 := by rw [← hm]; split <;> omega
      walk_at "sts"
      refine L_I m0.1 ?_
      have b0 := Int.emod_nonneg (n / 6) (show m ≠ 0 by omega)
      have b1 := Int.emod_lt_of_pos (n / 6) m0.1
      walk_at "sts"
      walk_at "nw"
      rename_i p2 hp2 H2 s2 e2
      walk_at "sa"
      walk_at "nw"
      rename_i p3 hp3 H3 s3 e3
      exact q (g (n / 6 % m)) _ p3 _ H3 (s0.trans (s1.trans (s2.trans s3))) (hg1 _ b0 (by omega)) (by rw [hg2]; exact Nat.zero_le _) (hg3 _) e3 (by rw [hg]; exact .tup (.of (s3 _ _ e2)) (.cons (.str _) (.cons (.int _) .nil)))
    obtain ⟨r', rfl⟩ : ∃ r', r = r' + 1 := ⟨r - 1, by omega⟩
    obtain ⟨D', rfl⟩ : ∃ D', D = D' + 1 := ⟨D - 1, by omega⟩
    walk_at "sts"
    refine ⟨r', by omega, by omega, fun p n1 t1 vt1 H1 s1 k1 d1 u1 e1 dp1 => ?_⟩
    walk_at "sts"
    refine L_gTup (.of e1) rfl ?_
    walk_at "sts"
    refine L_d (fun c3 => ?_) (fun c3 => ?_)
    · walk_at "sts"
      walk_at "nw"
      rename_i p2 hp2 H2 s2 e2
      walk_at "sts"
      walk_at "nw"
      rename_i p3 hp3 H3 s3 e3
      exact q (.each p) _ p3 _ H3 (s1.trans (s2.trans s3)) k1 (Nat.succ_le_succ d1) u1 e3 (.tup (.of (s3 _ _ e2)) (.cons (.str _) (.cons (Dp_same (s2.trans s3) _ dp1) .nil)))
    · walk_at "sts"
      refine ⟨r', by omega, by omega, fun p' n2 t2 vt2 H2 s2 k2 d2 u2 e2 dp2 => ?_⟩
      walk_at "sts"
      refine L_gTup (.of e2) rfl ?_
      walk_at "sts"
      walk_at "nw"
      rename_i p3 hp3 H3 s3 e3
      walk_at "sts"
      walk_at "nw"
      rename_i p4 hp4 H4 s4 e4
      exact q (.first p p') _ p4 _ H4 (s1.trans (s2.trans (s3.trans s4))) ⟨k1, k2⟩ (Nat.succ_le_succ (Nat.max_le.mpr ⟨d1, d2⟩)) (fun h => ⟨u1 h, u2 h⟩) e4 (.tup (.of (s4 _ _ e3)) (.cons (.str _) (.cons (Dp_same (s2.trans (s3.trans s4)) _ dp1) (.cons (Dp_same (s3.trans s4) _ dp2) .nil))))
theorem c__law_tree (T : Txt K mg) : Cal P w K mg base 5 "_law_tree" (sp__law_tree K mg) := cr__law_tree T 5
theorem of_lf {K : PySem.W.Frag} {H : Hp} {v : V} {z : Str} {m : Int} (h : Dp K H v (.tuple [.str z, .int m])) : ∃ t, v = .ref t ∧ SqT K H t [.str z, .int m] := by
  cases h with | tup h a =>
  cases a with | cons a1 a2 =>
  cases a1
  cases a2 with | cons b1 b2 =>
  cases b1
  cases b2
  exact ⟨_, rfl, h⟩
theorem of_each {K : PySem.W.Frag} {H : Hp} {v : V} {z : Str} {d : PyData} (h : Dp K H v (.tuple [.str z, d])) : ∃ t vt, v = .ref t ∧ SqT K H t [.str z, vt] ∧ Dp K H vt d := by
  cases h with | tup h a =>
  cases a with | cons a1 a2 =>
  cases a1
  cases a2 with | cons b1 b2 =>
  cases b2
  exact ⟨_, _, rfl, h, b1⟩
theorem of_first {K : PySem.W.Frag} {H : Hp} {v : V} {z : Str} {d e : PyData} (h : Dp K H v (.tuple [.str z, d, e])) : ∃ t vt vu, v = .ref t ∧ SqT K H t [.str z, vt, vu] ∧ Dp K H vt d ∧ Dp K H vu e := by
  cases h with | tup h a =>
  cases a with | cons a1 a2 =>
  cases a1
  cases a2 with | cons b1 b2 =>
  cases b2 with | cons c1 c2 =>
  cases c2
  exact ⟨_, _, _, rfl, h, b1, c1⟩
theorem ptW_len : ∀ p : PT, (ptW p).length + 6 ≤ 8 * 2 ^ p.dep
  | .few m => by simp [ptW, PT.dep]
  | .sta m => by simp [ptW, PT.dep]
  | .loo m => by simp [ptW, PT.dep]
  | .due m => by simp [ptW, PT.dep]
  | .each p => by
    have := ptW_len p
    have := Nat.one_le_two_pow (n := p.dep)
    simp only [ptW, PT.dep, List.length_append, List.length_cons, List.length_nil, Nat.pow_succ]
    omega
  | .first q r => by
    have := ptW_len q
    have := ptW_len r
    have b1 : 2 ^ q.dep ≤ 2 ^ max q.dep r.dep := Nat.pow_le_pow_right (by decide) (Nat.le_max_left ..)
    have b2 : 2 ^ r.dep ≤ 2 ^ max q.dep r.dep := Nat.pow_le_pow_right (by decide) (Nat.le_max_right ..)
    simp only [ptW, PT.dep, List.length_append, List.length_cons, List.length_nil, Nat.pow_succ]
    omega
theorem ptW_len3 {p : PT} (h : p.dep ≤ 4) : (ptW p).length ≤ 128 := by
  have := ptW_len p
  have : 2 ^ p.dep ≤ 2 ^ 4 := Nat.pow_le_pow_right (by decide) h
  omega
def spq__law_words (D : Nat) (K : PySem.W.Frag) (mg : Str → Option Value) : Sp := fun vs H Q _ => match vs with | [v] => ∃ p, Dp K H v (dPT p) ∧ p.ok ∧ p.dep ≤ D ∧ D ≤ 3 ∧ ∀ l H', Same H H' → H' l = some (.lst ((ptW p).map V.str)) → Q (.ref l) H' | _ => False
def spr__law_words : Nat → PySem.W.Frag → (Str → Option Value) → Sp
  | 0, _, _ => fun _ _ _ _ => False
  | D + 1, K, mg => spq__law_words D K mg
abbrev sp__law_words (K : PySem.W.Frag) (mg : Str → Option Value) : Sp := spr__law_words 4 K mg
theorem cr__law_words (T : Txt K mg) : ∀ D : Nat, Cal P w K mg base (0 + D) "_law_words" (spr__law_words D K mg)
  | 0 => T.d__law_words.calF
  | D + 1 => by
    have ih := cr__law_words T D
    refine T.d__law_words.cal (k := 0 + D) sc__law_words (by intro vs H Q E h; replace h : spq__law_words D K mg vs H Q E := h; unfold spq__law_words at h; split at h <;> first | rfl | exact h.elim) fun f cdv A outer s H vs Q E hr h => ?_
    refine ⟨_, (pss_cons (ps_if (pt_cmpR (op_eqA hr) (pe_ix ix_seq (pv 0) pe_int (fun _ _ => rfl)) pe_str (nomark _))
    (pss_one (ps_ret (pe_op op_addA (pe_op op_addA (pe_lst (pa_cons pe_str (pa_cons pe_str pa_nil))) (pe_c ih hr (by omega) (by rfl) (pa_cons (pe_ix ix_seq (pv 0) pe_int (fun _ _ => rfl)) pa_nil))) (pe_lst (pa_cons pe_str pa_nil)))))
    pss_nil)
    (pss_cons (ps_if (pt_cmpR (op_eqA hr) (pe_ix ix_seq (pv 0) pe_int (fun _ _ => rfl)) pe_str (nomark _))
    (pss_one (ps_ret (pe_op op_addA (pe_op op_addA (pe_op op_addA (pe_op op_addA (pe_lst (pa_cons pe_str (pa_cons pe_str pa_nil))) (pe_c ih hr (by omega) (by rfl) (pa_cons (pe_ix ix_seq (pv 0) pe_int (fun _ _ => rfl)) pa_nil))) (pe_lst (pa_cons pe_str (pa_cons pe_str (pa_cons pe_str pa_nil))))) (pe_c ih hr (by omega) (by rfl) (pa_cons (pe_ix ix_seq (pv 0) pe_int (fun _ _ => rfl)) pa_nil))) (pe_lst (pa_cons pe_str pa_nil)))))
    pss_nil)
    (pss_one (ps_ret (pe_lst (pa_cons (pe_ix ix_seq (pv 0) pe_int (fun _ _ => rfl)) (pa_cons (pe_callTy call_str1A (by rfl) T.n_str (by decide +kernel) (pa_cons (pe_ix ix_seq (pv 0) pe_int (fun _ _ => rfl)) pa_nil)) pa_nil))))))), ?_⟩
    try simp only [cxOf_K, cxOf_K', cxOf_mg, cxOf_mg']
    replace h : spq__law_words D K mg vs H Q E := h
    unfold spq__law_words at h
    split at h
    case h_2 => exact h.elim
    rename_i v
    rw [show L2.start ["_law_tree_here"] [v] = [some (v)] from rfl]
    obtain ⟨p, hv, hok, hD, hD3, q⟩ := h
    cases p with
    | few m =>
      obtain ⟨t, rfl, ht⟩ := of_lf hv
      walk_at "sts"
      refine L_ixT ht (v := .str "few") (by with_unfolding_all rfl) ?_
      walk_at "sts"
      refine L_dF (by decide) ?_
      walk_at "sts"
      refine L_ixT ht (v := .str "few") (by with_unfolding_all rfl) ?_
      walk_at "sts"
      refine L_dF (by decide) ?_
      walk_at "sts"
      refine L_ixT ht (v := .str "few") (by with_unfolding_all rfl) ?_
      walk_at "sts"
      refine L_ixT ht (v := .int m) (by with_unfolding_all rfl) ?_
      walk_at "sts"
      have hm : 0 ≤ m ∧ m ≤ 100 := by
        obtain ⟨h1, h2⟩ := hok
        omega
      refine L_str1 (by omega) ?_
      walk_at "nw"
      rename_i p1 hp1 H1 s1 e1
      exact q _ _ s1 e1
    | sta m =>
      obtain ⟨t, rfl, ht⟩ := of_lf hv
      walk_at "sts"
      refine L_ixT ht (v := .str "start") (by with_unfolding_all rfl) ?_
      walk_at "sts"
      refine L_dF (by decide) ?_
      walk_at "sts"
      refine L_ixT ht (v := .str "start") (by with_unfolding_all rfl) ?_
      walk_at "sts"
      refine L_dF (by decide) ?_
      walk_at "sts"
      refine L_ixT ht (v := .str "start") (by with_unfolding_all rfl) ?_
      walk_at "sts"
      refine L_ixT ht (v := .int m) (by with_unfolding_all rfl) ?_
      walk_at "sts"
      have hm : 0 ≤ m ∧ m ≤ 100 := by
        obtain ⟨h1, h2⟩ := hok
        omega
      refine L_str1 (by omega) ?_
      walk_at "nw"
      rename_i p1 hp1 H1 s1 e1
      exact q _ _ s1 e1
    | loo m =>
      obtain ⟨t, rfl, ht⟩ := of_lf hv
      walk_at "sts"
      refine L_ixT ht (v := .str "loose") (by with_unfolding_all rfl) ?_
      walk_at "sts"
      refine L_dF (by decide) ?_
      walk_at "sts"
      refine L_ixT ht (v := .str "loose") (by with_unfolding_all rfl) ?_
      walk_at "sts"
      refine L_dF (by decide) ?_
      walk_at "sts"
      refine L_ixT ht (v := .str "loose") (by with_unfolding_all rfl) ?_
      walk_at "sts"
      refine L_ixT ht (v := .int m) (by with_unfolding_all rfl) ?_
      walk_at "sts"
      have hm : 0 ≤ m ∧ m ≤ 100 := by
        obtain ⟨h1, h2⟩ := hok
        omega
      refine L_str1 (by omega) ?_
      walk_at "nw"
      rename_i p1 hp1 H1 s1 e1
      exact q _ _ s1 e1
    | due m =>
      obtain ⟨t, rfl, ht⟩ := of_lf hv
      walk_at "sts"
      refine L_ixT ht (v := .str "duel") (by with_unfolding_all rfl) ?_
      walk_at "sts"
      refine L_dF (by decide) ?_
      walk_at "sts"
      refine L_ixT ht (v := .str "duel") (by with_unfolding_all rfl) ?_
      walk_at "sts"
      refine L_dF (by decide) ?_
      walk_at "sts"
      refine L_ixT ht (v := .str "duel") (by with_unfolding_all rfl) ?_
      walk_at "sts"
      refine L_ixT ht (v := .int m) (by with_unfolding_all rfl) ?_
      walk_at "sts"
      have hm : 0 ≤ m ∧ m ≤ 100 := by
        obtain ⟨h1, h2⟩ := hok
        omega
      refine L_str1 (by omega) ?_
      walk_at "nw"
      rename_i p1 hp1 H1 s1 e1
      exact q _ _ s1 e1
    | each p =>
      obtain ⟨t, vt, rfl, ht, hp⟩ := of_each hv
      obtain ⟨D', rfl⟩ : ∃ D', D = D' + 1 := ⟨D - 1, by simp only [PT.dep] at hD; omega⟩
      simp only [PT.dep] at hD
      have hl := ptW_len3 (p := p) (by omega)
      walk_at "sts"
      refine L_ixT ht (v := .str "each") (by with_unfolding_all rfl) ?_
      walk_at "sts"
      refine L_dT rfl ?_
      walk_at "sts"
      walk_at "nw"
      rename_i p1 hp1 H1 s1 e1
      walk_at "sts"
      refine L_ixT (s1.seqT ht) (v := vt) (by with_unfolding_all rfl) ?_
      refine ⟨p, Dp_same s1 _ hp, hok, by omega, by omega, fun l H2 s2 e2 => ?_⟩
      refine L_addL (s2 _ _ e1) e2 (sz_dec (by simp; omega)) ?_
      walk_at "nwp"
      rename_i p3 hp3 H3 s3 e3
      walk_at "sts"
      walk_at "nw"
      rename_i p4 hp4 H4 s4 e4
      refine L_addL (s4 _ _ e3) e4 (sz_dec (by simp; omega)) ?_
      walk_at "nwp"
      rename_i p5 hp5 H5 s5 e5
      refine q _ _ (s1.trans (s2.trans (s3.trans (s4.trans s5)))) ?_
      rw [e5, ptW, List.map_append, List.map_append]
      rfl
    | first p p' =>
      obtain ⟨t, vt, vu, rfl, ht, hp, hp'⟩ := of_first hv
      obtain ⟨D', rfl⟩ : ∃ D', D = D' + 1 := ⟨D - 1, by simp only [PT.dep] at hD; omega⟩
      simp only [PT.dep] at hD
      have m1 := Nat.le_max_left p.dep p'.dep
      have m2 := Nat.le_max_right p.dep p'.dep
      have hl := ptW_len3 (p := p) (by omega)
      have hl' := ptW_len3 (p := p') (by omega)
      walk_at "sts"
      refine L_ixT ht (v := .str "first") (by with_unfolding_all rfl) ?_
      walk_at "sts"
      refine L_dF (by decide) ?_
      walk_at "sts"
      refine L_ixT ht (v := .str "first") (by with_unfolding_all rfl) ?_
      walk_at "sts"
      refine L_dT rfl ?_
      walk_at "sts"
      walk_at "nw"
      rename_i p1 hp1 H1 s1 e1
      walk_at "sts"
      refine L_ixT (s1.seqT ht) (v := vt) (by with_unfolding_all rfl) ?_
      refine ⟨p, Dp_same s1 _ hp, hok.1, by omega, by omega, fun l H2 s2 e2 => ?_⟩
      refine L_addL (s2 _ _ e1) e2 (sz_dec (by simp; omega)) ?_
      walk_at "nwp"
      rename_i p3 hp3 H3 s3 e3
      walk_at "sts"
      walk_at "nw"
      rename_i p4 hp4 H4 s4 e4
      refine L_addL (s4 _ _ e3) e4 (sz_dec (by simp; omega)) ?_
      walk_at "nwp"
      rename_i p5 hp5 H5 s5 e5
      have s15 := s1.trans (s2.trans (s3.trans (s4.trans s5)))
      walk_at "sts"
      refine L_ixT (s15.seqT ht) (v := vu) (by with_unfolding_all rfl) ?_
      refine ⟨p', Dp_same s15 _ hp', hok.2, by omega, by omega, fun l H6 s6 e6 => ?_⟩
      refine L_addL (s6 _ _ e5) e6 (sz_dec (by simp; omega)) ?_
      walk_at "nwp"
      rename_i p7 hp7 H7 s7 e7
      walk_at "sts"
      walk_at "nw"
      rename_i p8 hp8 H8 s8 e8
      refine L_addL (s8 _ _ e7) e8 (sz_dec (by simp; omega)) ?_
      walk_at "nwp"
      rename_i p9 hp9 H9 s9 e9
      refine q _ _ (s15.trans (s6.trans (s7.trans (s8.trans s9)))) ?_
      rw [e9, ptW, List.map_append, List.map_append, List.map_append, List.map_append]
      rfl
theorem c__law_words (T : Txt K mg) : Cal P w K mg base 4 "_law_words" (sp__law_words K mg) := cr__law_words T 4
def sp__law_whole (K : PySem.W.Frag) (mg : Str → Option Value) : Sp := fun vs H Q _ => match vs with | [v, .int d] => (∃ t, v = .int t ∧ Q (.bl (decide (t = d))) H) ∨ (NotW K H v ∧ Q (.bl false) H) | _ => False
theorem q__law_whole {H : Hp} {Q : VK} {E : XK} {v : V} {d : Int} (q : (∃ t, v = .int t ∧ Q (.bl (decide (t = d))) H) ∨ (NotW K H v ∧ Q (.bl false) H)) : sp__law_whole K mg [v, .int d] H Q E := q
local macro_rules | `(tactic| walk_at "op") => `(tactic| with_reducible refine q__law_whole ?_)
theorem c__law_whole (T : Txt K mg) : Cal P w K mg base 1 "_law_whole" (sp__law_whole K mg) := by
  refine T.d__law_whole.cal (k := 0) sc__law_whole (by intro vs H Q E h; unfold sp__law_whole at h; split at h <;> first | rfl | exact h.elim) fun f cdv A outer s H vs Q E hr h => ?_
  refine ⟨_, (pss_one (ps_ret (pe_and (pe_callB call_isi (by rfl) T.n_isinstance (by decide +kernel) (pa_cons (pv 0) (pa_cons (pe_ty "int" (by rfl) T.n_int (by decide +kernel)) pa_nil))) (pe_and (pe_not (pe_callB call_isi (by rfl) T.n_isinstance (by decide +kernel) (pa_cons (pv 0) (pa_cons (pe_ty "bool" (by rfl) T.n_bool (by decide +kernel)) pa_nil)))) (pe_one (pe_cmpR (op_eqA hr) (pv 0) (pv 1) (nomark _))))))), ?_⟩
  try simp only [cxOf_K, cxOf_K', cxOf_mg, cxOf_mg']
  unfold sp__law_whole at h
  split at h
  case h_2 => exact h.elim
  rename_i v d
  rw [show L2.start ["_law_found", "_law_due"] [v, V.int d] = [some (v), some (V.int d)] from rfl]
  rcases h with ⟨t, rfl, q⟩ | ⟨⟨b, rfl⟩ | ⟨ty, h1, h2⟩, q⟩
  · walk_at "sts"
    refine L_isi (.base (.int _)) (b := true) (by decide +kernel) ?_
    walk_at "sts"
    refine L_isi (.base (.int _)) (b := false) (by decide +kernel) ?_
    walk_at "sts"
    exact q
  · walk_at "sts"
    refine L_isi (.base (.bl b)) (b := true) (by decide +kernel) ?_
    walk_at "sts"
    refine L_isi (.base (.bl b)) (b := true) (by decide +kernel) ?_
    walk_at "sts"
    exact q
  · walk_at "sts"
    refine L_isi h1 h2 ?_
    walk_at "sts"
    exact q
abbrev lawNames : List Str := ["few", "start", "loose", "duel", "each", "first", "none"]
def spq__law_is (D : Nat) (K : PySem.W.Frag) (mg : Str → Option Value) : Sp := fun vs H Q _ => match vs with | [.ref y, v] => ∃ p, PTA mg Any H p y ∧ Dp K H v (dPT p) ∧ p.dep ≤ D ∧ ∀ H', Same H H' → Q (.bl true) H' | _ => False
def spr__law_is : Nat → PySem.W.Frag → (Str → Option Value) → Sp
  | 0, _, _ => fun _ _ _ _ => False
  | D + 1, K, mg => spq__law_is D K mg
abbrev sp__law_is (K : PySem.W.Frag) (mg : Str → Option Value) : Sp := spr__law_is 4 K mg
theorem cr__law_is (T : Txt K mg) : ∀ D : Nat, Cal P w K mg base (1 + D) "_law_is" (spr__law_is D K mg)
  | 0 => T.d__law_is.calF
  | D + 1 => by
    have ih := cr__law_is T D
    refine T.d__law_is.cal (k := 1 + D) sc__law_is (by intro vs H Q E h; replace h : spq__law_is D K mg vs H Q E := h; unfold spq__law_is at h; split at h <;> first | rfl | exact h.elim) fun f cdv A outer s H vs Q E hr h => ?_
    refine ⟨_, (pss_cons (ps_set (i := 2) sc__law_is.nd rfl (.inl rfl) (pe_lst (pa_cons (pe_callB call_isi (by rfl) T.n_isinstance (by decide +kernel) (pa_cons (pv 0) (pa_cons (pe_glob (v := .ref (cA mg "Few")) (by rfl) T.m_Few rfl) pa_nil))) (pa_cons (pe_callB call_isi (by rfl) T.n_isinstance (by decide +kernel) (pa_cons (pv 0) (pa_cons (pe_glob (v := .ref (cA mg "Start")) (by rfl) T.m_Start rfl) pa_nil))) (pa_cons (pe_callB call_isi (by rfl) T.n_isinstance (by decide +kernel) (pa_cons (pv 0) (pa_cons (pe_glob (v := .ref (cA mg "Loose")) (by rfl) T.m_Loose rfl) pa_nil))) (pa_cons (pe_callB call_isi (by rfl) T.n_isinstance (by decide +kernel) (pa_cons (pv 0) (pa_cons (pe_glob (v := .ref (cA mg "Duel")) (by rfl) T.m_Duel rfl) pa_nil))) pa_nil))))))
    (pss_cons (ps_set (i := 2) sc__law_is.nd rfl (.inl rfl) (pe_op op_addA (pv 2) (pe_lst (pa_cons (pe_callB call_isi (by rfl) T.n_isinstance (by decide +kernel) (pa_cons (pv 0) (pa_cons (pe_glob (v := .ref (cA mg "Each")) (by rfl) T.m_Each rfl) pa_nil))) (pa_cons (pe_callB call_isi (by rfl) T.n_isinstance (by decide +kernel) (pa_cons (pv 0) (pa_cons (pe_glob (v := .ref (cA mg "First")) (by rfl) T.m_First rfl) pa_nil))) (pa_cons (pe_not (pe_callB call_isi (by rfl) T.n_isinstance (by decide +kernel) (pa_cons (pv 0) (pa_cons (pe_glob (v := .ref (cA mg "Plan")) (by rfl) T.m_Plan rfl) pa_nil)))) pa_nil))))))
    (pss_cons (ps_if (pt_cmpR (op_neA hr) (pv 2) (pe_lc (own := [("_law_word", 3)]) (g := (gName 3)) (tt := tYes) (te := (tOp (aEq K) (tOp (rIx K) (tVar 1) (tC (.int 0))) (tVar 3))) rfl sc__law_is.nd (pi_list (pe_lst (pa_cons pe_str (pa_cons pe_str (pa_cons pe_str (pa_cons pe_str (pa_cons pe_str (pa_cons pe_str (pa_cons pe_str pa_nil))))))))) (blkOk_by (N := ["_law_plan", "_law_tree_here", "_law_kinds", "_law_word"]) (sc := defScope s__law_is) (by decide +kernel)) (fun _ _ _ _ _ => by exact (pg_name (i := 3) sc__law_is.nd rfl (.inl rfl))) (fun _ _ _ _ _ => pts_nil) (fun _ _ _ _ _ => by exact (pe_cmpR (op_eqA hr) (pe_ix ix_seq (pv 1) pe_int (fun _ _ => rfl)) (pv 3) (nomark _)))) (nomark _))
    (pss_one (ps_ret pe_bl))
    pss_nil)
    (pss_cons (ps_if (pt_cmpR (op_eqA hr) (pe_ix ix_seq (pv 1) pe_int (fun _ _ => rfl)) pe_str (nomark _))
    (pss_one (ps_ret (pe_c ih hr (by omega) (by rfl) (pa_cons (pe_fld (pv 0) rfl) (pa_cons (pe_ix ix_seq (pv 1) pe_int (fun _ _ => rfl)) pa_nil)))))
    pss_nil)
    (pss_cons (ps_if (pt_cmpR (op_eqA hr) (pe_ix ix_seq (pv 1) pe_int (fun _ _ => rfl)) pe_str (nomark _))
    (pss_one (ps_ret (pe_and (pe_c ih hr (by omega) (by rfl) (pa_cons (pe_fld (pv 0) rfl) (pa_cons (pe_ix ix_seq (pv 1) pe_int (fun _ _ => rfl)) pa_nil))) (pe_one (pe_c ih hr (by omega) (by rfl) (pa_cons (pe_fld (pv 0) rfl) (pa_cons (pe_ix ix_seq (pv 1) pe_int (fun _ _ => rfl)) pa_nil)))))))
    pss_nil)
    (pss_cons (ps_if (pt_cmpR (op_eqA hr) (pe_ix ix_seq (pv 1) pe_int (fun _ _ => rfl)) pe_str (nomark _))
    (pss_one (ps_ret (pe_c (c__law_whole T) hr (by omega) (by rfl) (pa_cons (pe_fld (pv 0) rfl) (pa_cons (pe_ix ix_seq (pv 1) pe_int (fun _ _ => rfl)) pa_nil)))))
    pss_nil)
    (pss_one (ps_ret (pe_c (c__law_whole T) hr (by omega) (by rfl) (pa_cons (pe_fld (pv 0) rfl) (pa_cons (pe_ix ix_seq (pv 1) pe_int (fun _ _ => rfl)) pa_nil))))))))))), ?_⟩
    try simp only [cxOf_K, cxOf_K', cxOf_mg, cxOf_mg']
    replace h : spq__law_is D K mg vs H Q E := h
    unfold spq__law_is at h
    split at h
    case h_2 => exact h.elim
    rename_i y v
    rw [show L2.start ["_law_plan", "_law_tree_here", "_law_kinds", "_law_word"] [V.ref y, v] = [some (V.ref y), some (v), none, none] from rfl]
    obtain ⟨p, hy, hv, hD, q⟩ := h
    cases p with
    | few m =>
      obtain ⟨_, dx, hx⟩ := hy
      obtain ⟨t, rfl, ht⟩ := of_lf hv
      have ty : ∀ H', Same H H' → TyX K H' (.ref y) (.ref (cA mg "Few")) := fun H' s => tyx_I (s _ _ hx) T.k_Few T.ic_Few
      walk_at "sts"
      refine L_isC (ty _ (Same.refl _)) (kit_own T.e_Few_Few T.ct_Few T.e_Few_Few) ?_
      walk_at "sts"
      refine L_isC (ty _ (Same.refl _)) (kit_own T.e_Few_Few T.ct_Start T.e_Few_Start) ?_
      walk_at "sts"
      refine L_isC (ty _ (Same.refl _)) (kit_own T.e_Few_Few T.ct_Loose T.e_Few_Loose) ?_
      walk_at "sts"
      refine L_isC (ty _ (Same.refl _)) (kit_own T.e_Few_Few T.ct_Duel T.e_Few_Duel) ?_
      walk_at "sts"
      walk_at "nw"
      rename_i p1 hp1 H1 s1 e1
      walk_at "sts"
      refine L_isC (ty _ s1) (kit_own T.e_Few_Few T.ct_Each T.e_Few_Each) ?_
      walk_at "sts"
      refine L_isC (ty _ s1) (kit_own T.e_Few_Few T.ct_First T.e_Few_First) ?_
      walk_at "sts"
      refine L_isC (ty _ s1) (kit_own T.e_Few_Few T.ct_Plan T.e_Few_Plan) ?_
      walk_at "sts"
      walk_at "nw"
      rename_i p2 hp2 H2 s2 e2
      refine L_addL (s2 _ _ e1) e2 (sz_dec (by decide)) ?_
      walk_at "nwp"
      rename_i p3 hp3 H3 s3 e3
      walk_at "sts"
      walk_at "nw"
      rename_i p4 hp4 H4 s4 e4
      have s14 := s1.trans (s2.trans (s3.trans s4))
      walk_at "sts"
      refine L_rl (.of e4) ?_
      refine lc_fm walk_list (fun i => (lawNames[i]?.map fun w => V.bl (decide (("few" : Str) = w)))) (by decide) (fun H' s => .of (s _ _ e4)) ?_ ?_
      · rintro i x1 Ha Hb R R' hi sm ⟨rfl, hx1⟩ r1 r2
        replace hx1 : (lawNames.map V.str)[i]? = some x1 := hx1
        rw [List.getElem?_map] at hx1
        obtain ⟨w, hw, rfl⟩ := Option.map_eq_some_iff.mp hx1
        walk_at "sts"
        refine ⟨rfl, ?_⟩
        walk_at "sts"
        refine L_ixT ((s14.trans sm).seqT ht) (v := .str "few") (by with_unfolding_all rfl) ?_
        walk_at "sts"
        exact r1 _ _ (by rw [hw]; rfl) (.refl _)
      intro p5 H5 hp5 s5 e5
      have e5 : H5 p5 = some (.lst [.bl true, .bl false, .bl false, .bl false, .bl false, .bl false, .bl false]) := e5.trans (congrArg (fun z => some (HO.lst z)) (show (List.range 7).filterMap (fun i => (lawNames[i]?.map fun w => V.bl (decide (("few" : Str) = w)))) = [.bl true, .bl false, .bl false, .bl false, .bl false, .bl false, .bl false] from by with_unfolding_all rfl))
      walk_at "sts"
      refine L_neR (d := .list [.bool true, .bool false, .bool false, .bool false, .bool false, .bool false, .bool false]) (.lst (.of (s5 _ _ (s4 _ _ e3))) (.cons (.bl _) (.cons (.bl _) (.cons (.bl _) (.cons (.bl _) (.cons (.bl _) (.cons (.bl _) (.cons (.bl _) (.nil))))))))) (.lst (.of e5) (.cons (.bl _) (.cons (.bl _) (.cons (.bl _) (.cons (.bl _) (.cons (.bl _) (.cons (.bl _) (.cons (.bl _) (.nil))))))))) (by decide) ?_
      have s15 := s14.trans s5
      walk_at "sts"
      refine L_ixT (s15.seqT ht) (v := .str "few") (by with_unfolding_all rfl) ?_
      walk_at "sts"
      refine L_dF (by decide) ?_
      walk_at "sts"
      refine L_ixT (s15.seqT ht) (v := .str "few") (by with_unfolding_all rfl) ?_
      walk_at "sts"
      refine L_dF (by decide) ?_
      walk_at "sts"
      refine L_ixT (s15.seqT ht) (v := .str "few") (by with_unfolding_all rfl) ?_
      walk_at "sts"
      refine L_dF (by decide) ?_
      walk_at "sts"
      refine L_fldv (s15 _ _ hx) T.k_Few T.na_Few_many rfl ?_
      walk_at "sts"
      refine L_ixT (s15.seqT ht) (v := .int m) (by with_unfolding_all rfl) ?_
      refine .inl ⟨m, rfl, ?_⟩
      rw [decide_eq_true rfl]
      exact q _ s15
    | sta m =>
      obtain ⟨_, dx, hx⟩ := hy
      obtain ⟨t, rfl, ht⟩ := of_lf hv
      have ty : ∀ H', Same H H' → TyX K H' (.ref y) (.ref (cA mg "Start")) := fun H' s => tyx_I (s _ _ hx) T.k_Start T.ic_Start
      walk_at "sts"
      refine L_isC (ty _ (Same.refl _)) (kit_own T.e_Start_Start T.ct_Few T.e_Start_Few) ?_
      walk_at "sts"
      refine L_isC (ty _ (Same.refl _)) (kit_own T.e_Start_Start T.ct_Start T.e_Start_Start) ?_
      walk_at "sts"
      refine L_isC (ty _ (Same.refl _)) (kit_own T.e_Start_Start T.ct_Loose T.e_Start_Loose) ?_
      walk_at "sts"
      refine L_isC (ty _ (Same.refl _)) (kit_own T.e_Start_Start T.ct_Duel T.e_Start_Duel) ?_
      walk_at "sts"
      walk_at "nw"
      rename_i p1 hp1 H1 s1 e1
      walk_at "sts"
      refine L_isC (ty _ s1) (kit_own T.e_Start_Start T.ct_Each T.e_Start_Each) ?_
      walk_at "sts"
      refine L_isC (ty _ s1) (kit_own T.e_Start_Start T.ct_First T.e_Start_First) ?_
      walk_at "sts"
      refine L_isC (ty _ s1) (kit_own T.e_Start_Start T.ct_Plan T.e_Start_Plan) ?_
      walk_at "sts"
      walk_at "nw"
      rename_i p2 hp2 H2 s2 e2
      refine L_addL (s2 _ _ e1) e2 (sz_dec (by decide)) ?_
      walk_at "nwp"
      rename_i p3 hp3 H3 s3 e3
      walk_at "sts"
      walk_at "nw"
      rename_i p4 hp4 H4 s4 e4
      have s14 := s1.trans (s2.trans (s3.trans s4))
      walk_at "sts"
      refine L_rl (.of e4) ?_
      refine lc_fm walk_list (fun i => (lawNames[i]?.map fun w => V.bl (decide (("start" : Str) = w)))) (by decide) (fun H' s => .of (s _ _ e4)) ?_ ?_
      · rintro i x1 Ha Hb R R' hi sm ⟨rfl, hx1⟩ r1 r2
        replace hx1 : (lawNames.map V.str)[i]? = some x1 := hx1
        rw [List.getElem?_map] at hx1
        obtain ⟨w, hw, rfl⟩ := Option.map_eq_some_iff.mp hx1
        walk_at "sts"
        refine ⟨rfl, ?_⟩
        walk_at "sts"
        refine L_ixT ((s14.trans sm).seqT ht) (v := .str "start") (by with_unfolding_all rfl) ?_
        walk_at "sts"
        exact r1 _ _ (by rw [hw]; rfl) (.refl _)
      intro p5 H5 hp5 s5 e5
      have e5 : H5 p5 = some (.lst [.bl false, .bl true, .bl false, .bl false, .bl false, .bl false, .bl false]) := e5.trans (congrArg (fun z => some (HO.lst z)) (show (List.range 7).filterMap (fun i => (lawNames[i]?.map fun w => V.bl (decide (("start" : Str) = w)))) = [.bl false, .bl true, .bl false, .bl false, .bl false, .bl false, .bl false] from by with_unfolding_all rfl))
      walk_at "sts"
      refine L_neR (d := .list [.bool false, .bool true, .bool false, .bool false, .bool false, .bool false, .bool false]) (.lst (.of (s5 _ _ (s4 _ _ e3))) (.cons (.bl _) (.cons (.bl _) (.cons (.bl _) (.cons (.bl _) (.cons (.bl _) (.cons (.bl _) (.cons (.bl _) (.nil))))))))) (.lst (.of e5) (.cons (.bl _) (.cons (.bl _) (.cons (.bl _) (.cons (.bl _) (.cons (.bl _) (.cons (.bl _) (.cons (.bl _) (.nil))))))))) (by decide) ?_
      have s15 := s14.trans s5
      walk_at "sts"
      refine L_ixT (s15.seqT ht) (v := .str "start") (by with_unfolding_all rfl) ?_
      walk_at "sts"
      refine L_dF (by decide) ?_
      walk_at "sts"
      refine L_ixT (s15.seqT ht) (v := .str "start") (by with_unfolding_all rfl) ?_
      walk_at "sts"
      refine L_dF (by decide) ?_
      walk_at "sts"
      refine L_ixT (s15.seqT ht) (v := .str "start") (by with_unfolding_all rfl) ?_
      walk_at "sts"
      refine L_dT rfl ?_
      walk_at "sts"
      refine L_fldv (s15 _ _ hx) T.k_Start T.na_Start_step rfl ?_
      walk_at "sts"
      refine L_ixT (s15.seqT ht) (v := .int m) (by with_unfolding_all rfl) ?_
      refine .inl ⟨m, rfl, ?_⟩
      rw [decide_eq_true rfl]
      exact q _ s15
    | loo m =>
      obtain ⟨_, dx, hx⟩ := hy
      obtain ⟨t, rfl, ht⟩ := of_lf hv
      have ty : ∀ H', Same H H' → TyX K H' (.ref y) (.ref (cA mg "Loose")) := fun H' s => tyx_I (s _ _ hx) T.k_Loose T.ic_Loose
      walk_at "sts"
      refine L_isC (ty _ (Same.refl _)) (kit_own T.e_Loose_Loose T.ct_Few T.e_Loose_Few) ?_
      walk_at "sts"
      refine L_isC (ty _ (Same.refl _)) (kit_own T.e_Loose_Loose T.ct_Start T.e_Loose_Start) ?_
      walk_at "sts"
      refine L_isC (ty _ (Same.refl _)) (kit_own T.e_Loose_Loose T.ct_Loose T.e_Loose_Loose) ?_
      walk_at "sts"
      refine L_isC (ty _ (Same.refl _)) (kit_own T.e_Loose_Loose T.ct_Duel T.e_Loose_Duel) ?_
      walk_at "sts"
      walk_at "nw"
      rename_i p1 hp1 H1 s1 e1
      walk_at "sts"
      refine L_isC (ty _ s1) (kit_own T.e_Loose_Loose T.ct_Each T.e_Loose_Each) ?_
      walk_at "sts"
      refine L_isC (ty _ s1) (kit_own T.e_Loose_Loose T.ct_First T.e_Loose_First) ?_
      walk_at "sts"
      refine L_isC (ty _ s1) (kit_own T.e_Loose_Loose T.ct_Plan T.e_Loose_Plan) ?_
      walk_at "sts"
      walk_at "nw"
      rename_i p2 hp2 H2 s2 e2
      refine L_addL (s2 _ _ e1) e2 (sz_dec (by decide)) ?_
      walk_at "nwp"
      rename_i p3 hp3 H3 s3 e3
      walk_at "sts"
      walk_at "nw"
      rename_i p4 hp4 H4 s4 e4
      have s14 := s1.trans (s2.trans (s3.trans s4))
      walk_at "sts"
      refine L_rl (.of e4) ?_
      refine lc_fm walk_list (fun i => (lawNames[i]?.map fun w => V.bl (decide (("loose" : Str) = w)))) (by decide) (fun H' s => .of (s _ _ e4)) ?_ ?_
      · rintro i x1 Ha Hb R R' hi sm ⟨rfl, hx1⟩ r1 r2
        replace hx1 : (lawNames.map V.str)[i]? = some x1 := hx1
        rw [List.getElem?_map] at hx1
        obtain ⟨w, hw, rfl⟩ := Option.map_eq_some_iff.mp hx1
        walk_at "sts"
        refine ⟨rfl, ?_⟩
        walk_at "sts"
        refine L_ixT ((s14.trans sm).seqT ht) (v := .str "loose") (by with_unfolding_all rfl) ?_
        walk_at "sts"
        exact r1 _ _ (by rw [hw]; rfl) (.refl _)
      intro p5 H5 hp5 s5 e5
      have e5 : H5 p5 = some (.lst [.bl false, .bl false, .bl true, .bl false, .bl false, .bl false, .bl false]) := e5.trans (congrArg (fun z => some (HO.lst z)) (show (List.range 7).filterMap (fun i => (lawNames[i]?.map fun w => V.bl (decide (("loose" : Str) = w)))) = [.bl false, .bl false, .bl true, .bl false, .bl false, .bl false, .bl false] from by with_unfolding_all rfl))
      walk_at "sts"
      refine L_neR (d := .list [.bool false, .bool false, .bool true, .bool false, .bool false, .bool false, .bool false]) (.lst (.of (s5 _ _ (s4 _ _ e3))) (.cons (.bl _) (.cons (.bl _) (.cons (.bl _) (.cons (.bl _) (.cons (.bl _) (.cons (.bl _) (.cons (.bl _) (.nil))))))))) (.lst (.of e5) (.cons (.bl _) (.cons (.bl _) (.cons (.bl _) (.cons (.bl _) (.cons (.bl _) (.cons (.bl _) (.cons (.bl _) (.nil))))))))) (by decide) ?_
      have s15 := s14.trans s5
      walk_at "sts"
      refine L_ixT (s15.seqT ht) (v := .str "loose") (by with_unfolding_all rfl) ?_
      walk_at "sts"
      refine L_dF (by decide) ?_
      walk_at "sts"
      refine L_ixT (s15.seqT ht) (v := .str "loose") (by with_unfolding_all rfl) ?_
      walk_at "sts"
      refine L_dF (by decide) ?_
      walk_at "sts"
      refine L_ixT (s15.seqT ht) (v := .str "loose") (by with_unfolding_all rfl) ?_
      walk_at "sts"
      refine L_dF (by decide) ?_
      walk_at "sts"
      refine L_fldv (s15 _ _ hx) T.k_Loose T.na_Loose_many rfl ?_
      walk_at "sts"
      refine L_ixT (s15.seqT ht) (v := .int m) (by with_unfolding_all rfl) ?_
      refine .inl ⟨m, rfl, ?_⟩
      rw [decide_eq_true rfl]
      exact q _ s15
    | due m =>
      obtain ⟨_, dx, hx⟩ := hy
      obtain ⟨t, rfl, ht⟩ := of_lf hv
      have ty : ∀ H', Same H H' → TyX K H' (.ref y) (.ref (cA mg "Duel")) := fun H' s => tyx_I (s _ _ hx) T.k_Duel T.ic_Duel
      walk_at "sts"
      refine L_isC (ty _ (Same.refl _)) (kit_own T.e_Duel_Duel T.ct_Few T.e_Duel_Few) ?_
      walk_at "sts"
      refine L_isC (ty _ (Same.refl _)) (kit_own T.e_Duel_Duel T.ct_Start T.e_Duel_Start) ?_
      walk_at "sts"
      refine L_isC (ty _ (Same.refl _)) (kit_own T.e_Duel_Duel T.ct_Loose T.e_Duel_Loose) ?_
      walk_at "sts"
      refine L_isC (ty _ (Same.refl _)) (kit_own T.e_Duel_Duel T.ct_Duel T.e_Duel_Duel) ?_
      walk_at "sts"
      walk_at "nw"
      rename_i p1 hp1 H1 s1 e1
      walk_at "sts"
      refine L_isC (ty _ s1) (kit_own T.e_Duel_Duel T.ct_Each T.e_Duel_Each) ?_
      walk_at "sts"
      refine L_isC (ty _ s1) (kit_own T.e_Duel_Duel T.ct_First T.e_Duel_First) ?_
      walk_at "sts"
      refine L_isC (ty _ s1) (kit_own T.e_Duel_Duel T.ct_Plan T.e_Duel_Plan) ?_
      walk_at "sts"
      walk_at "nw"
      rename_i p2 hp2 H2 s2 e2
      refine L_addL (s2 _ _ e1) e2 (sz_dec (by decide)) ?_
      walk_at "nwp"
      rename_i p3 hp3 H3 s3 e3
      walk_at "sts"
      walk_at "nw"
      rename_i p4 hp4 H4 s4 e4
      have s14 := s1.trans (s2.trans (s3.trans s4))
      walk_at "sts"
      refine L_rl (.of e4) ?_
      refine lc_fm walk_list (fun i => (lawNames[i]?.map fun w => V.bl (decide (("duel" : Str) = w)))) (by decide) (fun H' s => .of (s _ _ e4)) ?_ ?_
      · rintro i x1 Ha Hb R R' hi sm ⟨rfl, hx1⟩ r1 r2
        replace hx1 : (lawNames.map V.str)[i]? = some x1 := hx1
        rw [List.getElem?_map] at hx1
        obtain ⟨w, hw, rfl⟩ := Option.map_eq_some_iff.mp hx1
        walk_at "sts"
        refine ⟨rfl, ?_⟩
        walk_at "sts"
        refine L_ixT ((s14.trans sm).seqT ht) (v := .str "duel") (by with_unfolding_all rfl) ?_
        walk_at "sts"
        exact r1 _ _ (by rw [hw]; rfl) (.refl _)
      intro p5 H5 hp5 s5 e5
      have e5 : H5 p5 = some (.lst [.bl false, .bl false, .bl false, .bl true, .bl false, .bl false, .bl false]) := e5.trans (congrArg (fun z => some (HO.lst z)) (show (List.range 7).filterMap (fun i => (lawNames[i]?.map fun w => V.bl (decide (("duel" : Str) = w)))) = [.bl false, .bl false, .bl false, .bl true, .bl false, .bl false, .bl false] from by with_unfolding_all rfl))
      walk_at "sts"
      refine L_neR (d := .list [.bool false, .bool false, .bool false, .bool true, .bool false, .bool false, .bool false]) (.lst (.of (s5 _ _ (s4 _ _ e3))) (.cons (.bl _) (.cons (.bl _) (.cons (.bl _) (.cons (.bl _) (.cons (.bl _) (.cons (.bl _) (.cons (.bl _) (.nil))))))))) (.lst (.of e5) (.cons (.bl _) (.cons (.bl _) (.cons (.bl _) (.cons (.bl _) (.cons (.bl _) (.cons (.bl _) (.cons (.bl _) (.nil))))))))) (by decide) ?_
      have s15 := s14.trans s5
      walk_at "sts"
      refine L_ixT (s15.seqT ht) (v := .str "duel") (by with_unfolding_all rfl) ?_
      walk_at "sts"
      refine L_dF (by decide) ?_
      walk_at "sts"
      refine L_ixT (s15.seqT ht) (v := .str "duel") (by with_unfolding_all rfl) ?_
      walk_at "sts"
      refine L_dF (by decide) ?_
      walk_at "sts"
      refine L_ixT (s15.seqT ht) (v := .str "duel") (by with_unfolding_all rfl) ?_
      walk_at "sts"
      refine L_dF (by decide) ?_
      walk_at "sts"
      refine L_fldv (s15 _ _ hx) T.k_Duel T.na_Duel_many rfl ?_
      walk_at "sts"
      refine L_ixT (s15.seqT ht) (v := .int m) (by with_unfolding_all rfl) ?_
      refine .inl ⟨m, rfl, ?_⟩
      rw [decide_eq_true rfl]
      exact q _ s15
    | each p =>
      obtain ⟨_, dx, z1, hx, hz1⟩ := hy
      obtain ⟨t, vt, rfl, ht, hp⟩ := of_each hv
      have ty : ∀ H', Same H H' → TyX K H' (.ref y) (.ref (cA mg "Each")) := fun H' s => tyx_I (s _ _ hx) T.k_Each T.ic_Each
      walk_at "sts"
      refine L_isC (ty _ (Same.refl _)) (kit_own T.e_Each_Each T.ct_Few T.e_Each_Few) ?_
      walk_at "sts"
      refine L_isC (ty _ (Same.refl _)) (kit_own T.e_Each_Each T.ct_Start T.e_Each_Start) ?_
      walk_at "sts"
      refine L_isC (ty _ (Same.refl _)) (kit_own T.e_Each_Each T.ct_Loose T.e_Each_Loose) ?_
      walk_at "sts"
      refine L_isC (ty _ (Same.refl _)) (kit_own T.e_Each_Each T.ct_Duel T.e_Each_Duel) ?_
      walk_at "sts"
      walk_at "nw"
      rename_i p1 hp1 H1 s1 e1
      walk_at "sts"
      refine L_isC (ty _ s1) (kit_own T.e_Each_Each T.ct_Each T.e_Each_Each) ?_
      walk_at "sts"
      refine L_isC (ty _ s1) (kit_own T.e_Each_Each T.ct_First T.e_Each_First) ?_
      walk_at "sts"
      refine L_isC (ty _ s1) (kit_own T.e_Each_Each T.ct_Plan T.e_Each_Plan) ?_
      walk_at "sts"
      walk_at "nw"
      rename_i p2 hp2 H2 s2 e2
      refine L_addL (s2 _ _ e1) e2 (sz_dec (by decide)) ?_
      walk_at "nwp"
      rename_i p3 hp3 H3 s3 e3
      walk_at "sts"
      walk_at "nw"
      rename_i p4 hp4 H4 s4 e4
      have s14 := s1.trans (s2.trans (s3.trans s4))
      walk_at "sts"
      refine L_rl (.of e4) ?_
      refine lc_fm walk_list (fun i => (lawNames[i]?.map fun w => V.bl (decide (("each" : Str) = w)))) (by decide) (fun H' s => .of (s _ _ e4)) ?_ ?_
      · rintro i x1 Ha Hb R R' hi sm ⟨rfl, hx1⟩ r1 r2
        replace hx1 : (lawNames.map V.str)[i]? = some x1 := hx1
        rw [List.getElem?_map] at hx1
        obtain ⟨w, hw, rfl⟩ := Option.map_eq_some_iff.mp hx1
        walk_at "sts"
        refine ⟨rfl, ?_⟩
        walk_at "sts"
        refine L_ixT ((s14.trans sm).seqT ht) (v := .str "each") (by with_unfolding_all rfl) ?_
        walk_at "sts"
        exact r1 _ _ (by rw [hw]; rfl) (.refl _)
      intro p5 H5 hp5 s5 e5
      have e5 : H5 p5 = some (.lst [.bl false, .bl false, .bl false, .bl false, .bl true, .bl false, .bl false]) := e5.trans (congrArg (fun z => some (HO.lst z)) (show (List.range 7).filterMap (fun i => (lawNames[i]?.map fun w => V.bl (decide (("each" : Str) = w)))) = [.bl false, .bl false, .bl false, .bl false, .bl true, .bl false, .bl false] from by with_unfolding_all rfl))
      walk_at "sts"
      refine L_neR (d := .list [.bool false, .bool false, .bool false, .bool false, .bool true, .bool false, .bool false]) (.lst (.of (s5 _ _ (s4 _ _ e3))) (.cons (.bl _) (.cons (.bl _) (.cons (.bl _) (.cons (.bl _) (.cons (.bl _) (.cons (.bl _) (.cons (.bl _) (.nil))))))))) (.lst (.of e5) (.cons (.bl _) (.cons (.bl _) (.cons (.bl _) (.cons (.bl _) (.cons (.bl _) (.cons (.bl _) (.cons (.bl _) (.nil))))))))) (by decide) ?_
      have s15 := s14.trans s5
      walk_at "sts"
      refine L_ixT (s15.seqT ht) (v := .str "each") (by with_unfolding_all rfl) ?_
      walk_at "sts"
      refine L_dT rfl ?_
      walk_at "sts"
      obtain ⟨D', rfl⟩ : ∃ D', D = D' + 1 := ⟨D - 1, by simp only [PT.dep] at hD; omega⟩
      simp only [PT.dep] at hD
      refine L_fldv (s15 _ _ hx) T.k_Each T.na_Each_inside rfl ?_
      walk_at "sts"
      refine L_ixT (s15.seqT ht) (v := vt) (by with_unfolding_all rfl) ?_
      exact ⟨p, hz1.same s15, Dp_same s15 _ hp, by omega, fun H' s => q H' (s15.trans s)⟩
    | first p p' =>
      obtain ⟨_, dx, z1, z2, hx, hz1, hz2⟩ := hy
      obtain ⟨t, vt, vu, rfl, ht, hp, hp'⟩ := of_first hv
      have ty : ∀ H', Same H H' → TyX K H' (.ref y) (.ref (cA mg "First")) := fun H' s => tyx_I (s _ _ hx) T.k_First T.ic_First
      walk_at "sts"
      refine L_isC (ty _ (Same.refl _)) (kit_own T.e_First_First T.ct_Few T.e_First_Few) ?_
      walk_at "sts"
      refine L_isC (ty _ (Same.refl _)) (kit_own T.e_First_First T.ct_Start T.e_First_Start) ?_
      walk_at "sts"
      refine L_isC (ty _ (Same.refl _)) (kit_own T.e_First_First T.ct_Loose T.e_First_Loose) ?_
      walk_at "sts"
      refine L_isC (ty _ (Same.refl _)) (kit_own T.e_First_First T.ct_Duel T.e_First_Duel) ?_
      walk_at "sts"
      walk_at "nw"
      rename_i p1 hp1 H1 s1 e1
      walk_at "sts"
      refine L_isC (ty _ s1) (kit_own T.e_First_First T.ct_Each T.e_First_Each) ?_
      walk_at "sts"
      refine L_isC (ty _ s1) (kit_own T.e_First_First T.ct_First T.e_First_First) ?_
      walk_at "sts"
      refine L_isC (ty _ s1) (kit_own T.e_First_First T.ct_Plan T.e_First_Plan) ?_
      walk_at "sts"
      walk_at "nw"
      rename_i p2 hp2 H2 s2 e2
      refine L_addL (s2 _ _ e1) e2 (sz_dec (by decide)) ?_
      walk_at "nwp"
      rename_i p3 hp3 H3 s3 e3
      walk_at "sts"
      walk_at "nw"
      rename_i p4 hp4 H4 s4 e4
      have s14 := s1.trans (s2.trans (s3.trans s4))
      walk_at "sts"
      refine L_rl (.of e4) ?_
      refine lc_fm walk_list (fun i => (lawNames[i]?.map fun w => V.bl (decide (("first" : Str) = w)))) (by decide) (fun H' s => .of (s _ _ e4)) ?_ ?_
      · rintro i x1 Ha Hb R R' hi sm ⟨rfl, hx1⟩ r1 r2
        replace hx1 : (lawNames.map V.str)[i]? = some x1 := hx1
        rw [List.getElem?_map] at hx1
        obtain ⟨w, hw, rfl⟩ := Option.map_eq_some_iff.mp hx1
        walk_at "sts"
        refine ⟨rfl, ?_⟩
        walk_at "sts"
        refine L_ixT ((s14.trans sm).seqT ht) (v := .str "first") (by with_unfolding_all rfl) ?_
        walk_at "sts"
        exact r1 _ _ (by rw [hw]; rfl) (.refl _)
      intro p5 H5 hp5 s5 e5
      have e5 : H5 p5 = some (.lst [.bl false, .bl false, .bl false, .bl false, .bl false, .bl true, .bl false]) := e5.trans (congrArg (fun z => some (HO.lst z)) (show (List.range 7).filterMap (fun i => (lawNames[i]?.map fun w => V.bl (decide (("first" : Str) = w)))) = [.bl false, .bl false, .bl false, .bl false, .bl false, .bl true, .bl false] from by with_unfolding_all rfl))
      walk_at "sts"
      refine L_neR (d := .list [.bool false, .bool false, .bool false, .bool false, .bool false, .bool true, .bool false]) (.lst (.of (s5 _ _ (s4 _ _ e3))) (.cons (.bl _) (.cons (.bl _) (.cons (.bl _) (.cons (.bl _) (.cons (.bl _) (.cons (.bl _) (.cons (.bl _) (.nil))))))))) (.lst (.of e5) (.cons (.bl _) (.cons (.bl _) (.cons (.bl _) (.cons (.bl _) (.cons (.bl _) (.cons (.bl _) (.cons (.bl _) (.nil))))))))) (by decide) ?_
      have s15 := s14.trans s5
      walk_at "sts"
      refine L_ixT (s15.seqT ht) (v := .str "first") (by with_unfolding_all rfl) ?_
      walk_at "sts"
      refine L_dF (by decide) ?_
      walk_at "sts"
      refine L_ixT (s15.seqT ht) (v := .str "first") (by with_unfolding_all rfl) ?_
      walk_at "sts"
      refine L_dT rfl ?_
      walk_at "sts"
      obtain ⟨D', rfl⟩ : ∃ D', D = D' + 1 := ⟨D - 1, by simp only [PT.dep] at hD; omega⟩
      simp only [PT.dep] at hD
      have m1 := Nat.le_max_left p.dep p'.dep
      have m2 := Nat.le_max_right p.dep p'.dep
      refine L_fldv (s15 _ _ hx) T.k_First T.na_First_outside rfl ?_
      walk_at "sts"
      refine L_ixT (s15.seqT ht) (v := vt) (by with_unfolding_all rfl) ?_
      refine ⟨p, hz1.same s15, Dp_same s15 _ hp, by omega, fun H6 s6 => ?_⟩
      have s16 := s15.trans s6
      walk_at "sts"
      refine L_fldv (s16 _ _ hx) T.k_First T.na_First_inside rfl ?_
      walk_at "sts"
      refine L_ixT (s16.seqT ht) (v := vu) (by with_unfolding_all rfl) ?_
      exact ⟨p', hz2.same s16, Dp_same s16 _ hp', by omega, fun H' s => q H' (s16.trans s)⟩
theorem c__law_is (T : Txt K mg) : Cal P w K mg base 5 "_law_is" (sp__law_is K mg) := cr__law_is T 4
theorem atI_mem {ns : List Str} {i : Int} (h0 : 0 ≤ i) (h : i < ns.length) : ∃ z ∈ ns, atI (ns.map V.str) i = some (.str z) := by
  have hl : i.toNat < ns.length := by omega
  refine ⟨ns[i.toNat], List.getElem_mem hl, atI_int h0 ?_⟩
  rw [List.getElem?_map, List.getElem?_eq_getElem hl]
  rfl
abbrev someS : List Str := ["few", "start", "loose", "duel", "each", "first", "(", ")", "then", "0", "1", "24", "25", "100", "101", "03", "-1", "", "Few", "few(", "1.0", "x"]
theorem someS_len : ∀ z ∈ someS, z.length ≤ 10 := by decide +kernel
def sp__law_spoiled (K : PySem.W.Frag) (mg : Str → Option Value) : Sp := fun vs H Q _ => match vs with | [.ref a, .int c] => ∃ ws : List Str, H a = some (.lst (ws.map V.str)) ∧ ws ≠ [] ∧ ws.length ≤ 200 ∧ ∀ (ws' : List Str) l H', Same H H' → ws'.length ≤ ws.length + 1 → (∀ z ∈ ws', z ∈ ws ∨ z.length ≤ 10) → H' l = some (.lst (ws'.map V.str)) → Q (.ref l) H' | _ => False
theorem q__law_spoiled {H : Hp} {Q : VK} {E : XK} {a : Addr} {c : Int} (q : ∃ ws : List Str, H a = some (.lst (ws.map V.str)) ∧ ws ≠ [] ∧ ws.length ≤ 200 ∧ ∀ (ws' : List Str) l H', Same H H' → ws'.length ≤ ws.length + 1 → (∀ z ∈ ws', z ∈ ws ∨ z.length ≤ 10) → H' l = some (.lst (ws'.map V.str)) → Q (.ref l) H') : sp__law_spoiled K mg [.ref a, .int c] H Q E := q
local macro_rules | `(tactic| walk_at "op") => `(tactic| with_reducible refine q__law_spoiled ?_)
theorem c__law_spoiled (T : Txt K mg) : Cal P w K mg base 2 "_law_spoiled" (sp__law_spoiled K mg) := by
  refine T.d__law_spoiled.cal (k := 1) sc__law_spoiled (by intro vs H Q E h; unfold sp__law_spoiled at h; split at h <;> first | rfl | exact h.elim) fun f cdv A outer s H vs Q E hr h => ?_
  refine ⟨_, (pss_cons (ps_set (i := 2) sc__law_spoiled.nd rfl (.inl rfl) (pe_c (c__law_mixed T) hr (by decide) (by rfl) (pa_cons (pv 1) (pa_cons pe_int pa_nil))))
    (pss_cons (ps_set (i := 3) sc__law_spoiled.nd rfl (.inl rfl) (pe_op op_mod (pv 2) pe_int))
    (pss_cons (ps_set (i := 2) sc__law_spoiled.nd rfl (.inl rfl) (pe_op op_fdivW (pv 2) pe_int))
    (pss_cons (ps_set (i := 4) sc__law_spoiled.nd rfl (.inl rfl) (pe_op op_mod (pv 2) (pe_callB call_lenA (by rfl) T.n_len (by decide +kernel) (pa_cons (pv 0) pa_nil))))
    (pss_cons (ps_set (i := 2) sc__law_spoiled.nd rfl (.inl rfl) (pe_op op_fdivW (pv 2) (pe_callB call_lenA (by rfl) T.n_len (by decide +kernel) (pa_cons (pv 0) pa_nil))))
    (pss_cons (ps_set (i := 5) sc__law_spoiled.nd rfl (.inl rfl) (pe_lst (pa_cons pe_str (pa_cons pe_str (pa_cons pe_str (pa_cons pe_str (pa_cons pe_str (pa_cons pe_str (pa_cons pe_str (pa_cons pe_str (pa_cons pe_str (pa_cons pe_str (pa_cons pe_str (pa_cons pe_str (pa_cons pe_str (pa_cons pe_str (pa_cons pe_str pa_nil)))))))))))))))))
    (pss_cons (ps_set (i := 5) sc__law_spoiled.nd rfl (.inl rfl) (pe_op op_addA (pv 5) (pe_lst (pa_cons pe_str (pa_cons pe_str (pa_cons pe_str (pa_cons pe_str (pa_cons pe_str (pa_cons pe_str (pa_cons pe_str pa_nil))))))))))
    (pss_cons (ps_set (i := 6) sc__law_spoiled.nd rfl (.inl rfl) (pe_ix ix_seq (pv 5) (pe_op op_mod (pv 2) (pe_callB call_lenA (by rfl) T.n_len (by decide +kernel) (pa_cons (pv 5) pa_nil))) (fun _ _ => rfl)))
    (pss_cons (ps_if (pt_cmpR (op_eqA hr) (pv 3) pe_int (nomark _))
    (pss_one (ps_ret (pe_op op_addA (pe_slice sl_list (pv 0) po_none (po_some (pv 4))) (pe_slice sl_list (pv 0) (po_some (pe_op op_addA (pv 4) pe_int)) po_none))))
    pss_nil)
    (pss_cons (ps_if (pt_cmpR (op_eqA hr) (pv 3) pe_int (nomark _))
    (pss_one (ps_ret (pe_op op_addA (pe_op op_addA (pe_slice sl_list (pv 0) po_none (po_some (pv 4))) (pe_lst (pa_cons (pv 6) pa_nil))) (pe_slice sl_list (pv 0) (po_some (pv 4)) po_none))))
    pss_nil)
    (pss_cons (ps_if (pt_cmpR (op_eqA hr) (pv 3) pe_int (nomark _))
    (pss_one (ps_ret (pe_slice sl_list (pv 0) po_none (po_some (pv 4)))))
    pss_nil)
    (pss_cons (ps_if (pt_cmpR (op_eqA hr) (pv 3) pe_int (nomark _))
    (pss_one (ps_ret (pe_op op_addA (pv 0) (pe_lst (pa_cons (pv 6) pa_nil)))))
    pss_nil)
    (pss_one (ps_ret (pe_op op_addA (pe_op op_addA (pe_slice sl_list (pv 0) po_none (po_some (pv 4))) (pe_lst (pa_cons (pv 6) pa_nil))) (pe_slice sl_list (pv 0) (po_some (pe_op op_addA (pv 4) pe_int)) po_none)))))))))))))))), ?_⟩
  try simp only [cxOf_K, cxOf_K', cxOf_mg, cxOf_mg']
  unfold sp__law_spoiled at h
  split at h
  case h_2 => exact h.elim
  rename_i a c
  rw [show L2.start ["_law_words_here", "_law_cell_here", "_law_number", "_law_way", "_law_at", "_law_some", "_law_sign"] [V.ref a, V.int c] = [some (V.ref a), some (V.int c), none, none, none, none, none] from rfl]
  obtain ⟨ws, ha, hne, hl, q⟩ := h
  have hpos : 0 < ws.length := List.length_pos_iff.mpr hne
  walk_at "sts"
  refine ⟨by decide, by decide, fun r h0 h1 => ?_⟩
  walk_at "sa"
  rw [List.length_map]
  refine L_I (show (0 : Int) < _ by omega) ?_
  have b0 := Int.emod_nonneg (r / 6) (show (ws.length : Int) ≠ 0 by omega)
  have b1 := Int.emod_lt_of_pos (r / 6) (show (0 : Int) < (ws.length : Int) by omega)
  generalize hat : r / 6 % (ws.length : Int) = at' at b0 b1
  obtain ⟨k, rfl⟩ : ∃ k : Nat, at' = k := ⟨at'.toNat, by omega⟩
  have hk : k < ws.length := by omega
  walk_at "sts"
  refine L_lenL (.of ha) ?_
  walk_at "sts"
  rw [List.length_map]
  refine L_I (cdiv_lit (by omega)) ?_
  walk_at "sts"
  walk_at "nw"
  rename_i p1 hp1 H1 s1 e1
  walk_at "sts"
  walk_at "nw"
  rename_i p2 hp2 H2 s2 e2
  refine L_addL (s2 _ _ e1) e2 (sz_dec (by decide)) ?_
  walk_at "nwp"
  rename_i p3 hp3 H3 s3 e3
  replace e3 : H3 p3 = some (.lst (someS.map V.str)) := e3
  have s13 := s1.trans (s2.trans s3)
  walk_at "sts"
  refine L_lenL (.of e3) ?_
  walk_at "sts"
  refine L_I (show (0 : Int) < ((someS.map V.str).length : Int) by decide) ?_
  have c0 := Int.emod_nonneg (r / 6 / (ws.length : Int)) (show ((someS.map V.str).length : Int) ≠ 0 by decide)
  have c1 := Int.emod_lt_of_pos (r / 6 / (ws.length : Int)) (show (0 : Int) < ((someS.map V.str).length : Int) by decide)
  obtain ⟨z, hz, hzi⟩ := atI_mem (ns := someS) c0 (by rw [List.length_map] at c1; exact c1)
  have hzl := someS_len z hz
  refine L_ixL (.of e3) hzi ?_
  have ha3 := s13 _ _ ha
  walk_at "sts"
  have cut1 : ∀ {H' : Hp} {Q : VK}, Same H H' → (∀ p, H' p = none → Q (.ref p) (upd H' p (.lst ((ws.take k).map V.str)))) → rSlL K (.ref a) none (some (k : Int)) H' Q := fun s q => L_slL (.of (s _ _ ha)) fun p hp => by rw [cutV_map, cutG_take]; exact q p hp
  have cut2 : ∀ {H' : Hp} {Q : VK}, Same H H' → (∀ p, H' p = none → Q (.ref p) (upd H' p (.lst ((ws.drop k).map V.str)))) → rSlL K (.ref a) (some (k : Int)) none H' Q := fun s q => L_slL (.of (s _ _ ha)) fun p hp => by rw [cutV_map, cutG_drop]; exact q p hp
  have cut3 : ∀ {H' : Hp} {Q : VK}, Same H H' → (∀ p, H' p = none → Q (.ref p) (upd H' p (.lst ((ws.drop (k + 1)).map V.str)))) → rSlL K (.ref a) (some ((k : Int) + 1)) none H' Q := fun s q => L_slL (.of (s _ _ ha)) fun p hp => by rw [show (k : Int) + 1 = ((k + 1 : Nat) : Int) by omega, cutV_map, cutG_drop]; exact q p hp
  have mt : ∀ z ∈ ws.take k, z ∈ ws := fun z => List.mem_of_mem_take
  have md : ∀ n, ∀ z ∈ ws.drop n, z ∈ ws := fun n z => List.mem_of_mem_drop
  have lt : (ws.take k).length = k := by rw [List.length_take]; omega
  have ld : ∀ n, (ws.drop n).length = ws.length - n := fun n => List.length_drop
  refine L_d (fun c => ?_) (fun c => ?_)
  · walk_at "sts"
    refine cut1 s13 ?_
    walk_at "nwp"
    rename_i p4 hp4 H4 s4 e4
    walk_at "sts"
    refine cut3 (s13.trans s4) ?_
    walk_at "nwp"
    rename_i p5 hp5 H5 s5 e5
    refine L_addL (s5 _ _ e4) e5 (sz_dec (by rw [List.length_map, List.length_map, lt, ld]; omega)) ?_
    walk_at "nwp"
    rename_i p6 hp6 H6 s6 e6
    refine q (ws.take k ++ ws.drop (k + 1)) _ _ (s13.trans (s4.trans (s5.trans s6))) (by rw [List.length_append, lt, ld]; omega) (fun z hz => .inl ((List.mem_append.mp hz).elim (mt z) (md _ z))) ?_
    rw [e6, List.map_append]
  walk_at "sts"
  refine L_d (fun c => ?_) (fun c => ?_)
  · walk_at "sts"
    refine cut1 s13 ?_
    walk_at "nwp"
    rename_i p4 hp4 H4 s4 e4
    walk_at "sts"
    walk_at "nw"
    rename_i p5 hp5 H5 s5 e5
    refine L_addL (s5 _ _ e4) e5 (sz_dec (by rw [List.length_map, lt]; simp <;> omega)) ?_
    walk_at "nwp"
    rename_i p6 hp6 H6 s6 e6
    walk_at "sts"
    refine cut2 (s13.trans (s4.trans (s5.trans s6))) ?_
    walk_at "nwp"
    rename_i p7 hp7 H7 s7 e7
    refine L_addL (s7 _ _ e6) e7 (sz_dec (by rw [List.length_append, List.length_map, List.length_map, lt, ld]; simp <;> omega)) ?_
    walk_at "nwp"
    rename_i p8 hp8 H8 s8 e8
    refine q (ws.take k ++ [z] ++ ws.drop k) _ _ (s13.trans (s4.trans (s5.trans (s6.trans (s7.trans s8))))) (by rw [List.length_append, List.length_append, lt, ld]; simp <;> omega) (fun y hy => ?_) ?_
    · rcases List.mem_append.mp hy with hy | hy
      · rcases List.mem_append.mp hy with hy | hy
        · exact .inl (mt y hy)
        · rw [List.mem_singleton.mp hy]; exact .inr hzl
      · exact .inl (md _ y hy)
    · rw [e8, List.map_append, List.map_append]
      rfl
  walk_at "sts"
  refine L_d (fun c => ?_) (fun c => ?_)
  · walk_at "sts"
    refine cut1 s13 ?_
    walk_at "nwp"
    rename_i p4 hp4 H4 s4 e4
    exact q (ws.take k) _ _ (s13.trans s4) (by rw [lt]; omega) (fun y hy => .inl (mt y hy)) e4
  walk_at "sts"
  refine L_d (fun c => ?_) (fun c => ?_)
  · walk_at "sts"
    walk_at "nw"
    rename_i p4 hp4 H4 s4 e4
    refine L_addL ((s13.trans s4) _ _ ha) e4 (sz_dec (by rw [List.length_map]; simp <;> omega)) ?_
    walk_at "nwp"
    rename_i p5 hp5 H5 s5 e5
    refine q (ws ++ [z]) _ _ (s13.trans (s4.trans s5)) (by rw [List.length_append]; simp <;> omega) (fun y hy => ?_) ?_
    · rcases List.mem_append.mp hy with hy | hy
      · exact .inl hy
      · rw [List.mem_singleton.mp hy]; exact .inr hzl
    · rw [e5, List.map_append]
      rfl
  walk_at "sts"
  refine cut1 s13 ?_
  walk_at "nwp"
  rename_i p4 hp4 H4 s4 e4
  walk_at "sts"
  walk_at "nw"
  rename_i p5 hp5 H5 s5 e5
  refine L_addL (s5 _ _ e4) e5 (sz_dec (by rw [List.length_map, lt]; simp <;> omega)) ?_
  walk_at "nwp"
  rename_i p6 hp6 H6 s6 e6
  walk_at "sts"
  refine cut3 (s13.trans (s4.trans (s5.trans s6))) ?_
  walk_at "nwp"
  rename_i p7 hp7 H7 s7 e7
  refine L_addL (s7 _ _ e6) e7 (sz_dec (by rw [List.length_append, List.length_map, List.length_map, lt, ld]; simp <;> omega)) ?_
  walk_at "nwp"
  rename_i p8 hp8 H8 s8 e8
  refine q (ws.take k ++ [z] ++ ws.drop (k + 1)) _ _ (s13.trans (s4.trans (s5.trans (s6.trans (s7.trans s8))))) (by rw [List.length_append, List.length_append, lt, ld]; simp <;> omega) (fun y hy => ?_) ?_
  · rcases List.mem_append.mp hy with hy | hy
    · rcases List.mem_append.mp hy with hy | hy
      · exact .inl (mt y hy)
      · rw [List.mem_singleton.mp hy]; exact .inr hzl
    · exact .inl (md _ y hy)
  · rw [e8, List.map_append, List.map_append]
    rfl
/-- what stands on the law's list, the last one first -/
def siV : SI → V
  | .num lo _ => .str (if lo = 0 then "0 to 24" else "1 to 100")
  | .sgn z => .str z
  | .pl r => .int (3 - (r : Int))
def siD : SI → PyData
  | .num lo _ => .str (if lo = 0 then "0 to 24" else "1 to 100")
  | .sgn z => .str z
  | .pl r => .int (3 - (r : Int))
def siOk : SI → Prop
  | .num lo hi => (lo = 0 ∧ hi = 24) ∨ (lo = 1 ∧ hi = 100)
  | .sgn z => z ∈ (["(", ")", "then"] : List Str)
  | .pl r => r ≤ 3
theorem opens_ok {w : Str} {r : Nat} {more : List SI} (hr : r ≤ 3) (h : opensS w r = some more) : (∀ s ∈ more, siOk s) ∧ more.length ≤ 7 := by
  unfold opensS at h
  split at h
  · cases h; exact ⟨by intro s hs; rw [List.mem_singleton.mp hs]; exact .inl ⟨rfl, rfl⟩, by decide⟩
  · split at h
    · cases h; exact ⟨by intro s hs; rw [List.mem_singleton.mp hs]; exact .inr ⟨rfl, rfl⟩, by decide⟩
    · split at h
      · cases h
        refine ⟨fun s hs => ?_, Nat.le_of_ble_eq_true rfl⟩
        simp only [List.mem_cons, List.not_mem_nil, or_false] at hs
        rcases hs with rfl | rfl | rfl
        · show _ ∈ _; decide
        · show r - 1 ≤ 3; omega
        · show _ ∈ _; decide
      · split at h
        · cases h
          refine ⟨fun s hs => ?_, Nat.le_of_ble_eq_true rfl⟩
          simp only [List.mem_cons, List.not_mem_nil, or_false] at hs
          rcases hs with rfl | rfl | rfl | rfl | rfl | rfl | rfl
          · show _ ∈ _; decide
          · show r - 1 ≤ 3; omega
          · show _ ∈ _; decide
          · show _ ∈ _; decide
          · show _ ∈ _; decide
          · show r - 1 ≤ 3; omega
          · show _ ∈ _; decide
        · cases h
theorem dp_si {K : PySem.W.Frag} {H : Hp} : ∀ st : List SI, DpAll K H (st.map siV) (st.map siD)
  | [] => .nil
  | .num lo _ :: r => .cons (.str _) (dp_si r)
  | .sgn z :: r => .cons (.str _) (dp_si r)
  | .pl k :: r => .cons (.int _) (dp_si r)
theorem shp_si {s : SI} (h : siOk s) : Shp 0 (siD s) := by
  match s, h with
  | .num lo hi, h => exact shp_str (by show PyData.strOk (if lo = 0 then "0 to 24" else "1 to 100") = true; split <;> decide +kernel)
  | .sgn z, h =>
    refine shp_str ?_
    have h : z ∈ (["(", ")", "then"] : List Str) := h
    simp only [List.mem_cons, List.not_mem_nil, or_false] at h
    rcases h with rfl | rfl | rfl <;> decide +kernel
  | .pl r, h => exact shp_int
theorem eqv_nil (ds : List PyData) : PyData.eqv (.list ds) (.list []) = decide (ds = []) := by
  cases ds with
  | nil => rfl
  | cons d ds => rfl
def sp__law_opens (K : PySem.W.Frag) (mg : Str → Option Value) : Sp := fun vs H Q _ => match vs with | [.str w, .int d] => ∃ r : Nat, d = 3 - (r : Int) ∧ r ≤ 3 ∧ (match opensS w r with | none => ∀ H', Same H H' → Q .non H' | some more => ∀ l H', Same H H' → H' l = some (.lst (more.reverse.map siV)) → Q (.ref l) H') | _ => False
theorem q__law_opens {H : Hp} {Q : VK} {E : XK} {w : Str} {d : Int} (q : ∃ r : Nat, d = 3 - (r : Int) ∧ r ≤ 3 ∧ (match opensS w r with | none => ∀ H', Same H H' → Q .non H' | some more => ∀ l H', Same H H' → H' l = some (.lst (more.reverse.map siV)) → Q (.ref l) H')) : sp__law_opens K mg [.str w, .int d] H Q E := q
local macro_rules | `(tactic| walk_at "op") => `(tactic| with_reducible refine q__law_opens ?_)
theorem c__law_opens (T : Txt K mg) : Cal P w K mg base 1 "_law_opens" (sp__law_opens K mg) := by
  refine T.d__law_opens.cal (k := 0) sc__law_opens (by intro vs H Q E h; unfold sp__law_opens at h; split at h <;> first | rfl | exact h.elim) fun f cdv A outer s H vs Q E hr h => ?_
  refine ⟨_, (pss_cons (ps_if (pt_cmpR op_inA (pv 0) (pe_tup (pa_cons pe_str (pa_cons pe_str (pa_cons pe_str pa_nil)))) (by rfl))
    (pss_one (ps_ret (pe_lst (pa_cons pe_str pa_nil))))
    pss_nil)
    (pss_cons (ps_if (pt_cmpR (op_eqA hr) (pv 0) pe_str (nomark _))
    (pss_one (ps_ret (pe_lst (pa_cons pe_str pa_nil))))
    pss_nil)
    (pss_cons (ps_if (PW.pt (pw_and (pt_cmpR op_ltA (pv 1) pe_int (nomark _)) (pw_and1 (pt_cmpR (op_eqA hr) (pv 0) pe_str (nomark _)))))
    (pss_one (ps_ret (pe_lst (pa_cons pe_str (pa_cons (pe_op op_addA (pv 1) pe_int) (pa_cons pe_str pa_nil))))))
    pss_nil)
    (pss_cons (ps_if (PW.pt (pw_and (pt_cmpR op_ltA (pv 1) pe_int (nomark _)) (pw_and1 (pt_cmpR (op_eqA hr) (pv 0) pe_str (nomark _)))))
    (pss_one (ps_ret (pe_lst (pa_cons pe_str (pa_cons (pe_op op_addA (pv 1) pe_int) (pa_cons pe_str (pa_cons pe_str (pa_cons pe_str (pa_cons (pe_op op_addA (pv 1) pe_int) (pa_cons pe_str pa_nil))))))))))
    pss_nil)
    (pss_one (ps_ret pe_non)))))), ?_⟩
  try simp only [cxOf_K, cxOf_K', cxOf_mg, cxOf_mg']
  unfold sp__law_opens at h
  split at h
  case h_2 => exact h.elim
  rename_i w d
  rw [show L2.start ["_law_word", "_law_deep"] [V.str w, V.int d] = [some (V.str w), some (V.int d)] from rfl]
  obtain ⟨r, rfl, hr, q⟩ := h
  unfold opensS at q
  walk_at "sts"
  walk_at "nw"
  rename_i p1 hp1 H1 s1 e1
  refine L_inTs (ns := ["few", "loose", "duel"]) (.of e1) ?_
  walk_at "sts"
  refine L_d (fun c => ?_) (fun c => ?_)
  · rw [if_pos c] at q
    walk_at "sts"
    walk_at "nw"
    rename_i p2 hp2 H2 s2 e2
    exact q _ _ (s1.trans s2) e2
  rw [if_neg c] at q
  walk_at "sts"
  refine L_d (fun c2 => ?_) (fun c2 => ?_)
  · rw [if_pos c2] at q
    walk_at "sts"
    walk_at "nw"
    rename_i p2 hp2 H2 s2 e2
    exact q _ _ (s1.trans s2) e2
  rw [if_neg c2] at q
  walk_at "sts"
  refine L_d (fun c3 => ?_) (fun c3 => ?_)
  · walk_at "sts"
    refine L_d (fun c4 => ?_) (fun c4 => ?_)
    · rw [if_pos ⟨by omega, c4⟩] at q
      walk_at "sts"
      walk_at "nw"
      rename_i p2 hp2 H2 s2 e2
      refine q _ _ (s1.trans s2) (e2.trans ?_)
      show _ = some (HO.lst [V.str ")", V.int (3 - ((r - 1 : Nat) : Int)), V.str "("])
      rw [show (3 : Int) - ((r - 1 : Nat) : Int) = 3 - (r : Int) + 1 by omega]
    · rw [if_neg (fun z => c4 z.2)] at q
      walk_at "sts"
      refine L_dT c3 ?_
      walk_at "sts"
      refine L_d (fun c5 => ?_) (fun c5 => ?_)
      · rw [if_pos ⟨by omega, c5⟩] at q
        walk_at "sts"
        walk_at "nw"
        rename_i p2 hp2 H2 s2 e2
        refine q _ _ (s1.trans s2) (e2.trans ?_)
        show _ = some (HO.lst [V.str ")", V.int (3 - ((r - 1 : Nat) : Int)), V.str "(", V.str "then", V.str ")", V.int (3 - ((r - 1 : Nat) : Int)), V.str "("])
        rw [show (3 : Int) - ((r - 1 : Nat) : Int) = 3 - (r : Int) + 1 by omega]
      · rw [if_neg (fun z => c5 z.2)] at q
        walk_at "sts"
        exact q _ s1
  · rw [if_neg (fun z => absurd z.1 (by omega)), if_neg (fun z => absurd z.1 (by omega))] at q
    walk_at "sts"
    refine L_dF c3 ?_
    walk_at "sts"
    exact q _ s1
theorem inV_int (i : Int) : ∀ ns : List Str, inV (.int i) (ns.map V.str) = false
  | [] => rfl
  | z :: r => by
    have := inV_int i r
    simp only [List.map_cons, inV] at this ⊢
    first | exact this | (rw [this]; rfl) | simp_all
theorem L_inTsI {K : PySem.W.Frag} {H : Hp} {Q : VK} {p : Addr} {i : Int} {ns : List Str} (h : SqT K H p (ns.map V.str)) (q : Q (.bl false) H) : aIn K (.int i) (.ref p) H Q := .inr ⟨p, _, rfl, .inr h, rfl, flat_strs _, by rw [if_neg (by decide), inV_int]; exact q⟩
/-- the numbers that may stand there, as texts -/
theorem num_mem {lo hi : Int} {z : Str} (h : (lo = 0 ∧ hi = 24) ∨ (lo = 1 ∧ hi = 100)) : z ∈ ((List.range (hi - lo + 1).toNat).map fun i : Nat => (↑(toString (lo + (i : Int))) : Str)) ↔ (within lo hi (num z.cps.toList)).isSome = true := by
  have h0 : 0 ≤ lo := by omega
  have h1 : hi ≤ 100 := by omega
  constructor
  · intro hz
    obtain ⟨i, hi', rfl⟩ := List.mem_map.mp hz
    have := List.mem_range.mp hi'
    rw [(num_word (z := (↑(toString (lo + (i : Int))) : Str)) h0 h1).mpr ⟨by omega, by omega, rfl⟩]
    rfl
  · intro hz
    obtain ⟨n, hn⟩ := Option.isSome_iff_exists.mp hz
    obtain ⟨g1, g2, rfl⟩ := (num_word h0 h1).mp hn
    exact List.mem_map.mpr ⟨(n - lo).toNat, List.mem_range.mpr (by omega), by rw [show lo + (((n - lo).toNat : Nat) : Int) = n by omega]⟩
def optN : Option Nat → V
  | none => .non
  | some n => .int (n : Int)
def sp__law_wrong (K : PySem.W.Frag) (mg : Str → Option Value) : Sp := fun vs H Q _ => match vs with | [.ref a] => ∃ ws : List Str, SqL K H a (ws.map V.str) ∧ ws.length ≤ 2000 ∧ ∀ H', Same H H' → Q (optN (runS [.pl 3] ws 0)) H' | _ => False
theorem q__law_wrong {H : Hp} {Q : VK} {E : XK} {a : Addr} (q : ∃ ws : List Str, SqL K H a (ws.map V.str) ∧ ws.length ≤ 2000 ∧ ∀ H', Same H H' → Q (optN (runS [.pl 3] ws 0)) H') : sp__law_wrong K mg [.ref a] H Q E := q
local macro_rules | `(tactic| walk_at "op") => `(tactic| with_reducible refine q__law_wrong ?_)
theorem c__law_wrong (T : Txt K mg) : Cal P w K mg base 2 "_law_wrong" (sp__law_wrong K mg) := by
  refine T.d__law_wrong.cal (k := 1) sc__law_wrong (by intro vs H Q E h; unfold sp__law_wrong at h; split at h <;> first | rfl | exact h.elim) fun f cdv A outer s H vs Q E hr h => ?_
  refine ⟨_, (pss_cons (ps_set (i := 1) sc__law_wrong.nd rfl (.inl rfl) (pe_lst (pa_cons pe_int pa_nil)))
    (pss_cons (ps_for PassesOwn.never rfl (pi_enum (by rfl) T.n_enumerate (pa_cons (pv 0) pa_nil)) (pg_tup rfl (pgs_cons (pg_name (i := 2) sc__law_wrong.nd rfl (.inl rfl)) (pgs_cons (pg_name (i := 3) sc__law_wrong.nd rfl (.inl rfl)) pgs_nil)))
    (pss_cons (ps_if (pt_cmpR (op_eqA hr) (pv 1) (pe_lst pa_nil) (nomark _))
    (pss_one (ps_ret (pv 2)))
    pss_nil)
    (pss_cons (ps_set (i := 4) sc__law_wrong.nd rfl (.inl rfl) (pe_bm0 PySem.F.plainAttrs_list PySem.F.slot_list_pop PySem.F.type_list_pop mt_pop (pv 1)))
    (pss_one (ps_if (pt_cmpR op_inA (pv 4) (pe_tup (pa_cons pe_str (pa_cons pe_str pa_nil))) (by rfl))
    (pss_one (ps_if (pt_cmpR op_notInA (pv 3) (pe_lc (own := [("_law_number", 6)]) (g := (gName 6)) (tt := tYes) (te := (tCB aStr1 (tCons (tVar 6) tNil))) rfl sc__law_wrong.nd (pi_range2 (by rfl) T.n_range (pa_cons (pe_callTy call_int1A (by rfl) T.n_int (by decide +kernel) (pa_cons (pe_cmpR (op_eqA hr) (pv 4) pe_str (nomark _)) pa_nil)) (pa_cons (pe_ix ix_seq (pe_lst (pa_cons pe_int (pa_cons pe_int pa_nil))) (pe_callTy call_int1A (by rfl) T.n_int (by decide +kernel) (pa_cons (pe_cmpR (op_eqA hr) (pv 4) pe_str (nomark _)) pa_nil)) (fun _ _ => rfl)) pa_nil))) (blkOk_by (N := ["_law_words_here", "_law_stack", "_law_place", "_law_word", "_law_due", "_law_more", "_law_number"]) (sc := defScope s__law_wrong) (by decide +kernel)) (fun _ _ _ _ _ => by exact (pg_name (i := 6) sc__law_wrong.nd rfl (.inl rfl))) (fun _ _ _ _ _ => pts_nil) (fun _ _ _ _ _ => by exact (pe_callTy call_str1A (by rfl) T.n_str (by decide +kernel) (pa_cons (pv 6) pa_nil)))) (by rfl))
    (pss_one (ps_ret (pv 2)))
    pss_nil))
    (pss_one (ps_if (pt_val (pe_callB call_isi (by rfl) T.n_isinstance (by decide +kernel) (pa_cons (pv 4) (pa_cons (pe_ty "str" (by rfl) T.n_str (by decide +kernel)) pa_nil))))
    (pss_one (ps_if (pt_cmpR (op_neA hr) (pv 3) (pv 4) (nomark _))
    (pss_one (ps_ret (pv 2)))
    pss_nil))
    (pss_cons (ps_set (i := 5) sc__law_wrong.nd rfl (.inl rfl) (pe_c (c__law_opens T) hr (by decide) (by rfl) (pa_cons (pv 3) (pa_cons (pv 4) pa_nil))))
    (pss_cons (ps_if (pt_cmpR op_isNA (pv 5) pe_non (nomark _))
    (pss_one (ps_ret (pv 2)))
    pss_nil)
    (pss_one (ps_expr (pe_bm PySem.F.plainAttrs_list PySem.F.slot_list_extend PySem.F.type_list_extend mt_extend (pv 1) (pa_cons (pv 5) pa_nil)))))))))))))
    (pss_cons (ps_if (pt_cmpR (op_neA hr) (pv 1) (pe_lst pa_nil) (nomark _))
    (pss_one (ps_ret (pe_callB call_lenA (by rfl) T.n_len (by decide +kernel) (pa_cons (pv 0) pa_nil))))
    pss_nil)
    (pss_one (ps_ret pe_non))))), ?_⟩
  try simp only [cxOf_K, cxOf_K', cxOf_mg, cxOf_mg']
  unfold sp__law_wrong at h
  split at h
  case h_2 => exact h.elim
  rename_i a
  rw [show L2.start ["_law_words_here", "_law_stack", "_law_place", "_law_word", "_law_due", "_law_more", "_law_number"] [V.ref a] = [some (V.ref a), none, none, none, none, none, none] from rfl]
  obtain ⟨ws, ha, hl, q⟩ := h
  walk_at "sts"
  walk_at "nw"
  rename_i p1 hp1 H1 s1 e1
  walk_at "sts"
  refine L_re (s1.seq ha) ?_
  refine f_it walk_enum (fun i σ' H' => ∃ (v2 v3 v4 v5 v6 : Option V) (st : List SI), σ' = [some (.ref a), some (.ref p1), v2, v3, v4, v5, v6] ∧ Same H H' ∧ H' p1 = some (.lst (st.reverse.map siV)) ∧ (∀ s ∈ st, siOk s) ∧ st.length ≤ 1 + 7 * i ∧ runS [.pl 3] ws 0 = runS st (ws.drop i) i) ⟨_, _, _, _, _, [.pl 3], rfl, s1, e1, by intro s hs; rw [List.mem_singleton.mp hs]; exact Nat.le_refl 3, by decide, by rw [List.drop_zero]⟩ (fun _ _ _ _ ⟨_, _, _, _, _, _, _, s, _⟩ => s.seq ha) ?_ ?_
  · rintro i x σ' H2 H2' hi ⟨v2, v3, v4, v5, v6, st, rfl, s2, e2, hst, hsl, hr⟩ ⟨T1, k0, t0, rfl, hTn, rfl, hk0, hx⟩
    cases hk0
    replace hx : (ws.map V.str)[i]? = some t0 := hx
    rw [List.getElem?_map] at hx
    obtain ⟨w, hw, rfl⟩ := Option.map_eq_some_iff.mp hx
    rw [List.length_map] at hi
    refine L_gTup (.of upd_same) rfl ?_
    have s3 := same_new (o := HO.tup [V.int (i : Int), V.str w]) hTn
    generalize upd H2 T1 (HO.tup [V.int (i : Int), V.str w]) = H3 at s3
    rw [drop_at hw] at hr
    walk_at "sts"
    walk_at "nw"
    rename_i p4 hp4 H4 s4 e4
    refine L_eqD (d := .list (st.reverse.map siD)) (e := .list []) (.lst (.of (s4 _ _ (s3 _ _ e2))) (dp_si _)) (.lst (.of e4) .nil) (shp_lst (n := 0) (shp_map fun s hs => shp_si (hst s (List.mem_reverse.mp hs)))).ok (shp_lst (n := 0) shp_nil).ok ?_
    rw [eqv_nil]
    walk_at "sts"
    refine L_d (fun c => ?_) (fun c => ?_)
    · have : st = [] := by simpa using c
      subst this
      walk_at "sts"
      have z := q _ (s2.trans (s3.trans s4))
      rw [hr] at z
      exact z
    have s24 := s2.trans (s3.trans s4)
    cases st with
    | nil => exact absurd rfl c
    | cons d st =>
    rw [runS] at hr
    have e24 := s4 _ _ (s3 _ _ e2)
    rw [List.reverse_cons, List.map_append] at e24
    have n1 : p1 ≠ p4 := fun z => by
      have := s3 _ _ e2
      rw [z, hp4] at this
      cases this
    walk_at "sts"
    refine L_tyL (.of e24) ?_
    refine ⟨p1, _, siV d, rfl, rfl, e24, by simp, ?_⟩
    rw [show ((List.map siV st.reverse) ++ List.map siV [d]).dropLast = List.map siV st.reverse from by simp]
    have e5 : upd H4 p1 (HO.lst (List.map siV st.reverse)) p1 = _ := upd_same
    have n24 : H p1 = none := hp1
    have s5 : Same H (upd H4 p1 (HO.lst (List.map siV st.reverse))) := same_mut' n24 s24
    generalize upd H4 p1 (HO.lst (List.map siV st.reverse)) = H5 at e5 s5
    have hd := hst d (List.mem_cons_self ..)
    have hst' : ∀ s ∈ st, siOk s := fun s hs => hst s (List.mem_cons_of_mem _ hs)
    rw [List.length_cons] at hsl
    clear e24 e2 hst c
    walk_at "sts"
    walk_at "nw"
    rename_i p6 hp6 H6 s6 e6
    match d, hd with
    | .num lo hi, hd =>
      have key := num_mem (z := w) hd
      rcases hd with ⟨rfl, rfl⟩ | ⟨rfl, rfl⟩
      · rw [show siV (SI.num 0 24) = .str "0 to 24" from rfl]
        refine L_inTs (ns := ["0 to 24", "1 to 100"]) (.of e6) ?_
        walk_at "sts"
        refine L_dT (by decide) ?_
        walk_at "sts"
        rw [show (if decide (("0 to 24" : Str) = "1 to 100") = true then (1 : Int) else 0) = 0 from rfl]
        walk_at "nw"
        rename_i p7 hp7 H7 s7 e7
        walk_at "sts"
        rw [show (if decide (("0 to 24" : Str) = "1 to 100") = true then (1 : Int) else 0) = 0 from rfl]
        refine L_ixL (.of e7) (v := .int 25) (by with_unfolding_all rfl) ?_
        walk_at "sts"
        refine L_r2 (by omega) ?_
        have s67 := s6.trans s7
        refine lc_fm walk_range (fun i => some (V.str ((fun i : Nat => (↑(toString ((0 : Int) + (i : Int))) : Str)) i))) (by omega) (fun _ _ => True.intro) ?_ ?_
        · rintro i x1 Ha Hb R R' hi sm ⟨rfl, rfl⟩ q1 q2
          walk_at "sts"
          refine ⟨rfl, ?_⟩
          walk_at "sts"
          refine L_str1 (by omega) ?_
          exact q1 _ _ rfl (.refl _)
        intro p8 H8 hp8 s8 e8
        rw [fm_map] at e8
        refine L_notInSs (.of e8) ?_
        have s58 := s5.trans (s67.trans s8)
        walk_at "sts"
        refine L_nd (fun c => ?_) (fun c => ?_)
        · have c' : (within 0 24 (num w.cps.toList)).isSome = false := by
            cases z : (within 0 24 (num w.cps.toList)).isSome with
            | false => rfl
            | true => exact absurd (key.mpr z) c
          rw [show stepS (.num 0 24) w = if (within 0 24 (num w.cps.toList)).isSome then some [] else none from rfl, c'] at hr
          walk_at "sts"
          have z := q _ s58
          rw [hr] at z
          exact z
        · rw [show stepS (.num 0 24) w = if (within 0 24 (num w.cps.toList)).isSome then some [] else none from rfl, if_pos (key.mp c)] at hr
          walk_at "sts"
          exact ⟨_, _, _, _, _, st, rfl, s58, (s67.trans s8) _ _ e5, hst', by omega, hr⟩
      · rw [show siV (SI.num 1 100) = .str "1 to 100" from rfl]
        refine L_inTs (ns := ["0 to 24", "1 to 100"]) (.of e6) ?_
        walk_at "sts"
        refine L_dT (by decide) ?_
        walk_at "sts"
        rw [show (if decide (("1 to 100" : Str) = "1 to 100") = true then (1 : Int) else 0) = 1 from rfl]
        walk_at "nw"
        rename_i p7 hp7 H7 s7 e7
        walk_at "sts"
        rw [show (if decide (("1 to 100" : Str) = "1 to 100") = true then (1 : Int) else 0) = 1 from rfl]
        refine L_ixL (.of e7) (v := .int 101) (by with_unfolding_all rfl) ?_
        walk_at "sts"
        refine L_r2 (by omega) ?_
        have s67 := s6.trans s7
        refine lc_fm walk_range (fun i => some (V.str ((fun i : Nat => (↑(toString ((1 : Int) + (i : Int))) : Str)) i))) (by omega) (fun _ _ => True.intro) ?_ ?_
        · rintro i x1 Ha Hb R R' hi sm ⟨rfl, rfl⟩ q1 q2
          walk_at "sts"
          refine ⟨rfl, ?_⟩
          walk_at "sts"
          refine L_str1 (by omega) ?_
          exact q1 _ _ rfl (.refl _)
        intro p8 H8 hp8 s8 e8
        rw [fm_map] at e8
        refine L_notInSs (.of e8) ?_
        have s58 := s5.trans (s67.trans s8)
        walk_at "sts"
        refine L_nd (fun c => ?_) (fun c => ?_)
        · have c' : (within 1 100 (num w.cps.toList)).isSome = false := by
            cases z : (within 1 100 (num w.cps.toList)).isSome with
            | false => rfl
            | true => exact absurd (key.mpr z) c
          rw [show stepS (.num 1 100) w = if (within 1 100 (num w.cps.toList)).isSome then some [] else none from rfl, c'] at hr
          walk_at "sts"
          have z := q _ s58
          rw [hr] at z
          exact z
        · rw [show stepS (.num 1 100) w = if (within 1 100 (num w.cps.toList)).isSome then some [] else none from rfl, if_pos (key.mp c)] at hr
          walk_at "sts"
          exact ⟨_, _, _, _, _, st, rfl, s58, (s67.trans s8) _ _ e5, hst', by omega, hr⟩
    | .sgn z, hd =>
      rw [show siV (SI.sgn z) = .str z from rfl]
      refine L_inTs (ns := ["0 to 24", "1 to 100"]) (.of e6) ?_
      have hd' : z ∈ (["(", ")", "then"] : List Str) := hd
      have hz : ¬ z ∈ (["0 to 24", "1 to 100"] : List Str) := by
        simp only [List.mem_cons, List.not_mem_nil, or_false] at hd'
        rcases hd' with rfl | rfl | rfl <;> decide
      walk_at "sts"
      refine L_dF hz ?_
      walk_at "sts"
      refine L_isi (.base (.str _)) (b := true) (by decide +kernel) ?_
      walk_at "sts"
      rw [show stepS (.sgn z) w = if w = z then some [] else none from rfl] at hr
      refine L_nd (fun c => ?_) (fun c => ?_)
      · rw [if_neg c] at hr
        walk_at "sts"
        have z := q _ (s5.trans s6)
        rw [hr] at z
        exact z
      · rw [if_pos c] at hr
        walk_at "sts"
        exact ⟨_, _, _, _, _, st, rfl, s5.trans s6, s6 _ _ e5, hst', by omega, hr⟩
    | .pl r, hd =>
      rw [show siV (SI.pl r) = .int (3 - (r : Int)) from rfl]
      refine L_inTsI (ns := ["0 to 24", "1 to 100"]) (.of e6) ?_
      walk_at "sts"
      refine L_isi (.base (.int _)) (b := false) (by decide +kernel) ?_
      walk_at "sts"
      have hd' : r ≤ 3 := hd
      refine ⟨r, rfl, hd', ?_⟩
      rw [show stepS (.pl r) w = opensS w r from rfl] at hr
      cases ho : opensS w r with
      | none =>
        rw [ho] at hr
        intro H7 s7
        walk_at "sts"
        refine L_dT rfl ?_
        walk_at "sts"
        have z := q _ (s5.trans (s6.trans s7))
        rw [hr] at z
        exact z
      | some more =>
        rw [ho] at hr
        obtain ⟨hm, hml⟩ := opens_ok hd' ho
        intro l H7 s7 e7
        walk_at "sts"
        refine L_dF (fun z => nomatch z) ?_
        walk_at "sts"
        have e57 := s7 _ _ (s6 _ _ e5)
        have e8 : upd H7 p1 (HO.lst (List.map siV st.reverse ++ List.map siV more.reverse)) p1 = _ := upd_same
        have s8 : Same H (upd H7 p1 (HO.lst (List.map siV st.reverse ++ List.map siV more.reverse))) := same_mut' hp1 (s5.trans (s6.trans s7))
        refine L_tyL (.of e57) ?_
        walk_at "sts"
        refine ⟨p1, l, _, _, rfl, rfl, e57, e7, sz_dec (by simp; omega), ?_⟩
        refine ⟨_, _, _, _, _, more ++ st, rfl, s8, ?_, fun s hs => (List.mem_append.mp hs).elim (hm s) (hst' s), by rw [List.length_append]; omega, hr⟩
        rw [e8, List.reverse_append, List.map_append]
  · rintro σ' H2 ⟨v2, v3, v4, v5, v6, st, rfl, s2, e2, hst, hsl, hr⟩
    rw [List.length_map, List.drop_length] at hr
    walk_at "sts"
    walk_at "nw"
    rename_i p4 hp4 H4 s4 e4
    refine L_neD (d := .list (st.reverse.map siD)) (e := .list []) (.lst (.of (s4 _ _ e2)) (dp_si _)) (.lst (.of e4) .nil) (shp_lst (n := 0) (shp_map fun s hs => shp_si (hst s (List.mem_reverse.mp hs)))).ok (shp_lst (n := 0) shp_nil).ok ?_
    rw [eqv_nil]
    walk_at "sts"
    refine L_nd (fun c => ?_) (fun c => ?_)
    · walk_at "sts"
      refine L_lenL ((s2.trans s4).seq ha) ?_
      have z := q _ (s2.trans s4)
      cases st with
      | nil => exact absurd rfl c
      | cons d st => rw [hr] at z; rw [List.length_map]; exact z
    · have : st = [] := by simpa using c
      subst this
      walk_at "sts"
      have z := q _ (s2.trans s4)
      rw [hr] at z
      exact z
/-- what is told of a text -/
def toldV (z : Str) : V := match rdP z with | .inl k => .int ((k : Nat) : Int) | .inr p => .str p.text
def sp__law_told (K : PySem.W.Frag) (mg : Str → Option Value) : Sp := fun vs H Q _ => match vs with | [v] => (NotS K H v ∧ ∀ H', Same H H' → Q (.int 0) H') ∨ ∃ z : Str, v = .str z ∧ z.length ≤ 1000 ∧ ∀ H', Same H H' → Q (toldV z) H' | _ => False
theorem q__law_told {H : Hp} {Q : VK} {E : XK} {v : V} (q : (NotS K H v ∧ ∀ H', Same H H' → Q (.int 0) H') ∨ ∃ z : Str, v = .str z ∧ z.length ≤ 1000 ∧ ∀ H', Same H H' → Q (toldV z) H') : sp__law_told K mg [v] H Q E := q
local macro_rules | `(tactic| walk_at "op") => `(tactic| with_reducible refine q__law_told ?_)
theorem c__law_told (T : Txt K mg) : Cal P w K mg base 16 "_law_told" (sp__law_told K mg) := by
  refine T.d__law_told.cal (k := 15) sc__law_told (by intro vs H Q E h; unfold sp__law_told at h; split at h <;> first | rfl | exact h.elim) fun f cdv A outer s H vs Q E hr h => ?_
  refine ⟨_, (pss_cons (ps_set (i := 1) sc__law_told.nd rfl (.inl rfl) pe_non)
    (pss_cons (ps_try_asT (i := 3) (tb := fun W => (tSeq (tAsg (tCallS (sp_plan_of K mg) (fun σ => WE W σ) (tCons (tVar 0) tNil)) (gName 2)) (tAsg (tOrE (tMeth (cA mg "Few") "text" (sp_Few_text K mg) [] E0 (tVar 2) tNil) (tOrE (tMeth (cA mg "Start") "text" (sp_Start_text K mg) [] E0 (tVar 2) tNil) (tOrE (tMeth (cA mg "Loose") "text" (sp_Loose_text K mg) [] E0 (tVar 2) tNil) (tOrE (tMeth (cA mg "Duel") "text" (sp_Duel_text K mg) [] E0 (tVar 2) tNil) (tOrE (tMeth (cA mg "Each") "text" (sp_Each_text K mg) [] E0 (tVar 2) tNil) (tMeth (cA mg "First") "text" (sp_First_text K mg) [] E0 (tVar 2) tNil)))))) (gName 1)))) (ts := fun xa xcls xd => (tSeq (tAsg (tC (.str "other")) (gName 1)) (tIfS (tAnd (tB (tCB (rIsS K xa xcls xd) (tCons (tVar 3) (tCons (tC (.ref (cA mg "NoPlan"))) tNil)))) (tNot (tB (tCB (rIsST K xa xcls xd) (tCons (tVar 3) (tCons (tTup (tCons (tC (.ref (cA mg "NoLevel"))) (tCons (tC (.ref (cA mg "NoListing"))) (tCons (tC (.ref (cA mg "NoThrow"))) (tCons (tC (.ref (cA mg "NoUnits"))) tNil))))) tNil)))))) (tAsg (tXf xa xcls xd (cA mg "NoPlan") "place" (tVar 3)) (gName 1)) tNext))) rfl rfl sc__law_told.nd rfl rfl rfl ⟨rfl, by decide, .inl T.m_SpeakError⟩ L2.takes0 (fun W pn xe tk po => by exact (pss_cons (ps_set (i := 2) sc__law_told.nd rfl (.inl rfl) (pe_xS (c_plan_of T) hr (by decide) (by rfl) (fun σ => passAt tk σ) (pa_cons (pv 0) pa_nil)))
    (pss_one (ps_set (i := 1) sc__law_told.nd rfl (.inl rfl) (PE.or (pe_mt0 (c_Few_text T) hr (by decide) (pv 2)) (PE.or (pe_mt0 (c_Start_text T) hr (by decide) (pv 2)) (PE.or (pe_mt0 (c_Loose_text T) hr (by decide) (pv 2)) (PE.or (pe_mt0 (c_Duel_text T) hr (by decide) (pv 2)) (PE.or (pe_mt0 (c_Each_text T) hr (by decide) (pv 2)) (pe_mt0 (c_First_text T) hr (by decide) (pv 2))))))))))) (fun a oe cls d pn hz hf => by exact (pss_cons (ps_set (i := 1) sc__law_told.nd rfl (.inl rfl) pe_str)
    (pss_one (ps_if (PW.pt (pw_and (pt_val (pe_callB (call_isS hz hf) (by rfl) T.n_isinstance (by decide +kernel) (pa_cons (pv 3) (pa_cons (pe_glob (v := .ref (cA mg "NoPlan")) (by rfl) T.m_NoPlan rfl) pa_nil)))) (pw_and1 (pt_not (pt_val (pe_callB (call_isST hz hf) (by rfl) T.n_isinstance (by decide +kernel) (pa_cons (pv 3) (pa_cons (pe_tup (pa_cons (pe_glob (v := .ref (cA mg "NoLevel")) (by rfl) T.m_NoLevel rfl) (pa_cons (pe_glob (v := .ref (cA mg "NoListing")) (by rfl) T.m_NoListing rfl) (pa_cons (pe_glob (v := .ref (cA mg "NoThrow")) (by rfl) T.m_NoThrow rfl) (pa_cons (pe_glob (v := .ref (cA mg "NoUnits")) (by rfl) T.m_NoUnits rfl) pa_nil))))) pa_nil))))))))
    (pss_one (ps_set (i := 1) sc__law_told.nd rfl (.inl rfl) (pe_xf (ExcC.xf T.z_NoPlan) T.na_NoPlan_place hz hf (pv 3))))
    pss_nil)))))
    (pss_one (ps_ret (pv 1))))), ?_⟩
  try simp only [cxOf_K, cxOf_K', cxOf_mg, cxOf_mg']
  unfold sp__law_told at h
  split at h
  case h_2 => exact h.elim
  rename_i v
  rw [show L2.start ["_law_text", "_law_told_here", "_law_plan", "e"] [v] = [some (v), none, none, none] from rfl]
  have cont : ∀ {k : Int} {d : Addr} {H' : Hp} {W : Prop}, True := trivial
  rcases h with ⟨hn, q⟩ | ⟨z, rfl, hz, q⟩
  · walk_at "sts"
    refine .inl ⟨hn, fun d H' s e => ?_⟩
    refine L_asT (T.y_SpeakError.exm T.e_NoPlan_SpeakError) fun a2 na => ?_
    walk_at "sts"
    refine L_isS (fun dd z => ⟨_, by cases z; exact e⟩) T.z_NoPlan (.own _) (kit_ref T.e_NoPlan_NoPlan T.y_NoPlan T.e_NoPlan_NoPlan) ?_
    walk_at "sts"
    walk_at "nw"
    rename_i p2 hp2 H2 s2 e2
    walk_at "sts"
    refine L_isST (fun dd z => ⟨_, by cases z; exact s2 _ _ e⟩) T.z_NoPlan e2 (.cons (.own _) (.cons (.own _) (.cons (.own _) (.cons (.own _) .nil)))) (kit_none fun u hu => ?_) ?_
    · simp only [List.mem_cons, List.not_mem_nil, or_false] at hu
      rcases hu with rfl | rfl | rfl | rfl
      · exact kit_ref T.e_NoPlan_NoPlan T.y_NoLevel T.e_NoPlan_NoLevel
      · exact kit_ref T.e_NoPlan_NoPlan T.y_NoListing T.e_NoPlan_NoListing
      · exact kit_ref T.e_NoPlan_NoPlan T.y_NoThrow T.e_NoPlan_NoThrow
      · exact kit_ref T.e_NoPlan_NoPlan T.y_NoUnits T.e_NoPlan_NoUnits
    walk_at "sts"
    refine L_xf ?_
    walk_at "sts"
    refine ⟨rfl, rfl, d, _, _, rfl, s2 _ _ e, rfl, ?_⟩
    walk_at "sts"
    intro na1
    walk_at "sts"
    exact q _ (s.trans (s2.trans (same_new na1)))
  walk_at "sts"
  refine .inr ⟨z, rfl, hz, ?_⟩
  unfold toldV at q
  cases hr : rdP z with
  | inl k =>
    rw [hr] at q
    intro d H' s e
    refine L_asT (T.y_SpeakError.exm T.e_NoPlan_SpeakError) fun a2 na => ?_
    walk_at "sts"
    refine L_isS (fun dd z => ⟨_, by cases z; exact e⟩) T.z_NoPlan (.own _) (kit_ref T.e_NoPlan_NoPlan T.y_NoPlan T.e_NoPlan_NoPlan) ?_
    walk_at "sts"
    walk_at "nw"
    rename_i p2 hp2 H2 s2 e2
    walk_at "sts"
    refine L_isST (fun dd z => ⟨_, by cases z; exact s2 _ _ e⟩) T.z_NoPlan e2 (.cons (.own _) (.cons (.own _) (.cons (.own _) (.cons (.own _) .nil)))) (kit_none fun u hu => ?_) ?_
    · simp only [List.mem_cons, List.not_mem_nil, or_false] at hu
      rcases hu with rfl | rfl | rfl | rfl
      · exact kit_ref T.e_NoPlan_NoPlan T.y_NoLevel T.e_NoPlan_NoLevel
      · exact kit_ref T.e_NoPlan_NoPlan T.y_NoListing T.e_NoPlan_NoListing
      · exact kit_ref T.e_NoPlan_NoPlan T.y_NoThrow T.e_NoPlan_NoThrow
      · exact kit_ref T.e_NoPlan_NoPlan T.y_NoUnits T.e_NoPlan_NoUnits
    walk_at "sts"
    refine L_xf ?_
    walk_at "sts"
    refine ⟨rfl, rfl, d, _, _, rfl, s2 _ _ e, rfl, ?_⟩
    walk_at "sts"
    intro na1
    walk_at "sts"
    exact q _ (s.trans (s2.trans (same_new na1)))
  | inr p =>
    rw [hr] at q
    obtain ⟨ht, hok, hd⟩ := rdP_text hr
    intro H' y s hy
    replace hy := hy.any
    walk_at "sts"
    refine L_via (P := tOrE _ _ _ _) (fun v H2 => v = .str p.text ∧ H2 = H') (fun Q q => ?_) ?_
    ·
      cases p with
      | few m =>
        refine L_orl ?_
        walk_at "sts"
        obtain ⟨_, dz, hz⟩ := id hy
        refine L_methv hz (by with_unfolding_all rfl) ?_
        walk_at "sts"
        exact ⟨m, hy, hok, q _ _ ⟨rfl, rfl⟩⟩
      | sta m =>
        refine L_orr ?_
        refine L_orl ?_
        walk_at "sts"
        obtain ⟨_, dz, hz⟩ := id hy
        refine L_methv hz (by with_unfolding_all rfl) ?_
        walk_at "sts"
        exact ⟨m, hy, hok, q _ _ ⟨rfl, rfl⟩⟩
      | loo m =>
        refine L_orr ?_
        refine L_orr ?_
        refine L_orl ?_
        walk_at "sts"
        obtain ⟨_, dz, hz⟩ := id hy
        refine L_methv hz (by with_unfolding_all rfl) ?_
        walk_at "sts"
        exact ⟨m, hy, hok, q _ _ ⟨rfl, rfl⟩⟩
      | due m =>
        refine L_orr ?_
        refine L_orr ?_
        refine L_orr ?_
        refine L_orl ?_
        walk_at "sts"
        obtain ⟨_, dz, hz⟩ := id hy
        refine L_methv hz (by with_unfolding_all rfl) ?_
        walk_at "sts"
        exact ⟨m, hy, hok, q _ _ ⟨rfl, rfl⟩⟩
      | each p1 =>
        refine L_orr ?_
        refine L_orr ?_
        refine L_orr ?_
        refine L_orr ?_
        refine L_orl ?_
        walk_at "sts"
        obtain ⟨_, dz, z1, hz, hz1⟩ := id hy
        refine L_methv hz (by with_unfolding_all rfl) ?_
        walk_at "sts"
        exact ⟨p1, hy, hok, (show p1.dep + 1 ≤ 4 from by have := hd; simp only [PT.dep] at this; omega), by decide, q _ _ ⟨rfl, rfl⟩⟩
      | first p1 p2 =>
        refine L_orr ?_
        refine L_orr ?_
        refine L_orr ?_
        refine L_orr ?_
        refine L_orr ?_
        walk_at "sts"
        obtain ⟨_, dz, z1, z2, hz, hz1, hz2⟩ := id hy
        refine L_methv hz (by with_unfolding_all rfl) ?_
        walk_at "sts"
        exact ⟨p1, p2, hy, hok, (show max p1.dep p2.dep + 1 ≤ 4 from by have := hd; simp only [PT.dep] at this; omega), by decide, q _ _ ⟨rfl, rfl⟩⟩
    rintro v H2 ⟨rfl, rfl⟩
    walk_at "sts"
    exact q _ s
def sp__law_right (K : PySem.W.Frag) (mg : Str → Option Value) : Sp := fun vs H Q _ => match vs with | [.ref a] => ∃ ws : List Str, SqL K H a (ws.map V.str) ∧ ((ws.map (·.length)).sum + ws.length ≤ 1000) ∧ ∀ H', Same H H' → Q (.bl true) H' | _ => False
theorem q__law_right {H : Hp} {Q : VK} {E : XK} {a : Addr} (q : ∃ ws : List Str, SqL K H a (ws.map V.str) ∧ ((ws.map (·.length)).sum + ws.length ≤ 1000) ∧ ∀ H', Same H H' → Q (.bl true) H') : sp__law_right K mg [.ref a] H Q E := q
local macro_rules | `(tactic| walk_at "op") => `(tactic| with_reducible refine q__law_right ?_)
theorem c__law_right (T : Txt K mg) : Cal P w K mg base 17 "_law_right" (sp__law_right K mg) := by
  refine T.d__law_right.cal (k := 16) sc__law_right (by intro vs H Q E h; unfold sp__law_right at h; split at h <;> first | rfl | exact h.elim) fun f cdv A outer s H vs Q E hr h => ?_
  refine ⟨_, (pss_cons (ps_set (i := 1) sc__law_right.nd rfl (.inl rfl) (pe_bm PySem.F.plainAttrs_str PySem.F.slot_str_join PySem.F.type_str_join mt_join pe_str (pa_cons (pv 0) pa_nil)))
    (pss_cons (ps_set (i := 2) sc__law_right.nd rfl (.inl rfl) (pe_c (c__law_wrong T) hr (by decide) (by rfl) (pa_cons (pe_bm PySem.F.plainAttrs_str PySem.F.slot_str_split PySem.F.type_str_split mt_split (pv 1) (pa_cons pe_str pa_nil)) pa_nil)))
    (pss_cons (ps_set (i := 3) sc__law_right.nd rfl (.inl rfl) (pe_c (c__law_told T) hr (by decide) (by rfl) (pa_cons (pv 1) pa_nil)))
    (pss_cons (ps_if (pt_cmpR op_isNA (pv 2) pe_non (nomark _))
    (pss_one (ps_ret (pe_and (pe_callB call_isi (by rfl) T.n_isinstance (by decide +kernel) (pa_cons (pv 3) (pa_cons (pe_ty "str" (by rfl) T.n_str (by decide +kernel)) pa_nil))) (pe_one (pe_cmpR (op_eqA hr) (pv 3) (pv 1) (nomark _))))))
    pss_nil)
    (pss_one (ps_ret (pe_c (c__law_whole T) hr (by decide) (by rfl) (pa_cons (pv 3) (pa_cons (pv 2) pa_nil))))))))), ?_⟩
  try simp only [cxOf_K, cxOf_K', cxOf_mg, cxOf_mg']
  unfold sp__law_right at h
  split at h
  case h_2 => exact h.elim
  rename_i a
  rw [show L2.start ["_law_words_here", "_law_text", "_law_due", "_law_told_here"] [V.ref a] = [some (V.ref a), none, none, none] from rfl]
  obtain ⟨ws, ha, hl, q⟩ := h
  walk_at "sts"
  refine L_tyS ?_
  walk_at "sts"
  refine ⟨" ", a, ws, rfl, rfl, .inl ha, ?_, ?_⟩
  · rw [show (" " : Str).length = 1 from rfl]
    exact sz_dec (by omega)
  have hz : (Txt.join " " ws).length ≤ 1000 := by
    have := joinL_len [32] (ws.map fun z => z.cps.toList)
    have e : (Txt.join " " ws).length = (TL.joinL [32] (ws.map fun z => z.cps.toList)).length := by
      rw [show (" " : Str) = ⟨#[32]⟩ from rfl, join_is, SX.S_len]
    rw [e]
    rw [List.map_map, List.length_map, show ((fun l : List Nat => l.length) ∘ fun z : Str => z.cps.toList) = (fun z : Str => z.length) from funext fun z => str_len] at this
    simp only [List.length_singleton, Nat.mul_one] at this
    omega
  generalize Txt.join " " ws = z at hz
  walk_at "sts"
  refine L_tyS ?_
  walk_at "sts"
  refine ⟨z, " ", rfl, rfl, rfl, sz_dec (by omega), ?_⟩
  rw [show (" " : Str) = ⟨#[32]⟩ from rfl, split_is (by decide)]
  walk_at "nwp"
  rename_i p1 hp1 H1 s1 e1
  refine ⟨cutAt 32 z, .of e1, by have := cutAt_many 32 z; omega, fun H2 s2 => ?_⟩
  walk_at "sts"
  refine .inr ⟨z, rfl, hz, fun H3 s3 => ?_⟩
  have s13 := s1.trans (s2.trans s3)
  rw [run_rdP, toldV]
  cases hr : rdP z with
  | inl k =>
    walk_at "sts"
    refine L_dF (fun z => nomatch z) ?_
    walk_at "sts"
    refine .inl ⟨_, rfl, ?_⟩
    rw [decide_eq_true rfl]
    exact q _ s13
  | inr p =>
    walk_at "sts"
    refine L_dT rfl ?_
    walk_at "sts"
    refine L_isi (.base (.str _)) (b := true) (by decide +kernel) ?_
    walk_at "sts"
    rw [(rdP_text hr).1, decide_eq_true rfl]
    exact q _ s13
theorem num_short {m : Int} (h0 : 0 ≤ m) (h1 : m ≤ 100) : (↑(toString m) : Str).length ≤ 6 := by
  have := str_short m h0 h1
  omega
theorem ptW_short : ∀ (p : PT), p.ok → ∀ z ∈ ptW p, z.length ≤ 6 := by
  intro p
  induction p with
  | few m => intro ok z hz; simp only [ptW, List.mem_cons, List.not_mem_nil, or_false] at hz; rcases hz with rfl | rfl; decide; exact num_short ok.1 (by have := ok.2; omega)
  | sta m => intro ok z hz; simp only [ptW, List.mem_cons, List.not_mem_nil, or_false] at hz; rcases hz with rfl | rfl; decide; exact num_short (by have := ok.1; omega) ok.2
  | loo m => intro ok z hz; simp only [ptW, List.mem_cons, List.not_mem_nil, or_false] at hz; rcases hz with rfl | rfl; decide; exact num_short ok.1 (by have := ok.2; omega)
  | due m => intro ok z hz; simp only [ptW, List.mem_cons, List.not_mem_nil, or_false] at hz; rcases hz with rfl | rfl; decide; exact num_short ok.1 (by have := ok.2; omega)
  | each p ih =>
    intro ok z hz
    simp only [ptW, List.mem_append, List.mem_cons, List.not_mem_nil, or_false] at hz
    rcases hz with ((rfl | rfl) | hz) | rfl
    · decide
    · decide
    · exact ih ok z hz
    · decide
  | first o i ih1 ih2 =>
    intro ok z hz
    simp only [ptW, List.mem_append, List.mem_cons, List.not_mem_nil, or_false] at hz
    rcases hz with (((((rfl | rfl) | hz) | (rfl | rfl | rfl)) | hz)) | rfl
    · decide
    · decide
    · exact ih1 ok.1 z hz
    · decide
    · decide
    · decide
    · exact ih2 ok.2 z hz
    · decide
theorem sum_len {n : Nat} : ∀ ws : List Str, (∀ z ∈ ws, z.length ≤ n) → (ws.map (·.length)).sum ≤ n * ws.length
  | [], _ => by simp
  | z :: r, h => by
    have h1 := h z (List.mem_cons_self ..)
    have h2 := sum_len r fun y hy => h y (List.mem_cons_of_mem _ hy)
    rw [List.map_cons, List.sum_cons, List.length_cons, Nat.mul_succ]
    omega
theorem text_join (p : PT) : Txt.join " " (ptW p) = p.text := by
  rw [show (" " : Str) = ⟨#[32]⟩ from rfl, join_is, ← text_list, SX.S_tl]
def sp_law (K : PySem.W.Frag) (mg : Str → Option Value) : Sp := fun vs H Q _ => match vs with | [.ref a] => ∃ ns : List Int, SqL K H a (ns.map V.int) ∧ ns.length ≤ 63 ∧ (∀ z ∈ ns, Builtin.Int.intBits z ≤ 1048576) ∧ ∀ H', Q (.bl true) H' | _ => False
theorem q_law {H : Hp} {Q : VK} {E : XK} {a : Addr} (q : ∃ ns : List Int, SqL K H a (ns.map V.int) ∧ ns.length ≤ 63 ∧ (∀ z ∈ ns, Builtin.Int.intBits z ≤ 1048576) ∧ ∀ H', Q (.bl true) H') : sp_law K mg [.ref a] H Q E := q
local macro_rules | `(tactic| walk_at "op") => `(tactic| with_reducible refine q_law ?_)
theorem c_law (T : Txt K mg) {f : Addr} {fd : FuncData} (F : Fun K "law" "law" s_law f fd) : FnOk P w K mg base CX0 18 f fd ["_law_script"] (sp_law K mg) := by
  refine F.ok (k := 17) sc_law (by intro vs H Q E h; unfold sp_law at h; split at h <;> first | rfl | exact h.elim) fun cdv A outer s H vs Q E hr h => ?_
  refine ⟨_, (pss_cons (ps_for PassesOwn.never rfl (pi_range1 (by rfl) T.n_range (pa_cons (pe_callB (call_max2A rfl) (by rfl) T.n_max (by decide +kernel) (pa_cons pe_int (pa_cons (pe_callB (call_min2A rfl) (by rfl) T.n_min (by decide +kernel) (pa_cons pe_int (pa_cons (pe_callB call_lenA (by rfl) T.n_len (by decide +kernel) (pa_cons (pv 0) pa_nil)) pa_nil))) pa_nil))) pa_nil)) (pg_name (i := 1) sc_law.nd rfl (.inl rfl))
    (pss_cons (ps_set (i := 2) sc_law.nd rfl (.inl rfl) (pe_c (c__law_cell T) hr (by decide) (by rfl) (pa_cons (pv 0) (pa_cons (pv 1) pa_nil))))
    (pss_cons (ps_set (i := 3) sc_law.nd rfl (.inl rfl) (pe_op op_addA (pe_op op_addA (pe_c (c__law_mixed T) hr (by decide) (by rfl) (pa_cons (pv 2) (pa_cons pe_int pa_nil))) (pe_op op_mulA (pe_c (c__law_mixed T) hr (by decide) (by rfl) (pa_cons (pv 2) (pa_cons pe_int pa_nil))) (pe_op op_pow pe_int pe_int))) (pe_op op_mulA (pe_c (c__law_mixed T) hr (by decide) (by rfl) (pa_cons (pv 2) (pa_cons pe_int pa_nil))) (pe_op op_pow pe_int pe_int))))
    (pss_cons (ps_set (i := 4) sc_law.nd rfl (.inl rfl) (pe_ix ix_seq (pe_c (c__law_tree T) hr (by decide) (by rfl) (pa_cons (pv 3) (pa_cons pe_int (pa_cons pe_bl pa_nil)))) pe_int (fun _ _ => rfl)))
    (pss_cons (ps_set (i := 5) sc_law.nd rfl (.inl rfl) (pe_c (c__law_words T) hr (by decide) (by rfl) (pa_cons (pv 4) pa_nil)))
    (pss_cons (ps_if (PW.pt (pw_or (pt_not (pt_val (pe_c (c__law_right T) hr (by decide) (by rfl) (pa_cons (pv 5) pa_nil)))) (pw_or1 (pt_not (pt_val (pe_c (c__law_is T) hr (by decide) (by rfl) (pa_cons (pe_xS (c_plan_of T) hr (by decide) (by rfl) (fun σ => passN σ) (pa_cons (pe_bm PySem.F.plainAttrs_str PySem.F.slot_str_join PySem.F.type_str_join mt_join pe_str (pa_cons (pv 5) pa_nil)) pa_nil)) (pa_cons (pv 4) pa_nil))))))))
    (pss_one (ps_ret pe_bl))
    pss_nil)
    (pss_cons (ps_if (pt_not (pt_val (pe_c (c__law_right T) hr (by decide) (by rfl) (pa_cons (pe_c (c__law_spoiled T) hr (by decide) (by rfl) (pa_cons (pv 5) (pa_cons (pv 2) pa_nil))) pa_nil))))
    (pss_one (ps_ret pe_bl))
    pss_nil)
    (pss_cons (ps_set (i := 6) sc_law.nd rfl (.inl rfl) (pe_ix ix_seq (pe_lst (pa_cons pe_non (pa_cons pe_int (pa_cons (pv 5) (pa_cons (pe_tup (pa_cons pe_str (pa_cons pe_str pa_nil))) (pa_cons pe_bl (pa_cons pe_dnewK pa_nil))))))) (pe_op op_mod (pv 3) pe_int) (fun _ _ => rfl)))
    (pss_one (ps_if (pt_not (pt_val (pe_c (c__law_whole T) hr (by decide) (by rfl) (pa_cons (pe_c (c__law_told T) hr (by decide) (by rfl) (pa_cons (pv 6) pa_nil)) (pa_cons pe_int pa_nil)))))
    (pss_one (ps_ret pe_bl))
    pss_nil))))))))))
    (pss_one (ps_ret (pe_and (pe_c (c__law_right T) hr (by decide) (by rfl) (pa_cons (pe_lst (pa_cons pe_str pa_nil)) pa_nil)) (pe_and (pe_c (c__law_right T) hr (by decide) (by rfl) (pa_cons (pe_lst (pa_cons pe_str pa_nil)) pa_nil)) (pe_one (pe_c (c__law_right T) hr (by decide) (by rfl) (pa_cons (pe_lst (pa_cons pe_str (pa_cons pe_str (pa_cons pe_str pa_nil)))) pa_nil)))))))), ?_⟩
  try simp only [cxOf_K, cxOf_K', cxOf_mg, cxOf_mg']
  unfold sp_law at h
  split at h
  case h_2 => exact h.elim
  rename_i a
  rw [show L2.start ["_law_script", "_law_k", "_law_cell_here", "_law_number", "_law_tree_here", "_law_words_here", "_law_thing"] [V.ref a] = [some (V.ref a), none, none, none, none, none, none] from rfl]
  obtain ⟨ns, hS, hl, hbits, q⟩ := h
  walk_at "sts"
  refine L_lenL hS ?_
  walk_at "sa"
  rw [List.length_map]
  refine L_r1 (by omega) (by omega) ?_
  refine f_range (fun k σ' H' => Same H H' ∧ ∃ v1 v2 v3 v4 v5 v6 : Option V, σ' = [some (.ref a), v1, v2, v3, v4, v5, v6]) ⟨Same.refl _, _, _, _, _, _, _, rfl⟩ ?_ ?_
  · rintro k σ' H1 hk ⟨s1, v1, v2, v3, v4, v5, v6, rfl⟩
    walk_at "sts"
    refine ⟨ns, s1.seq hS, by omega, by omega, fun c => ?_⟩
    walk_at "sts"
    refine ⟨by decide, by decide, fun r0 h00 h01 => ?_⟩
    walk_at "sts"
    refine ⟨by decide, by decide, fun r2 h20 h21 => ?_⟩
    walk_at "sts"
    refine L_powE (i := 2) (j := 40) (n := 1099511627776) (cpow_lit (by decide)) (by decide) ?_
    refine L_mulI ((bd_64 (by omega)).cmul (bd_64 (by decide))) ?_
    walk_at "sts"
    refine ⟨by decide, by decide, fun r3 h30 h31 => ?_⟩
    walk_at "sts"
    refine L_powE (i := 2) (j := 64) (n := 18446744073709551616) (cpow_lit (by decide)) (by decide) ?_
    refine L_mulI ((bd_64 (by omega)).cmul (bd_128 (by decide))) ?_
    walk_at "sts"
    generalize r0 + r2 * 1099511627776 + r3 * 18446744073709551616 = n
    refine ⟨3, rfl, by decide, fun p n' t vt H2 s2 ok dep nd e2 dp => ?_⟩
    walk_at "sts"
    refine L_ixT (.of e2) (v := vt) (by with_unfolding_all rfl) ?_
    walk_at "sts"
    refine ⟨p, dp, ok, dep, by decide, fun l H3 s3 e3 => ?_⟩
    have hlen : (ptW p).length ≤ 58 := by
      have h1 := ptW_len p
      have h2 : 2 ^ p.dep ≤ 2 ^ 3 := Nat.pow_le_pow_right (by decide) dep
      omega
    have hsum := sum_len (n := 6) _ (ptW_short p ok)
    walk_at "sts"
    refine ⟨ptW p, .of e3, by omega, fun H4 s4 => ?_⟩
    walk_at "sts"
    refine L_tyS ?_
    walk_at "sts"
    refine ⟨" ", l, ptW p, rfl, rfl, .inl (.of (s4 _ _ e3)), ?_, ?_⟩
    · rw [show (" " : Str).length = 1 from rfl]
      exact sz_dec (by omega)
    rw [text_join]
    refine .inr ⟨p.text, rfl, by have := PT.len3 ok (by omega); omega, ?_⟩
    rw [rdP_of ok dep]
    intro H5 y s5 hy
    have s35 := s3.trans (s4.trans s5)
    walk_at "sts"
    refine ⟨p, hy.any, Dp_same s35 _ dp, dep, fun H6 s6 => ?_⟩
    walk_at "sts"
    refine ⟨ptW p, (s4.trans (s5.trans s6)) _ _ e3, ptW_ne p, by omega, fun ws' l' H7 s7 hl' hz e7 => ?_⟩
    have hsum' := sum_len (n := 10) ws' fun z hz' => (hz z hz').elim (fun h => Nat.le_trans (ptW_short p ok z h) (by decide)) id
    walk_at "sts"
    refine ⟨ws', .of e7, by omega, fun H8 s8 => ?_⟩
    walk_at "sts"
    walk_at "nw"
    rename_i p9 hp9 H9 s9 e9
    walk_at "sts"
    intro p10 hp10
    have s10 := same_new (o := HO.dK []) hp10
    have e10 : upd H9 p10 (HO.dK []) p10 = _ := upd_same
    generalize upd H9 p10 (HO.dK []) = H10 at s10 e10
    walk_at "sts"
    walk_at "nw"
    rename_i p11 hp11 H11 s11 e11
    walk_at "sa"
    have e3' := (s4.trans (s5.trans (s6.trans (s7.trans (s8.trans (s9.trans (s10.trans s11))))))) _ _ e3
    have e9' := s11 _ _ (s10 _ _ e9)
    have e10' := s11 _ _ e10
    have b0 := Int.emod_nonneg n (show (6 : Int) ≠ 0 by decide)
    have b1 := Int.emod_lt_of_pos n (show (0 : Int) < 6 by decide)
    obtain ⟨v, hv, hn⟩ : ∃ v, atI [V.non, .int 7, .ref l, .ref p9, .bl true, .ref p10] (n % 6) = some v ∧ NotS K H11 v := by
      rcases (show n % 6 = 0 ∨ n % 6 = 1 ∨ n % 6 = 2 ∨ n % 6 = 3 ∨ n % 6 = 4 ∨ n % 6 = 5 by omega) with h | h | h | h | h | h
      · exact ⟨_, by rw [h]; rfl, nots_non⟩
      · exact ⟨_, by rw [h]; rfl, nots_int⟩
      · exact ⟨_, by rw [h]; rfl, nots_lst (.of e3')⟩
      · exact ⟨_, by rw [h]; rfl, nots_tup (.of e9')⟩
      · exact ⟨_, by rw [h]; rfl, ⟨_, .base (.bl _), by decide +kernel⟩⟩
      · exact ⟨_, by rw [h]; rfl, ⟨_, .base (.dK e10'), by decide +kernel⟩⟩
    refine L_ixL (.of e11) hv ?_
    walk_at "sts"
    refine .inl ⟨hn, fun H12 s12 => ?_⟩
    refine .inl ⟨0, rfl, ?_⟩
    rw [decide_eq_true rfl]
    walk_at "sts"
    exact ⟨s1.trans (s2.trans (s35.trans (s6.trans (s7.trans (s8.trans (s9.trans (s10.trans (s11.trans s12)))))))), _, _, _, _, _, _, rfl⟩
  · rintro σ' H1 ⟨s1, v1, v2, v3, v4, v5, v6, rfl⟩
    walk_at "sts"
    walk_at "nw"
    rename_i p1 hp1 H2 s2 e2
    refine ⟨[""], .of e2, by decide, fun H3 s3 => ?_⟩
    walk_at "sts"
    walk_at "nw"
    rename_i p4 hp4 H4 s4 e4
    refine ⟨["few"], .of e4, by decide, fun H5 s5 => ?_⟩
    walk_at "sts"
    walk_at "nw"
    rename_i p6 hp6 H6 s6 e6
    refine ⟨["few", "3", ""], .of e6, by decide, fun H7 s7 => ?_⟩
    exact q _
end
theorem txt_mk {K : PySem.W.Frag} {h : Heap} {mg : Str → Option Value} (X : K.In h) (G : h.Ns mainGlobals mg)
    (z_n_bool : PySem.W.nsIn K mainGlobals "bool" = some none)
    (z_n_int : PySem.W.nsIn K mainGlobals "int" = some none)
    (z_n_isinstance : PySem.W.nsIn K mainGlobals "isinstance" = some none)
    (z_n_len : PySem.W.nsIn K mainGlobals "len" = some none)
    {u_g_FIGURES : Value} (z_g_FIGURES : PySem.W.nsIn K mainGlobals "FIGURES" = some (some u_g_FIGURES)) (y_g_FIGURES : RelV (.str "0123456789") u_g_FIGURES)
    {C_SpeakError : Addr} (aC_SpeakError : PySem.W.nsIn K mainGlobals "SpeakError" = some (some (.ref C_SpeakError)))
    (bi0_SpeakError : PySem.W.readsIn K C_SpeakError (.type "type") = true) (bi1_SpeakError : PySem.W.specialIn K (.ref C_SpeakError) "__getattribute__" = some (some (.builtin "type.__getattribute__"))) (bi2_SpeakError : PySem.W.findCls K (.ref C_SpeakError) (.type "type") "__init__" = some (.val (.builtin "ValueError.__init__")))
    {C_NoPlan : Addr} (aC_NoPlan : PySem.W.nsIn K mainGlobals "NoPlan" = some (some (.ref C_NoPlan)))
    (ox_NoPlan : ∃ nm q N bs bm sn sub ab col dd k0 k1 k2 k3 k5, K.lookup C_NoPlan = some (excClassObj nm q C_NoPlan N bs bm true sn sub ab col dd k0 k1 k2 k3 k5 "ValueError.__new__") ∧ PySem.HandSPX.refsVE bm = true) (o0_NoPlan : PySem.W.findIn K (.ref C_NoPlan) "__setattr__" = some (some (.builtin "object.__setattr__"))) (o1_NoPlan : PySem.W.subIn K (.ref C_NoPlan) (.type "BaseException") = some true) (o2_NoPlan : PySem.W.typeIn K (.ref C_NoPlan) = some (.type "type")) (o3_NoPlan : PySem.W.keepIn K (.ref C_NoPlan) = true)
    (na_NoPlan_place : PySem.W.findIn K (.ref C_NoPlan) "place" = some none)
    {C_Few : Addr} (aC_Few : PySem.W.nsIn K mainGlobals "Few" = some (some (.ref C_Few)))
    (pg_Few : PySem.W.plainGet K C_Few Str.empty = true) (hd_Few : PySem.W.hasDictIn K C_Few = true) (po_Few : PySem.W.plainOver K C_Few = true) (sa_Few : PySem.W.findIn K (.ref C_Few) "__setattr__" = some (some (.builtin "object.__setattr__"))) (mk_Few : PySem.W.makesIn K C_Few = true) (kc_Few : PySem.W.keepIn K (.ref C_Few) = true)
    (na_Few_many : PySem.W.findIn K (.ref C_Few) "many" = some none)
    {u_g_MOST_DRAWN_plans : Value} (z_g_MOST_DRAWN_plans : PySem.W.nsIn K mainGlobals "MOST_DRAWN_plans" = some (some u_g_MOST_DRAWN_plans)) (y_g_MOST_DRAWN_plans : RelV (.int 24) u_g_MOST_DRAWN_plans)
    {C_Start : Addr} (aC_Start : PySem.W.nsIn K mainGlobals "Start" = some (some (.ref C_Start)))
    (pg_Start : PySem.W.plainGet K C_Start Str.empty = true) (hd_Start : PySem.W.hasDictIn K C_Start = true) (po_Start : PySem.W.plainOver K C_Start = true) (sa_Start : PySem.W.findIn K (.ref C_Start) "__setattr__" = some (some (.builtin "object.__setattr__"))) (mk_Start : PySem.W.makesIn K C_Start = true) (kc_Start : PySem.W.keepIn K (.ref C_Start) = true)
    (na_Start_step : PySem.W.findIn K (.ref C_Start) "step" = some none)
    {u_g_MOST_STEP_plans : Value} (z_g_MOST_STEP_plans : PySem.W.nsIn K mainGlobals "MOST_STEP_plans" = some (some u_g_MOST_STEP_plans)) (y_g_MOST_STEP_plans : RelV (.int 100) u_g_MOST_STEP_plans)
    {C_Loose : Addr} (aC_Loose : PySem.W.nsIn K mainGlobals "Loose" = some (some (.ref C_Loose)))
    (pg_Loose : PySem.W.plainGet K C_Loose Str.empty = true) (hd_Loose : PySem.W.hasDictIn K C_Loose = true) (po_Loose : PySem.W.plainOver K C_Loose = true) (sa_Loose : PySem.W.findIn K (.ref C_Loose) "__setattr__" = some (some (.builtin "object.__setattr__"))) (mk_Loose : PySem.W.makesIn K C_Loose = true) (kc_Loose : PySem.W.keepIn K (.ref C_Loose) = true)
    (na_Loose_many : PySem.W.findIn K (.ref C_Loose) "many" = some none)
    {C_Duel : Addr} (aC_Duel : PySem.W.nsIn K mainGlobals "Duel" = some (some (.ref C_Duel)))
    (pg_Duel : PySem.W.plainGet K C_Duel Str.empty = true) (hd_Duel : PySem.W.hasDictIn K C_Duel = true) (po_Duel : PySem.W.plainOver K C_Duel = true) (sa_Duel : PySem.W.findIn K (.ref C_Duel) "__setattr__" = some (some (.builtin "object.__setattr__"))) (mk_Duel : PySem.W.makesIn K C_Duel = true) (kc_Duel : PySem.W.keepIn K (.ref C_Duel) = true)
    (na_Duel_many : PySem.W.findIn K (.ref C_Duel) "many" = some none)
    {C_Each : Addr} (aC_Each : PySem.W.nsIn K mainGlobals "Each" = some (some (.ref C_Each)))
    (pg_Each : PySem.W.plainGet K C_Each Str.empty = true) (hd_Each : PySem.W.hasDictIn K C_Each = true) (po_Each : PySem.W.plainOver K C_Each = true) (sa_Each : PySem.W.findIn K (.ref C_Each) "__setattr__" = some (some (.builtin "object.__setattr__"))) (mk_Each : PySem.W.makesIn K C_Each = true) (kc_Each : PySem.W.keepIn K (.ref C_Each) = true)
    (na_Each_inside : PySem.W.findIn K (.ref C_Each) "inside" = some none)
    {C_First : Addr} (aC_First : PySem.W.nsIn K mainGlobals "First" = some (some (.ref C_First)))
    (pg_First : PySem.W.plainGet K C_First Str.empty = true) (hd_First : PySem.W.hasDictIn K C_First = true) (po_First : PySem.W.plainOver K C_First = true) (sa_First : PySem.W.findIn K (.ref C_First) "__setattr__" = some (some (.builtin "object.__setattr__"))) (mk_First : PySem.W.makesIn K C_First = true) (kc_First : PySem.W.keepIn K (.ref C_First) = true)
    (na_First_outside : PySem.W.findIn K (.ref C_First) "outside" = some none)
    (na_First_inside : PySem.W.findIn K (.ref C_First) "inside" = some none)
    {C_Words : Addr} (aC_Words : PySem.W.nsIn K mainGlobals "Words" = some (some (.ref C_Words)))
    (pg_Words : PySem.W.plainGet K C_Words Str.empty = true) (hd_Words : PySem.W.hasDictIn K C_Words = true) (po_Words : PySem.W.plainOver K C_Words = true) (sa_Words : PySem.W.findIn K (.ref C_Words) "__setattr__" = some (some (.builtin "object.__setattr__"))) (mk_Words : PySem.W.makesIn K C_Words = true) (kc_Words : PySem.W.keepIn K (.ref C_Words) = true)
    (na_Words_words : PySem.W.findIn K (.ref C_Words) "words" = some none)
    (na_Words_at : PySem.W.findIn K (.ref C_Words) "at" = some none)
    {u_g_DEEPEST : Value} (z_g_DEEPEST : PySem.W.nsIn K mainGlobals "DEEPEST" = some (some u_g_DEEPEST)) (y_g_DEEPEST : RelV (.int 3) u_g_DEEPEST)
    {u_g_MOST_DRAWN_plantexts : Value} (z_g_MOST_DRAWN_plantexts : PySem.W.nsIn K mainGlobals "MOST_DRAWN_plantexts" = some (some u_g_MOST_DRAWN_plantexts)) (y_g_MOST_DRAWN_plantexts : RelV (.int 24) u_g_MOST_DRAWN_plantexts)
    {u_g_MOST_STEP_plantexts : Value} (z_g_MOST_STEP_plantexts : PySem.W.nsIn K mainGlobals "MOST_STEP_plantexts" = some (some u_g_MOST_STEP_plantexts)) (y_g_MOST_STEP_plantexts : RelV (.int 100) u_g_MOST_STEP_plantexts)
    (z_n_str : PySem.W.nsIn K mainGlobals "str" = some none)
    {C_Plan : Addr} (aC_Plan : PySem.W.nsIn K mainGlobals "Plan" = some (some (.ref C_Plan)))
    (z_n_enumerate : PySem.W.nsIn K mainGlobals "enumerate" = some none)
    (z_n_range : PySem.W.nsIn K mainGlobals "range" = some none)
    {C_NoLevel : Addr} (aC_NoLevel : PySem.W.nsIn K mainGlobals "NoLevel" = some (some (.ref C_NoLevel)))
    {C_NoListing : Addr} (aC_NoListing : PySem.W.nsIn K mainGlobals "NoListing" = some (some (.ref C_NoListing)))
    {C_NoThrow : Addr} (aC_NoThrow : PySem.W.nsIn K mainGlobals "NoThrow" = some (some (.ref C_NoThrow)))
    {C_NoUnits : Addr} (aC_NoUnits : PySem.W.nsIn K mainGlobals "NoUnits" = some (some (.ref C_NoUnits)))
    (yb_SpeakError : PySem.W.subIn K (.ref C_SpeakError) (.type "BaseException") = some true) (yi_SpeakError : PySem.W.isClsIn K C_SpeakError = true) (yt_SpeakError : PySem.W.typeIn K (.ref C_SpeakError) = some (.type "type"))
    (z0_NoPlan : PySem.W.findIn K (.ref C_NoPlan) "__getattribute__" = some (some (.builtin "BaseException.__getattribute__"))) (z1_NoPlan : PySem.W.findIn K (.ref C_NoPlan) "__getattr__" = some none) (z2_NoPlan : PySem.W.subIn K (.ref C_NoPlan) (.type "BaseException") = some true) (z3_NoPlan : PySem.W.hasDictIn K C_NoPlan = true) (z4_NoPlan : PySem.W.findIn K (.ref C_NoPlan) "__class__" = some (some (.builtin "object.__class__"))) (z5_NoPlan : PySem.W.specialIn K (.builtin "object.__class__") "__get__" = some (some (.builtin "getset_descriptor.__get__"))) (z6_NoPlan : PySem.W.takesIn K (.builtin "object.__class__") = some true) (z7_NoPlan : PySem.W.mroIn K C_NoPlan (.type "object") = some true)
    (z_n_max : PySem.W.nsIn K mainGlobals "max" = some none)
    (z_n_min : PySem.W.nsIn K mainGlobals "min" = some none)
    (yb_NoPlan : PySem.W.subIn K (.ref C_NoPlan) (.type "BaseException") = some true) (yi_NoPlan : PySem.W.isClsIn K C_NoPlan = true) (yt_NoPlan : PySem.W.typeIn K (.ref C_NoPlan) = some (.type "type"))
    (yb_NoLevel : PySem.W.subIn K (.ref C_NoLevel) (.type "BaseException") = some true) (yi_NoLevel : PySem.W.isClsIn K C_NoLevel = true) (yt_NoLevel : PySem.W.typeIn K (.ref C_NoLevel) = some (.type "type"))
    (yb_NoListing : PySem.W.subIn K (.ref C_NoListing) (.type "BaseException") = some true) (yi_NoListing : PySem.W.isClsIn K C_NoListing = true) (yt_NoListing : PySem.W.typeIn K (.ref C_NoListing) = some (.type "type"))
    (yb_NoThrow : PySem.W.subIn K (.ref C_NoThrow) (.type "BaseException") = some true) (yi_NoThrow : PySem.W.isClsIn K C_NoThrow = true) (yt_NoThrow : PySem.W.typeIn K (.ref C_NoThrow) = some (.type "type"))
    (yb_NoUnits : PySem.W.subIn K (.ref C_NoUnits) (.type "BaseException") = some true) (yi_NoUnits : PySem.W.isClsIn K C_NoUnits = true) (yt_NoUnits : PySem.W.typeIn K (.ref C_NoUnits) = some (.type "type"))
    (es_NoPlan_NoPlan : PySem.W.subIn K (.ref C_NoPlan) (.ref C_NoPlan) = some true)
    (es_NoPlan_SpeakError : PySem.W.subIn K (.ref C_NoPlan) (.ref C_SpeakError) = some true)
    (es_NoPlan_NoLevel : PySem.W.subIn K (.ref C_NoPlan) (.ref C_NoLevel) = some false)
    (es_NoPlan_NoListing : PySem.W.subIn K (.ref C_NoPlan) (.ref C_NoListing) = some false)
    (es_NoPlan_NoThrow : PySem.W.subIn K (.ref C_NoPlan) (.ref C_NoThrow) = some false)
    (es_NoPlan_NoUnits : PySem.W.subIn K (.ref C_NoPlan) (.ref C_NoUnits) = some false)
    (ic0_Few : PySem.W.findIn K (.ref C_Few) "__class__" = some (some (.builtin "object.__class__"))) (ic1_Few : PySem.W.specialIn K (.builtin "object.__class__") "__get__" = some (some (.builtin "getset_descriptor.__get__"))) (ic2_Few : PySem.W.takesIn K (.builtin "object.__class__") = some true) (ic3_Few : PySem.W.mroIn K C_Few (.type "object") = some true)
    (ic0_Start : PySem.W.findIn K (.ref C_Start) "__class__" = some (some (.builtin "object.__class__"))) (ic1_Start : PySem.W.specialIn K (.builtin "object.__class__") "__get__" = some (some (.builtin "getset_descriptor.__get__"))) (ic2_Start : PySem.W.takesIn K (.builtin "object.__class__") = some true) (ic3_Start : PySem.W.mroIn K C_Start (.type "object") = some true)
    (ic0_Loose : PySem.W.findIn K (.ref C_Loose) "__class__" = some (some (.builtin "object.__class__"))) (ic1_Loose : PySem.W.specialIn K (.builtin "object.__class__") "__get__" = some (some (.builtin "getset_descriptor.__get__"))) (ic2_Loose : PySem.W.takesIn K (.builtin "object.__class__") = some true) (ic3_Loose : PySem.W.mroIn K C_Loose (.type "object") = some true)
    (ic0_Duel : PySem.W.findIn K (.ref C_Duel) "__class__" = some (some (.builtin "object.__class__"))) (ic1_Duel : PySem.W.specialIn K (.builtin "object.__class__") "__get__" = some (some (.builtin "getset_descriptor.__get__"))) (ic2_Duel : PySem.W.takesIn K (.builtin "object.__class__") = some true) (ic3_Duel : PySem.W.mroIn K C_Duel (.type "object") = some true)
    (ic0_Each : PySem.W.findIn K (.ref C_Each) "__class__" = some (some (.builtin "object.__class__"))) (ic1_Each : PySem.W.specialIn K (.builtin "object.__class__") "__get__" = some (some (.builtin "getset_descriptor.__get__"))) (ic2_Each : PySem.W.takesIn K (.builtin "object.__class__") = some true) (ic3_Each : PySem.W.mroIn K C_Each (.type "object") = some true)
    (ic0_First : PySem.W.findIn K (.ref C_First) "__class__" = some (some (.builtin "object.__class__"))) (ic1_First : PySem.W.specialIn K (.builtin "object.__class__") "__get__" = some (some (.builtin "getset_descriptor.__get__"))) (ic2_First : PySem.W.takesIn K (.builtin "object.__class__") = some true) (ic3_First : PySem.W.mroIn K C_First (.type "object") = some true)
    (cti_Few : PySem.W.isClsIn K C_Few = true) (ctt_Few : PySem.W.typeIn K (.ref C_Few) = some (.type "type"))
    (cti_Start : PySem.W.isClsIn K C_Start = true) (ctt_Start : PySem.W.typeIn K (.ref C_Start) = some (.type "type"))
    (cti_Loose : PySem.W.isClsIn K C_Loose = true) (ctt_Loose : PySem.W.typeIn K (.ref C_Loose) = some (.type "type"))
    (cti_Duel : PySem.W.isClsIn K C_Duel = true) (ctt_Duel : PySem.W.typeIn K (.ref C_Duel) = some (.type "type"))
    (cti_Each : PySem.W.isClsIn K C_Each = true) (ctt_Each : PySem.W.typeIn K (.ref C_Each) = some (.type "type"))
    (cti_First : PySem.W.isClsIn K C_First = true) (ctt_First : PySem.W.typeIn K (.ref C_First) = some (.type "type"))
    (cti_Plan : PySem.W.isClsIn K C_Plan = true) (ctt_Plan : PySem.W.typeIn K (.ref C_Plan) = some (.type "type"))
    (es_Few_Few : PySem.W.subIn K (.ref C_Few) (.ref C_Few) = some true)
    (es_Few_Start : PySem.W.subIn K (.ref C_Few) (.ref C_Start) = some false)
    (es_Few_Loose : PySem.W.subIn K (.ref C_Few) (.ref C_Loose) = some false)
    (es_Few_Duel : PySem.W.subIn K (.ref C_Few) (.ref C_Duel) = some false)
    (es_Few_Each : PySem.W.subIn K (.ref C_Few) (.ref C_Each) = some false)
    (es_Few_First : PySem.W.subIn K (.ref C_Few) (.ref C_First) = some false)
    (es_Few_Plan : PySem.W.subIn K (.ref C_Few) (.ref C_Plan) = some true)
    (es_Start_Few : PySem.W.subIn K (.ref C_Start) (.ref C_Few) = some false)
    (es_Start_Start : PySem.W.subIn K (.ref C_Start) (.ref C_Start) = some true)
    (es_Start_Loose : PySem.W.subIn K (.ref C_Start) (.ref C_Loose) = some false)
    (es_Start_Duel : PySem.W.subIn K (.ref C_Start) (.ref C_Duel) = some false)
    (es_Start_Each : PySem.W.subIn K (.ref C_Start) (.ref C_Each) = some false)
    (es_Start_First : PySem.W.subIn K (.ref C_Start) (.ref C_First) = some false)
    (es_Start_Plan : PySem.W.subIn K (.ref C_Start) (.ref C_Plan) = some true)
    (es_Loose_Few : PySem.W.subIn K (.ref C_Loose) (.ref C_Few) = some false)
    (es_Loose_Start : PySem.W.subIn K (.ref C_Loose) (.ref C_Start) = some false)
    (es_Loose_Loose : PySem.W.subIn K (.ref C_Loose) (.ref C_Loose) = some true)
    (es_Loose_Duel : PySem.W.subIn K (.ref C_Loose) (.ref C_Duel) = some false)
    (es_Loose_Each : PySem.W.subIn K (.ref C_Loose) (.ref C_Each) = some false)
    (es_Loose_First : PySem.W.subIn K (.ref C_Loose) (.ref C_First) = some false)
    (es_Loose_Plan : PySem.W.subIn K (.ref C_Loose) (.ref C_Plan) = some true)
    (es_Duel_Few : PySem.W.subIn K (.ref C_Duel) (.ref C_Few) = some false)
    (es_Duel_Start : PySem.W.subIn K (.ref C_Duel) (.ref C_Start) = some false)
    (es_Duel_Loose : PySem.W.subIn K (.ref C_Duel) (.ref C_Loose) = some false)
    (es_Duel_Duel : PySem.W.subIn K (.ref C_Duel) (.ref C_Duel) = some true)
    (es_Duel_Each : PySem.W.subIn K (.ref C_Duel) (.ref C_Each) = some false)
    (es_Duel_First : PySem.W.subIn K (.ref C_Duel) (.ref C_First) = some false)
    (es_Duel_Plan : PySem.W.subIn K (.ref C_Duel) (.ref C_Plan) = some true)
    (es_Each_Few : PySem.W.subIn K (.ref C_Each) (.ref C_Few) = some false)
    (es_Each_Start : PySem.W.subIn K (.ref C_Each) (.ref C_Start) = some false)
    (es_Each_Loose : PySem.W.subIn K (.ref C_Each) (.ref C_Loose) = some false)
    (es_Each_Duel : PySem.W.subIn K (.ref C_Each) (.ref C_Duel) = some false)
    (es_Each_Each : PySem.W.subIn K (.ref C_Each) (.ref C_Each) = some true)
    (es_Each_First : PySem.W.subIn K (.ref C_Each) (.ref C_First) = some false)
    (es_Each_Plan : PySem.W.subIn K (.ref C_Each) (.ref C_Plan) = some true)
    (es_First_Few : PySem.W.subIn K (.ref C_First) (.ref C_Few) = some false)
    (es_First_Start : PySem.W.subIn K (.ref C_First) (.ref C_Start) = some false)
    (es_First_Loose : PySem.W.subIn K (.ref C_First) (.ref C_Loose) = some false)
    (es_First_Duel : PySem.W.subIn K (.ref C_First) (.ref C_Duel) = some false)
    (es_First_Each : PySem.W.subIn K (.ref C_First) (.ref C_Each) = some false)
    (es_First_First : PySem.W.subIn K (.ref C_First) (.ref C_First) = some true)
    (es_First_Plan : PySem.W.subIn K (.ref C_First) (.ref C_Plan) = some true)
    {f_is_whole : Addr} {od_is_whole an_is_whole : Option Addr} {sl_is_whole : Array (Option Value)} {oc_is_whole kV_is_whole dc_is_whole pm_is_whole cd_is_whole ct_is_whole : Value}
    (a_is_whole : PySem.W.nsIn K mainGlobals "is_whole" = some (some (.ref f_is_whole))) (l_is_whole : K.lookup f_is_whole = some ⟨oc_is_whole, od_is_whole, .func (PySem.W.fnOf "is_whole" "is_whole" (defArgs s_is_whole) (defBody s_is_whole) (defScope s_is_whole) .none kV_is_whole dc_is_whole pm_is_whole an_is_whole cd_is_whole ct_is_whole), sl_is_whole⟩) (c_is_whole : PySem.W.codeIn K cd_is_whole "is_whole" = true) (k_is_whole : PySem.W.keepIn K (.ref f_is_whole) = true)
    {f_are_figures : Addr} {od_are_figures an_are_figures : Option Addr} {sl_are_figures : Array (Option Value)} {oc_are_figures kV_are_figures dc_are_figures pm_are_figures cd_are_figures ct_are_figures : Value}
    (a_are_figures : PySem.W.nsIn K mainGlobals "are_figures" = some (some (.ref f_are_figures))) (l_are_figures : K.lookup f_are_figures = some ⟨oc_are_figures, od_are_figures, .func (PySem.W.fnOf "are_figures" "are_figures" (defArgs s_are_figures) (defBody s_are_figures) (defScope s_are_figures) .none kV_are_figures dc_are_figures pm_are_figures an_are_figures cd_are_figures ct_are_figures), sl_are_figures⟩) (c_are_figures : PySem.W.codeIn K cd_are_figures "are_figures" = true) (k_are_figures : PySem.W.keepIn K (.ref f_are_figures) = true)
    {f_number_of : Addr} {od_number_of an_number_of : Option Addr} {sl_number_of : Array (Option Value)} {oc_number_of kV_number_of dc_number_of pm_number_of cd_number_of ct_number_of : Value}
    (a_number_of : PySem.W.nsIn K mainGlobals "number_of" = some (some (.ref f_number_of))) (l_number_of : K.lookup f_number_of = some ⟨oc_number_of, od_number_of, .func (PySem.W.fnOf "number_of" "number_of" (defArgs s_number_of) (defBody s_number_of) (defScope s_number_of) .none kV_number_of dc_number_of pm_number_of an_number_of cd_number_of ct_number_of), sl_number_of⟩) (c_number_of : PySem.W.codeIn K cd_number_of "number_of" = true) (k_number_of : PySem.W.keepIn K (.ref f_number_of) = true)
    {f_NoPlan___init__ : Addr} {od_NoPlan___init__ an_NoPlan___init__ : Option Addr} {sl_NoPlan___init__ : Array (Option Value)} {oc_NoPlan___init__ kV_NoPlan___init__ dc_NoPlan___init__ pm_NoPlan___init__ cd_NoPlan___init__ ct_NoPlan___init__ : Value}
    (a_NoPlan___init__ : PySem.W.findIn K (.ref C_NoPlan) "__init__" = some (some (.ref f_NoPlan___init__))) (i_NoPlan___init__ : PySem.W.isFn K (.ref f_NoPlan___init__) = true) (l_NoPlan___init__ : K.lookup f_NoPlan___init__ = some ⟨oc_NoPlan___init__, od_NoPlan___init__, .func (PySem.W.fnOf "__init__" "NoPlan.__init__" (defArgs s_NoPlan___init__) (defBody s_NoPlan___init__) (defScope s_NoPlan___init__) .none kV_NoPlan___init__ dc_NoPlan___init__ pm_NoPlan___init__ an_NoPlan___init__ cd_NoPlan___init__ ct_NoPlan___init__), sl_NoPlan___init__⟩) (c_NoPlan___init__ : PySem.W.codeIn K cd_NoPlan___init__ "NoPlan.__init__" = true) (k_NoPlan___init__ : PySem.W.keepIn K (.ref f_NoPlan___init__) = true)
    {f_Few___init__ : Addr} {od_Few___init__ an_Few___init__ : Option Addr} {sl_Few___init__ : Array (Option Value)} {oc_Few___init__ kV_Few___init__ dc_Few___init__ pm_Few___init__ cd_Few___init__ ct_Few___init__ : Value}
    (a_Few___init__ : PySem.W.findIn K (.ref C_Few) "__init__" = some (some (.ref f_Few___init__))) (i_Few___init__ : PySem.W.isFn K (.ref f_Few___init__) = true) (l_Few___init__ : K.lookup f_Few___init__ = some ⟨oc_Few___init__, od_Few___init__, .func (PySem.W.fnOf "__init__" "Few.__init__" (defArgs s_Few___init__) (defBody s_Few___init__) (defScope s_Few___init__) .none kV_Few___init__ dc_Few___init__ pm_Few___init__ an_Few___init__ cd_Few___init__ ct_Few___init__), sl_Few___init__⟩) (c_Few___init__ : PySem.W.codeIn K cd_Few___init__ "Few.__init__" = true) (k_Few___init__ : PySem.W.keepIn K (.ref f_Few___init__) = true)
    {f_Start___init__ : Addr} {od_Start___init__ an_Start___init__ : Option Addr} {sl_Start___init__ : Array (Option Value)} {oc_Start___init__ kV_Start___init__ dc_Start___init__ pm_Start___init__ cd_Start___init__ ct_Start___init__ : Value}
    (a_Start___init__ : PySem.W.findIn K (.ref C_Start) "__init__" = some (some (.ref f_Start___init__))) (i_Start___init__ : PySem.W.isFn K (.ref f_Start___init__) = true) (l_Start___init__ : K.lookup f_Start___init__ = some ⟨oc_Start___init__, od_Start___init__, .func (PySem.W.fnOf "__init__" "Start.__init__" (defArgs s_Start___init__) (defBody s_Start___init__) (defScope s_Start___init__) .none kV_Start___init__ dc_Start___init__ pm_Start___init__ an_Start___init__ cd_Start___init__ ct_Start___init__), sl_Start___init__⟩) (c_Start___init__ : PySem.W.codeIn K cd_Start___init__ "Start.__init__" = true) (k_Start___init__ : PySem.W.keepIn K (.ref f_Start___init__) = true)
    {f_Loose___init__ : Addr} {od_Loose___init__ an_Loose___init__ : Option Addr} {sl_Loose___init__ : Array (Option Value)} {oc_Loose___init__ kV_Loose___init__ dc_Loose___init__ pm_Loose___init__ cd_Loose___init__ ct_Loose___init__ : Value}
    (a_Loose___init__ : PySem.W.findIn K (.ref C_Loose) "__init__" = some (some (.ref f_Loose___init__))) (i_Loose___init__ : PySem.W.isFn K (.ref f_Loose___init__) = true) (l_Loose___init__ : K.lookup f_Loose___init__ = some ⟨oc_Loose___init__, od_Loose___init__, .func (PySem.W.fnOf "__init__" "Loose.__init__" (defArgs s_Loose___init__) (defBody s_Loose___init__) (defScope s_Loose___init__) .none kV_Loose___init__ dc_Loose___init__ pm_Loose___init__ an_Loose___init__ cd_Loose___init__ ct_Loose___init__), sl_Loose___init__⟩) (c_Loose___init__ : PySem.W.codeIn K cd_Loose___init__ "Loose.__init__" = true) (k_Loose___init__ : PySem.W.keepIn K (.ref f_Loose___init__) = true)
    {f_Duel___init__ : Addr} {od_Duel___init__ an_Duel___init__ : Option Addr} {sl_Duel___init__ : Array (Option Value)} {oc_Duel___init__ kV_Duel___init__ dc_Duel___init__ pm_Duel___init__ cd_Duel___init__ ct_Duel___init__ : Value}
    (a_Duel___init__ : PySem.W.findIn K (.ref C_Duel) "__init__" = some (some (.ref f_Duel___init__))) (i_Duel___init__ : PySem.W.isFn K (.ref f_Duel___init__) = true) (l_Duel___init__ : K.lookup f_Duel___init__ = some ⟨oc_Duel___init__, od_Duel___init__, .func (PySem.W.fnOf "__init__" "Duel.__init__" (defArgs s_Duel___init__) (defBody s_Duel___init__) (defScope s_Duel___init__) .none kV_Duel___init__ dc_Duel___init__ pm_Duel___init__ an_Duel___init__ cd_Duel___init__ ct_Duel___init__), sl_Duel___init__⟩) (c_Duel___init__ : PySem.W.codeIn K cd_Duel___init__ "Duel.__init__" = true) (k_Duel___init__ : PySem.W.keepIn K (.ref f_Duel___init__) = true)
    {f_Each___init__ : Addr} {od_Each___init__ an_Each___init__ : Option Addr} {sl_Each___init__ : Array (Option Value)} {oc_Each___init__ kV_Each___init__ dc_Each___init__ pm_Each___init__ cd_Each___init__ ct_Each___init__ : Value}
    (a_Each___init__ : PySem.W.findIn K (.ref C_Each) "__init__" = some (some (.ref f_Each___init__))) (i_Each___init__ : PySem.W.isFn K (.ref f_Each___init__) = true) (l_Each___init__ : K.lookup f_Each___init__ = some ⟨oc_Each___init__, od_Each___init__, .func (PySem.W.fnOf "__init__" "Each.__init__" (defArgs s_Each___init__) (defBody s_Each___init__) (defScope s_Each___init__) .none kV_Each___init__ dc_Each___init__ pm_Each___init__ an_Each___init__ cd_Each___init__ ct_Each___init__), sl_Each___init__⟩) (c_Each___init__ : PySem.W.codeIn K cd_Each___init__ "Each.__init__" = true) (k_Each___init__ : PySem.W.keepIn K (.ref f_Each___init__) = true)
    {f_First___init__ : Addr} {od_First___init__ an_First___init__ : Option Addr} {sl_First___init__ : Array (Option Value)} {oc_First___init__ kV_First___init__ dc_First___init__ pm_First___init__ cd_First___init__ ct_First___init__ : Value}
    (a_First___init__ : PySem.W.findIn K (.ref C_First) "__init__" = some (some (.ref f_First___init__))) (i_First___init__ : PySem.W.isFn K (.ref f_First___init__) = true) (l_First___init__ : K.lookup f_First___init__ = some ⟨oc_First___init__, od_First___init__, .func (PySem.W.fnOf "__init__" "First.__init__" (defArgs s_First___init__) (defBody s_First___init__) (defScope s_First___init__) .none kV_First___init__ dc_First___init__ pm_First___init__ an_First___init__ cd_First___init__ ct_First___init__), sl_First___init__⟩) (c_First___init__ : PySem.W.codeIn K cd_First___init__ "First.__init__" = true) (k_First___init__ : PySem.W.keepIn K (.ref f_First___init__) = true)
    {f_Words___init__ : Addr} {od_Words___init__ an_Words___init__ : Option Addr} {sl_Words___init__ : Array (Option Value)} {oc_Words___init__ kV_Words___init__ dc_Words___init__ pm_Words___init__ cd_Words___init__ ct_Words___init__ : Value}
    (a_Words___init__ : PySem.W.findIn K (.ref C_Words) "__init__" = some (some (.ref f_Words___init__))) (i_Words___init__ : PySem.W.isFn K (.ref f_Words___init__) = true) (l_Words___init__ : K.lookup f_Words___init__ = some ⟨oc_Words___init__, od_Words___init__, .func (PySem.W.fnOf "__init__" "Words.__init__" (defArgs s_Words___init__) (defBody s_Words___init__) (defScope s_Words___init__) .none kV_Words___init__ dc_Words___init__ pm_Words___init__ an_Words___init__ cd_Words___init__ ct_Words___init__), sl_Words___init__⟩) (c_Words___init__ : PySem.W.codeIn K cd_Words___init__ "Words.__init__" = true) (k_Words___init__ : PySem.W.keepIn K (.ref f_Words___init__) = true)
    {f_Words_here : Addr} {od_Words_here an_Words_here : Option Addr} {sl_Words_here : Array (Option Value)} {oc_Words_here kV_Words_here dc_Words_here pm_Words_here cd_Words_here ct_Words_here : Value}
    (a_Words_here : PySem.W.findIn K (.ref C_Words) "here" = some (some (.ref f_Words_here))) (i_Words_here : PySem.W.isFn K (.ref f_Words_here) = true) (l_Words_here : K.lookup f_Words_here = some ⟨oc_Words_here, od_Words_here, .func (PySem.W.fnOf "here" "Words.here" (defArgs s_Words_here) (defBody s_Words_here) (defScope s_Words_here) .none kV_Words_here dc_Words_here pm_Words_here an_Words_here cd_Words_here ct_Words_here), sl_Words_here⟩) (c_Words_here : PySem.W.codeIn K cd_Words_here "Words.here" = true) (k_Words_here : PySem.W.keepIn K (.ref f_Words_here) = true)
    {f_Words_go_by : Addr} {od_Words_go_by an_Words_go_by : Option Addr} {sl_Words_go_by : Array (Option Value)} {oc_Words_go_by kV_Words_go_by dc_Words_go_by pm_Words_go_by cd_Words_go_by ct_Words_go_by : Value}
    (a_Words_go_by : PySem.W.findIn K (.ref C_Words) "go_by" = some (some (.ref f_Words_go_by))) (i_Words_go_by : PySem.W.isFn K (.ref f_Words_go_by) = true) (l_Words_go_by : K.lookup f_Words_go_by = some ⟨oc_Words_go_by, od_Words_go_by, .func (PySem.W.fnOf "go_by" "Words.go_by" (defArgs s_Words_go_by) (defBody s_Words_go_by) (defScope s_Words_go_by) .none kV_Words_go_by dc_Words_go_by pm_Words_go_by an_Words_go_by cd_Words_go_by ct_Words_go_by), sl_Words_go_by⟩) (c_Words_go_by : PySem.W.codeIn K cd_Words_go_by "Words.go_by" = true) (k_Words_go_by : PySem.W.keepIn K (.ref f_Words_go_by) = true)
    {f_Words_take_number : Addr} {od_Words_take_number an_Words_take_number : Option Addr} {sl_Words_take_number : Array (Option Value)} {oc_Words_take_number kV_Words_take_number dc_Words_take_number pm_Words_take_number cd_Words_take_number ct_Words_take_number : Value}
    (a_Words_take_number : PySem.W.findIn K (.ref C_Words) "take_number" = some (some (.ref f_Words_take_number))) (i_Words_take_number : PySem.W.isFn K (.ref f_Words_take_number) = true) (l_Words_take_number : K.lookup f_Words_take_number = some ⟨oc_Words_take_number, od_Words_take_number, .func (PySem.W.fnOf "take_number" "Words.take_number" (defArgs s_Words_take_number) (defBody s_Words_take_number) (defScope s_Words_take_number) .none kV_Words_take_number dc_Words_take_number pm_Words_take_number an_Words_take_number cd_Words_take_number ct_Words_take_number), sl_Words_take_number⟩) (c_Words_take_number : PySem.W.codeIn K cd_Words_take_number "Words.take_number" = true) (k_Words_take_number : PySem.W.keepIn K (.ref f_Words_take_number) = true)
    {f_Words_take_plan : Addr} {od_Words_take_plan an_Words_take_plan : Option Addr} {sl_Words_take_plan : Array (Option Value)} {oc_Words_take_plan kV_Words_take_plan dc_Words_take_plan pm_Words_take_plan cd_Words_take_plan ct_Words_take_plan : Value}
    (a_Words_take_plan : PySem.W.findIn K (.ref C_Words) "take_plan" = some (some (.ref f_Words_take_plan))) (i_Words_take_plan : PySem.W.isFn K (.ref f_Words_take_plan) = true) (l_Words_take_plan : K.lookup f_Words_take_plan = some ⟨oc_Words_take_plan, od_Words_take_plan, .func (PySem.W.fnOf "take_plan" "Words.take_plan" (defArgs s_Words_take_plan) (defBody s_Words_take_plan) (defScope s_Words_take_plan) .none kV_Words_take_plan dc_Words_take_plan pm_Words_take_plan an_Words_take_plan cd_Words_take_plan ct_Words_take_plan), sl_Words_take_plan⟩) (c_Words_take_plan : PySem.W.codeIn K cd_Words_take_plan "Words.take_plan" = true) (k_Words_take_plan : PySem.W.keepIn K (.ref f_Words_take_plan) = true)
    {f_Words_take_wide : Addr} {od_Words_take_wide an_Words_take_wide : Option Addr} {sl_Words_take_wide : Array (Option Value)} {oc_Words_take_wide kV_Words_take_wide dc_Words_take_wide pm_Words_take_wide cd_Words_take_wide ct_Words_take_wide : Value}
    (a_Words_take_wide : PySem.W.findIn K (.ref C_Words) "take_wide" = some (some (.ref f_Words_take_wide))) (i_Words_take_wide : PySem.W.isFn K (.ref f_Words_take_wide) = true) (l_Words_take_wide : K.lookup f_Words_take_wide = some ⟨oc_Words_take_wide, od_Words_take_wide, .func (PySem.W.fnOf "take_wide" "Words.take_wide" (defArgs s_Words_take_wide) (defBody s_Words_take_wide) (defScope s_Words_take_wide) .none kV_Words_take_wide dc_Words_take_wide pm_Words_take_wide an_Words_take_wide cd_Words_take_wide ct_Words_take_wide), sl_Words_take_wide⟩) (c_Words_take_wide : PySem.W.codeIn K cd_Words_take_wide "Words.take_wide" = true) (k_Words_take_wide : PySem.W.keepIn K (.ref f_Words_take_wide) = true)
    {f_Words_take_inner : Addr} {od_Words_take_inner an_Words_take_inner : Option Addr} {sl_Words_take_inner : Array (Option Value)} {oc_Words_take_inner kV_Words_take_inner dc_Words_take_inner pm_Words_take_inner cd_Words_take_inner ct_Words_take_inner : Value}
    (a_Words_take_inner : PySem.W.findIn K (.ref C_Words) "take_inner" = some (some (.ref f_Words_take_inner))) (i_Words_take_inner : PySem.W.isFn K (.ref f_Words_take_inner) = true) (l_Words_take_inner : K.lookup f_Words_take_inner = some ⟨oc_Words_take_inner, od_Words_take_inner, .func (PySem.W.fnOf "take_inner" "Words.take_inner" (defArgs s_Words_take_inner) (defBody s_Words_take_inner) (defScope s_Words_take_inner) .none kV_Words_take_inner dc_Words_take_inner pm_Words_take_inner an_Words_take_inner cd_Words_take_inner ct_Words_take_inner), sl_Words_take_inner⟩) (c_Words_take_inner : PySem.W.codeIn K cd_Words_take_inner "Words.take_inner" = true) (k_Words_take_inner : PySem.W.keepIn K (.ref f_Words_take_inner) = true)
    {f_plan_of : Addr} {od_plan_of an_plan_of : Option Addr} {sl_plan_of : Array (Option Value)} {oc_plan_of kV_plan_of dc_plan_of pm_plan_of cd_plan_of ct_plan_of : Value}
    (a_plan_of : PySem.W.nsIn K mainGlobals "plan_of" = some (some (.ref f_plan_of))) (l_plan_of : K.lookup f_plan_of = some ⟨oc_plan_of, od_plan_of, .func (PySem.W.fnOf "plan_of" "plan_of" (defArgs s_plan_of) (defBody s_plan_of) (defScope s_plan_of) .none kV_plan_of dc_plan_of pm_plan_of an_plan_of cd_plan_of ct_plan_of), sl_plan_of⟩) (c_plan_of : PySem.W.codeIn K cd_plan_of "plan_of" = true) (k_plan_of : PySem.W.keepIn K (.ref f_plan_of) = true)
    {f_Few_text : Addr} {od_Few_text an_Few_text : Option Addr} {sl_Few_text : Array (Option Value)} {oc_Few_text kV_Few_text dc_Few_text pm_Few_text cd_Few_text ct_Few_text : Value}
    (a_Few_text : PySem.W.findIn K (.ref C_Few) "text" = some (some (.ref f_Few_text))) (i_Few_text : PySem.W.isFn K (.ref f_Few_text) = true) (l_Few_text : K.lookup f_Few_text = some ⟨oc_Few_text, od_Few_text, .func (PySem.W.fnOf "text" "Few.text" (defArgs s_Few_text) (defBody s_Few_text) (defScope s_Few_text) .none kV_Few_text dc_Few_text pm_Few_text an_Few_text cd_Few_text ct_Few_text), sl_Few_text⟩) (c_Few_text : PySem.W.codeIn K cd_Few_text "Few.text" = true) (k_Few_text : PySem.W.keepIn K (.ref f_Few_text) = true)
    {f_Start_text : Addr} {od_Start_text an_Start_text : Option Addr} {sl_Start_text : Array (Option Value)} {oc_Start_text kV_Start_text dc_Start_text pm_Start_text cd_Start_text ct_Start_text : Value}
    (a_Start_text : PySem.W.findIn K (.ref C_Start) "text" = some (some (.ref f_Start_text))) (i_Start_text : PySem.W.isFn K (.ref f_Start_text) = true) (l_Start_text : K.lookup f_Start_text = some ⟨oc_Start_text, od_Start_text, .func (PySem.W.fnOf "text" "Start.text" (defArgs s_Start_text) (defBody s_Start_text) (defScope s_Start_text) .none kV_Start_text dc_Start_text pm_Start_text an_Start_text cd_Start_text ct_Start_text), sl_Start_text⟩) (c_Start_text : PySem.W.codeIn K cd_Start_text "Start.text" = true) (k_Start_text : PySem.W.keepIn K (.ref f_Start_text) = true)
    {f_Loose_text : Addr} {od_Loose_text an_Loose_text : Option Addr} {sl_Loose_text : Array (Option Value)} {oc_Loose_text kV_Loose_text dc_Loose_text pm_Loose_text cd_Loose_text ct_Loose_text : Value}
    (a_Loose_text : PySem.W.findIn K (.ref C_Loose) "text" = some (some (.ref f_Loose_text))) (i_Loose_text : PySem.W.isFn K (.ref f_Loose_text) = true) (l_Loose_text : K.lookup f_Loose_text = some ⟨oc_Loose_text, od_Loose_text, .func (PySem.W.fnOf "text" "Loose.text" (defArgs s_Loose_text) (defBody s_Loose_text) (defScope s_Loose_text) .none kV_Loose_text dc_Loose_text pm_Loose_text an_Loose_text cd_Loose_text ct_Loose_text), sl_Loose_text⟩) (c_Loose_text : PySem.W.codeIn K cd_Loose_text "Loose.text" = true) (k_Loose_text : PySem.W.keepIn K (.ref f_Loose_text) = true)
    {f_Duel_text : Addr} {od_Duel_text an_Duel_text : Option Addr} {sl_Duel_text : Array (Option Value)} {oc_Duel_text kV_Duel_text dc_Duel_text pm_Duel_text cd_Duel_text ct_Duel_text : Value}
    (a_Duel_text : PySem.W.findIn K (.ref C_Duel) "text" = some (some (.ref f_Duel_text))) (i_Duel_text : PySem.W.isFn K (.ref f_Duel_text) = true) (l_Duel_text : K.lookup f_Duel_text = some ⟨oc_Duel_text, od_Duel_text, .func (PySem.W.fnOf "text" "Duel.text" (defArgs s_Duel_text) (defBody s_Duel_text) (defScope s_Duel_text) .none kV_Duel_text dc_Duel_text pm_Duel_text an_Duel_text cd_Duel_text ct_Duel_text), sl_Duel_text⟩) (c_Duel_text : PySem.W.codeIn K cd_Duel_text "Duel.text" = true) (k_Duel_text : PySem.W.keepIn K (.ref f_Duel_text) = true)
    {f_Each_text : Addr} {od_Each_text an_Each_text : Option Addr} {sl_Each_text : Array (Option Value)} {oc_Each_text kV_Each_text dc_Each_text pm_Each_text cd_Each_text ct_Each_text : Value}
    (a_Each_text : PySem.W.findIn K (.ref C_Each) "text" = some (some (.ref f_Each_text))) (i_Each_text : PySem.W.isFn K (.ref f_Each_text) = true) (l_Each_text : K.lookup f_Each_text = some ⟨oc_Each_text, od_Each_text, .func (PySem.W.fnOf "text" "Each.text" (defArgs s_Each_text) (defBody s_Each_text) (defScope s_Each_text) .none kV_Each_text dc_Each_text pm_Each_text an_Each_text cd_Each_text ct_Each_text), sl_Each_text⟩) (c_Each_text : PySem.W.codeIn K cd_Each_text "Each.text" = true) (k_Each_text : PySem.W.keepIn K (.ref f_Each_text) = true)
    {f_First_text : Addr} {od_First_text an_First_text : Option Addr} {sl_First_text : Array (Option Value)} {oc_First_text kV_First_text dc_First_text pm_First_text cd_First_text ct_First_text : Value}
    (a_First_text : PySem.W.findIn K (.ref C_First) "text" = some (some (.ref f_First_text))) (i_First_text : PySem.W.isFn K (.ref f_First_text) = true) (l_First_text : K.lookup f_First_text = some ⟨oc_First_text, od_First_text, .func (PySem.W.fnOf "text" "First.text" (defArgs s_First_text) (defBody s_First_text) (defScope s_First_text) .none kV_First_text dc_First_text pm_First_text an_First_text cd_First_text ct_First_text), sl_First_text⟩) (c_First_text : PySem.W.codeIn K cd_First_text "First.text" = true) (k_First_text : PySem.W.keepIn K (.ref f_First_text) = true)
    {f__law_cell : Addr} {od__law_cell an__law_cell : Option Addr} {sl__law_cell : Array (Option Value)} {oc__law_cell kV__law_cell dc__law_cell pm__law_cell cd__law_cell ct__law_cell : Value}
    (a__law_cell : PySem.W.nsIn K mainGlobals "_law_cell" = some (some (.ref f__law_cell))) (l__law_cell : K.lookup f__law_cell = some ⟨oc__law_cell, od__law_cell, .func (PySem.W.fnOf "_law_cell" "_law_cell" (defArgs s__law_cell) (defBody s__law_cell) (defScope s__law_cell) .none kV__law_cell dc__law_cell pm__law_cell an__law_cell cd__law_cell ct__law_cell), sl__law_cell⟩) (c__law_cell : PySem.W.codeIn K cd__law_cell "_law_cell" = true) (k__law_cell : PySem.W.keepIn K (.ref f__law_cell) = true)
    {f__law_mixed : Addr} {od__law_mixed an__law_mixed : Option Addr} {sl__law_mixed : Array (Option Value)} {oc__law_mixed kV__law_mixed dc__law_mixed pm__law_mixed cd__law_mixed ct__law_mixed : Value}
    (a__law_mixed : PySem.W.nsIn K mainGlobals "_law_mixed" = some (some (.ref f__law_mixed))) (l__law_mixed : K.lookup f__law_mixed = some ⟨oc__law_mixed, od__law_mixed, .func (PySem.W.fnOf "_law_mixed" "_law_mixed" (defArgs s__law_mixed) (defBody s__law_mixed) (defScope s__law_mixed) .none kV__law_mixed dc__law_mixed pm__law_mixed an__law_mixed cd__law_mixed ct__law_mixed), sl__law_mixed⟩) (c__law_mixed : PySem.W.codeIn K cd__law_mixed "_law_mixed" = true) (k__law_mixed : PySem.W.keepIn K (.ref f__law_mixed) = true)
    {f__law_tree : Addr} {od__law_tree an__law_tree : Option Addr} {sl__law_tree : Array (Option Value)} {oc__law_tree kV__law_tree dc__law_tree pm__law_tree cd__law_tree ct__law_tree : Value}
    (a__law_tree : PySem.W.nsIn K mainGlobals "_law_tree" = some (some (.ref f__law_tree))) (l__law_tree : K.lookup f__law_tree = some ⟨oc__law_tree, od__law_tree, .func (PySem.W.fnOf "_law_tree" "_law_tree" (defArgs s__law_tree) (defBody s__law_tree) (defScope s__law_tree) .none kV__law_tree dc__law_tree pm__law_tree an__law_tree cd__law_tree ct__law_tree), sl__law_tree⟩) (c__law_tree : PySem.W.codeIn K cd__law_tree "_law_tree" = true) (k__law_tree : PySem.W.keepIn K (.ref f__law_tree) = true)
    {f__law_words : Addr} {od__law_words an__law_words : Option Addr} {sl__law_words : Array (Option Value)} {oc__law_words kV__law_words dc__law_words pm__law_words cd__law_words ct__law_words : Value}
    (a__law_words : PySem.W.nsIn K mainGlobals "_law_words" = some (some (.ref f__law_words))) (l__law_words : K.lookup f__law_words = some ⟨oc__law_words, od__law_words, .func (PySem.W.fnOf "_law_words" "_law_words" (defArgs s__law_words) (defBody s__law_words) (defScope s__law_words) .none kV__law_words dc__law_words pm__law_words an__law_words cd__law_words ct__law_words), sl__law_words⟩) (c__law_words : PySem.W.codeIn K cd__law_words "_law_words" = true) (k__law_words : PySem.W.keepIn K (.ref f__law_words) = true)
    {f__law_whole : Addr} {od__law_whole an__law_whole : Option Addr} {sl__law_whole : Array (Option Value)} {oc__law_whole kV__law_whole dc__law_whole pm__law_whole cd__law_whole ct__law_whole : Value}
    (a__law_whole : PySem.W.nsIn K mainGlobals "_law_whole" = some (some (.ref f__law_whole))) (l__law_whole : K.lookup f__law_whole = some ⟨oc__law_whole, od__law_whole, .func (PySem.W.fnOf "_law_whole" "_law_whole" (defArgs s__law_whole) (defBody s__law_whole) (defScope s__law_whole) .none kV__law_whole dc__law_whole pm__law_whole an__law_whole cd__law_whole ct__law_whole), sl__law_whole⟩) (c__law_whole : PySem.W.codeIn K cd__law_whole "_law_whole" = true) (k__law_whole : PySem.W.keepIn K (.ref f__law_whole) = true)
    {f__law_is : Addr} {od__law_is an__law_is : Option Addr} {sl__law_is : Array (Option Value)} {oc__law_is kV__law_is dc__law_is pm__law_is cd__law_is ct__law_is : Value}
    (a__law_is : PySem.W.nsIn K mainGlobals "_law_is" = some (some (.ref f__law_is))) (l__law_is : K.lookup f__law_is = some ⟨oc__law_is, od__law_is, .func (PySem.W.fnOf "_law_is" "_law_is" (defArgs s__law_is) (defBody s__law_is) (defScope s__law_is) .none kV__law_is dc__law_is pm__law_is an__law_is cd__law_is ct__law_is), sl__law_is⟩) (c__law_is : PySem.W.codeIn K cd__law_is "_law_is" = true) (k__law_is : PySem.W.keepIn K (.ref f__law_is) = true)
    {f__law_spoiled : Addr} {od__law_spoiled an__law_spoiled : Option Addr} {sl__law_spoiled : Array (Option Value)} {oc__law_spoiled kV__law_spoiled dc__law_spoiled pm__law_spoiled cd__law_spoiled ct__law_spoiled : Value}
    (a__law_spoiled : PySem.W.nsIn K mainGlobals "_law_spoiled" = some (some (.ref f__law_spoiled))) (l__law_spoiled : K.lookup f__law_spoiled = some ⟨oc__law_spoiled, od__law_spoiled, .func (PySem.W.fnOf "_law_spoiled" "_law_spoiled" (defArgs s__law_spoiled) (defBody s__law_spoiled) (defScope s__law_spoiled) .none kV__law_spoiled dc__law_spoiled pm__law_spoiled an__law_spoiled cd__law_spoiled ct__law_spoiled), sl__law_spoiled⟩) (c__law_spoiled : PySem.W.codeIn K cd__law_spoiled "_law_spoiled" = true) (k__law_spoiled : PySem.W.keepIn K (.ref f__law_spoiled) = true)
    {f__law_opens : Addr} {od__law_opens an__law_opens : Option Addr} {sl__law_opens : Array (Option Value)} {oc__law_opens kV__law_opens dc__law_opens pm__law_opens cd__law_opens ct__law_opens : Value}
    (a__law_opens : PySem.W.nsIn K mainGlobals "_law_opens" = some (some (.ref f__law_opens))) (l__law_opens : K.lookup f__law_opens = some ⟨oc__law_opens, od__law_opens, .func (PySem.W.fnOf "_law_opens" "_law_opens" (defArgs s__law_opens) (defBody s__law_opens) (defScope s__law_opens) .none kV__law_opens dc__law_opens pm__law_opens an__law_opens cd__law_opens ct__law_opens), sl__law_opens⟩) (c__law_opens : PySem.W.codeIn K cd__law_opens "_law_opens" = true) (k__law_opens : PySem.W.keepIn K (.ref f__law_opens) = true)
    {f__law_wrong : Addr} {od__law_wrong an__law_wrong : Option Addr} {sl__law_wrong : Array (Option Value)} {oc__law_wrong kV__law_wrong dc__law_wrong pm__law_wrong cd__law_wrong ct__law_wrong : Value}
    (a__law_wrong : PySem.W.nsIn K mainGlobals "_law_wrong" = some (some (.ref f__law_wrong))) (l__law_wrong : K.lookup f__law_wrong = some ⟨oc__law_wrong, od__law_wrong, .func (PySem.W.fnOf "_law_wrong" "_law_wrong" (defArgs s__law_wrong) (defBody s__law_wrong) (defScope s__law_wrong) .none kV__law_wrong dc__law_wrong pm__law_wrong an__law_wrong cd__law_wrong ct__law_wrong), sl__law_wrong⟩) (c__law_wrong : PySem.W.codeIn K cd__law_wrong "_law_wrong" = true) (k__law_wrong : PySem.W.keepIn K (.ref f__law_wrong) = true)
    {f__law_told : Addr} {od__law_told an__law_told : Option Addr} {sl__law_told : Array (Option Value)} {oc__law_told kV__law_told dc__law_told pm__law_told cd__law_told ct__law_told : Value}
    (a__law_told : PySem.W.nsIn K mainGlobals "_law_told" = some (some (.ref f__law_told))) (l__law_told : K.lookup f__law_told = some ⟨oc__law_told, od__law_told, .func (PySem.W.fnOf "_law_told" "_law_told" (defArgs s__law_told) (defBody s__law_told) (defScope s__law_told) .none kV__law_told dc__law_told pm__law_told an__law_told cd__law_told ct__law_told), sl__law_told⟩) (c__law_told : PySem.W.codeIn K cd__law_told "_law_told" = true) (k__law_told : PySem.W.keepIn K (.ref f__law_told) = true)
    {f__law_right : Addr} {od__law_right an__law_right : Option Addr} {sl__law_right : Array (Option Value)} {oc__law_right kV__law_right dc__law_right pm__law_right cd__law_right ct__law_right : Value}
    (a__law_right : PySem.W.nsIn K mainGlobals "_law_right" = some (some (.ref f__law_right))) (l__law_right : K.lookup f__law_right = some ⟨oc__law_right, od__law_right, .func (PySem.W.fnOf "_law_right" "_law_right" (defArgs s__law_right) (defBody s__law_right) (defScope s__law_right) .none kV__law_right dc__law_right pm__law_right an__law_right cd__law_right ct__law_right), sl__law_right⟩) (c__law_right : PySem.W.codeIn K cd__law_right "_law_right" = true) (k__law_right : PySem.W.keepIn K (.ref f__law_right) = true)
    {f_law : Addr} {od_law an_law : Option Addr} {sl_law : Array (Option Value)} {oc_law kV_law dc_law pm_law cd_law ct_law : Value}
    (a_law : PySem.W.nsIn K mainGlobals "law" = some (some (.ref f_law))) (l_law : K.lookup f_law = some ⟨oc_law, od_law, .func (PySem.W.fnOf "law" "law" (defArgs s_law) (defBody s_law) (defScope s_law) .none kV_law dc_law pm_law an_law cd_law ct_law), sl_law⟩) (c_law : PySem.W.codeIn K cd_law "law" = true) (k_law : PySem.W.keepIn K (.ref f_law) = true) : Txt K mg := by
  have e_SpeakError : cA mg "SpeakError" = C_SpeakError := cA_of (PySem.W.mg_of X G aC_SpeakError)
  have e_NoPlan : cA mg "NoPlan" = C_NoPlan := cA_of (PySem.W.mg_of X G aC_NoPlan)
  have e_Few : cA mg "Few" = C_Few := cA_of (PySem.W.mg_of X G aC_Few)
  have e_Start : cA mg "Start" = C_Start := cA_of (PySem.W.mg_of X G aC_Start)
  have e_Loose : cA mg "Loose" = C_Loose := cA_of (PySem.W.mg_of X G aC_Loose)
  have e_Duel : cA mg "Duel" = C_Duel := cA_of (PySem.W.mg_of X G aC_Duel)
  have e_Each : cA mg "Each" = C_Each := cA_of (PySem.W.mg_of X G aC_Each)
  have e_First : cA mg "First" = C_First := cA_of (PySem.W.mg_of X G aC_First)
  have e_Words : cA mg "Words" = C_Words := cA_of (PySem.W.mg_of X G aC_Words)
  have e_Plan : cA mg "Plan" = C_Plan := cA_of (PySem.W.mg_of X G aC_Plan)
  have e_NoLevel : cA mg "NoLevel" = C_NoLevel := cA_of (PySem.W.mg_of X G aC_NoLevel)
  have e_NoListing : cA mg "NoListing" = C_NoListing := cA_of (PySem.W.mg_of X G aC_NoListing)
  have e_NoThrow : cA mg "NoThrow" = C_NoThrow := cA_of (PySem.W.mg_of X G aC_NoThrow)
  have e_NoUnits : cA mg "NoUnits" = C_NoUnits := cA_of (PySem.W.mg_of X G aC_NoUnits)
  exact ⟨(PySem.W.mg_none_of X G z_n_bool), (PySem.W.mg_none_of X G z_n_int), (PySem.W.mg_none_of X G z_n_isinstance), (PySem.W.mg_none_of X G z_n_len), (⟨_, PySem.W.mg_of X G z_g_FIGURES, y_g_FIGURES⟩), (by rw [e_SpeakError]; exact PySem.W.mg_of X G aC_SpeakError), (by rw [e_SpeakError]; exact ⟨bi0_SpeakError, bi1_SpeakError, bi2_SpeakError⟩), (by rw [e_NoPlan]; exact PySem.W.mg_of X G aC_NoPlan), (by rw [e_NoPlan]; exact ⟨ox_NoPlan, o0_NoPlan, o1_NoPlan, o2_NoPlan, o3_NoPlan⟩), (by rw [e_NoPlan]; exact na_NoPlan_place), (by rw [e_Few]; exact PySem.W.mg_of X G aC_Few), (by rw [e_Few]; exact ⟨pg_Few, hd_Few, po_Few, sa_Few⟩), (by rw [e_Few]; exact na_Few_many), (⟨_, PySem.W.mg_of X G z_g_MOST_DRAWN_plans, y_g_MOST_DRAWN_plans⟩), (by rw [e_Start]; exact PySem.W.mg_of X G aC_Start), (by rw [e_Start]; exact ⟨pg_Start, hd_Start, po_Start, sa_Start⟩), (by rw [e_Start]; exact na_Start_step), (⟨_, PySem.W.mg_of X G z_g_MOST_STEP_plans, y_g_MOST_STEP_plans⟩), (by rw [e_Loose]; exact PySem.W.mg_of X G aC_Loose), (by rw [e_Loose]; exact ⟨pg_Loose, hd_Loose, po_Loose, sa_Loose⟩), (by rw [e_Loose]; exact na_Loose_many), (by rw [e_Duel]; exact PySem.W.mg_of X G aC_Duel), (by rw [e_Duel]; exact ⟨pg_Duel, hd_Duel, po_Duel, sa_Duel⟩), (by rw [e_Duel]; exact na_Duel_many), (by rw [e_Each]; exact PySem.W.mg_of X G aC_Each), (by rw [e_Each]; exact ⟨pg_Each, hd_Each, po_Each, sa_Each⟩), (by rw [e_Each]; exact na_Each_inside), (by rw [e_First]; exact PySem.W.mg_of X G aC_First), (by rw [e_First]; exact ⟨pg_First, hd_First, po_First, sa_First⟩), (by rw [e_First]; exact na_First_outside), (by rw [e_First]; exact na_First_inside), (by rw [e_Words]; exact PySem.W.mg_of X G aC_Words), (by rw [e_Words]; exact ⟨pg_Words, hd_Words, po_Words, sa_Words⟩), (by rw [e_Words]; exact na_Words_words), (by rw [e_Words]; exact na_Words_at), (⟨_, PySem.W.mg_of X G z_g_DEEPEST, y_g_DEEPEST⟩), (⟨_, PySem.W.mg_of X G z_g_MOST_DRAWN_plantexts, y_g_MOST_DRAWN_plantexts⟩), (⟨_, PySem.W.mg_of X G z_g_MOST_STEP_plantexts, y_g_MOST_STEP_plantexts⟩), (PySem.W.mg_none_of X G z_n_str), (by rw [e_Plan]; exact PySem.W.mg_of X G aC_Plan), (PySem.W.mg_none_of X G z_n_enumerate), (PySem.W.mg_none_of X G z_n_range), (by rw [e_NoLevel]; exact PySem.W.mg_of X G aC_NoLevel), (by rw [e_NoListing]; exact PySem.W.mg_of X G aC_NoListing), (by rw [e_NoThrow]; exact PySem.W.mg_of X G aC_NoThrow), (by rw [e_NoUnits]; exact PySem.W.mg_of X G aC_NoUnits), (by rw [e_SpeakError]; exact ⟨yb_SpeakError, yi_SpeakError, yt_SpeakError⟩), (by rw [e_NoPlan]; exact ⟨z0_NoPlan, z1_NoPlan, z2_NoPlan, z3_NoPlan, z4_NoPlan, z5_NoPlan, z6_NoPlan, z7_NoPlan⟩), (PySem.W.mg_none_of X G z_n_max), (PySem.W.mg_none_of X G z_n_min), (by rw [e_NoPlan]; exact ⟨yb_NoPlan, yi_NoPlan, yt_NoPlan⟩), (by rw [e_NoLevel]; exact ⟨yb_NoLevel, yi_NoLevel, yt_NoLevel⟩), (by rw [e_NoListing]; exact ⟨yb_NoListing, yi_NoListing, yt_NoListing⟩), (by rw [e_NoThrow]; exact ⟨yb_NoThrow, yi_NoThrow, yt_NoThrow⟩), (by rw [e_NoUnits]; exact ⟨yb_NoUnits, yi_NoUnits, yt_NoUnits⟩), (by rw [e_NoPlan]; exact es_NoPlan_NoPlan), (by rw [e_NoPlan, e_SpeakError]; exact es_NoPlan_SpeakError), (by rw [e_NoPlan, e_NoLevel]; exact es_NoPlan_NoLevel), (by rw [e_NoPlan, e_NoListing]; exact es_NoPlan_NoListing), (by rw [e_NoPlan, e_NoThrow]; exact es_NoPlan_NoThrow), (by rw [e_NoPlan, e_NoUnits]; exact es_NoPlan_NoUnits), (by rw [e_Few]; exact ⟨ic0_Few, ic1_Few, ic2_Few, ic3_Few⟩), (by rw [e_Start]; exact ⟨ic0_Start, ic1_Start, ic2_Start, ic3_Start⟩), (by rw [e_Loose]; exact ⟨ic0_Loose, ic1_Loose, ic2_Loose, ic3_Loose⟩), (by rw [e_Duel]; exact ⟨ic0_Duel, ic1_Duel, ic2_Duel, ic3_Duel⟩), (by rw [e_Each]; exact ⟨ic0_Each, ic1_Each, ic2_Each, ic3_Each⟩), (by rw [e_First]; exact ⟨ic0_First, ic1_First, ic2_First, ic3_First⟩), (by rw [e_Few]; exact ⟨cti_Few, ctt_Few⟩), (by rw [e_Start]; exact ⟨cti_Start, ctt_Start⟩), (by rw [e_Loose]; exact ⟨cti_Loose, ctt_Loose⟩), (by rw [e_Duel]; exact ⟨cti_Duel, ctt_Duel⟩), (by rw [e_Each]; exact ⟨cti_Each, ctt_Each⟩), (by rw [e_First]; exact ⟨cti_First, ctt_First⟩), (by rw [e_Plan]; exact ⟨cti_Plan, ctt_Plan⟩), (by rw [e_Few]; exact es_Few_Few), (by rw [e_Few, e_Start]; exact es_Few_Start), (by rw [e_Few, e_Loose]; exact es_Few_Loose), (by rw [e_Few, e_Duel]; exact es_Few_Duel), (by rw [e_Few, e_Each]; exact es_Few_Each), (by rw [e_Few, e_First]; exact es_Few_First), (by rw [e_Few, e_Plan]; exact es_Few_Plan), (by rw [e_Start, e_Few]; exact es_Start_Few), (by rw [e_Start]; exact es_Start_Start), (by rw [e_Start, e_Loose]; exact es_Start_Loose), (by rw [e_Start, e_Duel]; exact es_Start_Duel), (by rw [e_Start, e_Each]; exact es_Start_Each), (by rw [e_Start, e_First]; exact es_Start_First), (by rw [e_Start, e_Plan]; exact es_Start_Plan), (by rw [e_Loose, e_Few]; exact es_Loose_Few), (by rw [e_Loose, e_Start]; exact es_Loose_Start), (by rw [e_Loose]; exact es_Loose_Loose), (by rw [e_Loose, e_Duel]; exact es_Loose_Duel), (by rw [e_Loose, e_Each]; exact es_Loose_Each), (by rw [e_Loose, e_First]; exact es_Loose_First), (by rw [e_Loose, e_Plan]; exact es_Loose_Plan), (by rw [e_Duel, e_Few]; exact es_Duel_Few), (by rw [e_Duel, e_Start]; exact es_Duel_Start), (by rw [e_Duel, e_Loose]; exact es_Duel_Loose), (by rw [e_Duel]; exact es_Duel_Duel), (by rw [e_Duel, e_Each]; exact es_Duel_Each), (by rw [e_Duel, e_First]; exact es_Duel_First), (by rw [e_Duel, e_Plan]; exact es_Duel_Plan), (by rw [e_Each, e_Few]; exact es_Each_Few), (by rw [e_Each, e_Start]; exact es_Each_Start), (by rw [e_Each, e_Loose]; exact es_Each_Loose), (by rw [e_Each, e_Duel]; exact es_Each_Duel), (by rw [e_Each]; exact es_Each_Each), (by rw [e_Each, e_First]; exact es_Each_First), (by rw [e_Each, e_Plan]; exact es_Each_Plan), (by rw [e_First, e_Few]; exact es_First_Few), (by rw [e_First, e_Start]; exact es_First_Start), (by rw [e_First, e_Loose]; exact es_First_Loose), (by rw [e_First, e_Duel]; exact es_First_Duel), (by rw [e_First, e_Each]; exact es_First_Each), (by rw [e_First]; exact es_First_First), (by rw [e_First, e_Plan]; exact es_First_Plan), (⟨f_is_whole, _, fun_mk (st := s_is_whole) l_is_whole c_is_whole k_is_whole, PySem.W.mg_of X G a_is_whole, (fun_mk (st := s_is_whole) l_is_whole c_is_whole k_is_whole).binds (ps := ["thing", "low", "high"]) fun _ _ _ _ _ _ us hl => match us, hl with | [_, _, _], _ => rfl⟩), (⟨f_are_figures, _, fun_mk (st := s_are_figures) l_are_figures c_are_figures k_are_figures, PySem.W.mg_of X G a_are_figures, (fun_mk (st := s_are_figures) l_are_figures c_are_figures k_are_figures).binds (ps := ["text"]) fun _ _ _ _ _ _ us hl => match us, hl with | [_], _ => rfl⟩), (⟨f_number_of, _, fun_mk (st := s_number_of) l_number_of c_number_of k_number_of, PySem.W.mg_of X G a_number_of, (fun_mk (st := s_number_of) l_number_of c_number_of k_number_of).binds (ps := ["text", "low", "high"]) fun _ _ _ _ _ _ us hl => match us, hl with | [_, _, _], _ => rfl⟩), (by rw [e_NoPlan]; exact ⟨f_NoPlan___init__, _, fun_mk (st := s_NoPlan___init__) l_NoPlan___init__ c_NoPlan___init__ k_NoPlan___init__, a_NoPlan___init__, i_NoPlan___init__, (fun_mk (st := s_NoPlan___init__) l_NoPlan___init__ c_NoPlan___init__ k_NoPlan___init__).binds (ps := ["self", "place"]) fun _ _ _ _ _ _ us hl => match us, hl with | [_, _], _ => rfl⟩), (by rw [e_Few]; exact ⟨f_Few___init__, _, fun_mk (st := s_Few___init__) l_Few___init__ c_Few___init__ k_Few___init__, ⟨mk_Few, a_Few___init__, i_Few___init__, kc_Few⟩, (fun_mk (st := s_Few___init__) l_Few___init__ c_Few___init__ k_Few___init__).binds (ps := ["self", "many"]) fun _ _ _ _ _ _ us hl => match us, hl with | [_, _], _ => rfl⟩), (by rw [e_Start]; exact ⟨f_Start___init__, _, fun_mk (st := s_Start___init__) l_Start___init__ c_Start___init__ k_Start___init__, ⟨mk_Start, a_Start___init__, i_Start___init__, kc_Start⟩, (fun_mk (st := s_Start___init__) l_Start___init__ c_Start___init__ k_Start___init__).binds (ps := ["self", "step"]) fun _ _ _ _ _ _ us hl => match us, hl with | [_, _], _ => rfl⟩), (by rw [e_Loose]; exact ⟨f_Loose___init__, _, fun_mk (st := s_Loose___init__) l_Loose___init__ c_Loose___init__ k_Loose___init__, ⟨mk_Loose, a_Loose___init__, i_Loose___init__, kc_Loose⟩, (fun_mk (st := s_Loose___init__) l_Loose___init__ c_Loose___init__ k_Loose___init__).binds (ps := ["self", "many"]) fun _ _ _ _ _ _ us hl => match us, hl with | [_, _], _ => rfl⟩), (by rw [e_Duel]; exact ⟨f_Duel___init__, _, fun_mk (st := s_Duel___init__) l_Duel___init__ c_Duel___init__ k_Duel___init__, ⟨mk_Duel, a_Duel___init__, i_Duel___init__, kc_Duel⟩, (fun_mk (st := s_Duel___init__) l_Duel___init__ c_Duel___init__ k_Duel___init__).binds (ps := ["self", "many"]) fun _ _ _ _ _ _ us hl => match us, hl with | [_, _], _ => rfl⟩), (by rw [e_Each]; exact ⟨f_Each___init__, _, fun_mk (st := s_Each___init__) l_Each___init__ c_Each___init__ k_Each___init__, ⟨mk_Each, a_Each___init__, i_Each___init__, kc_Each⟩, (fun_mk (st := s_Each___init__) l_Each___init__ c_Each___init__ k_Each___init__).binds (ps := ["self", "inside"]) fun _ _ _ _ _ _ us hl => match us, hl with | [_, _], _ => rfl⟩), (by rw [e_First]; exact ⟨f_First___init__, _, fun_mk (st := s_First___init__) l_First___init__ c_First___init__ k_First___init__, ⟨mk_First, a_First___init__, i_First___init__, kc_First⟩, (fun_mk (st := s_First___init__) l_First___init__ c_First___init__ k_First___init__).binds (ps := ["self", "outside", "inside"]) fun _ _ _ _ _ _ us hl => match us, hl with | [_, _, _], _ => rfl⟩), (by rw [e_Words]; exact ⟨f_Words___init__, _, fun_mk (st := s_Words___init__) l_Words___init__ c_Words___init__ k_Words___init__, ⟨mk_Words, a_Words___init__, i_Words___init__, kc_Words⟩, (fun_mk (st := s_Words___init__) l_Words___init__ c_Words___init__ k_Words___init__).binds (ps := ["self", "words"]) fun _ _ _ _ _ _ us hl => match us, hl with | [_, _], _ => rfl⟩), (by rw [e_Words]; exact ⟨f_Words_here, _, fun_mk (st := s_Words_here) l_Words_here c_Words_here k_Words_here, ⟨a_Words_here, i_Words_here, k_Words_here⟩, (fun_mk (st := s_Words_here) l_Words_here c_Words_here k_Words_here).binds (ps := ["self"]) fun _ _ _ _ _ _ us hl => match us, hl with | [_], _ => rfl⟩), (by rw [e_Words]; exact ⟨f_Words_go_by, _, fun_mk (st := s_Words_go_by) l_Words_go_by c_Words_go_by k_Words_go_by, ⟨a_Words_go_by, i_Words_go_by, k_Words_go_by⟩, (fun_mk (st := s_Words_go_by) l_Words_go_by c_Words_go_by k_Words_go_by).binds (ps := ["self", "word"]) fun _ _ _ _ _ _ us hl => match us, hl with | [_, _], _ => rfl⟩), (by rw [e_Words]; exact ⟨f_Words_take_number, _, fun_mk (st := s_Words_take_number) l_Words_take_number c_Words_take_number k_Words_take_number, ⟨a_Words_take_number, i_Words_take_number, k_Words_take_number⟩, (fun_mk (st := s_Words_take_number) l_Words_take_number c_Words_take_number k_Words_take_number).binds (ps := ["self", "low", "high"]) fun _ _ _ _ _ _ us hl => match us, hl with | [_, _, _], _ => rfl⟩), (by rw [e_Words]; exact ⟨f_Words_take_plan, _, fun_mk (st := s_Words_take_plan) l_Words_take_plan c_Words_take_plan k_Words_take_plan, ⟨a_Words_take_plan, i_Words_take_plan, k_Words_take_plan⟩, (fun_mk (st := s_Words_take_plan) l_Words_take_plan c_Words_take_plan k_Words_take_plan).binds (ps := ["self", "deep"]) fun _ _ _ _ _ _ us hl => match us, hl with | [_, _], _ => rfl⟩), (by rw [e_Words]; exact ⟨f_Words_take_wide, _, fun_mk (st := s_Words_take_wide) l_Words_take_wide c_Words_take_wide k_Words_take_wide, ⟨a_Words_take_wide, i_Words_take_wide, k_Words_take_wide⟩, (fun_mk (st := s_Words_take_wide) l_Words_take_wide c_Words_take_wide k_Words_take_wide).binds (ps := ["self", "word", "deep"]) fun _ _ _ _ _ _ us hl => match us, hl with | [_, _, _], _ => rfl⟩), (by rw [e_Words]; exact ⟨f_Words_take_inner, _, fun_mk (st := s_Words_take_inner) l_Words_take_inner c_Words_take_inner k_Words_take_inner, ⟨a_Words_take_inner, i_Words_take_inner, k_Words_take_inner⟩, (fun_mk (st := s_Words_take_inner) l_Words_take_inner c_Words_take_inner k_Words_take_inner).binds (ps := ["self", "deep"]) fun _ _ _ _ _ _ us hl => match us, hl with | [_, _], _ => rfl⟩), (⟨f_plan_of, _, fun_mk (st := s_plan_of) l_plan_of c_plan_of k_plan_of, PySem.W.mg_of X G a_plan_of, (fun_mk (st := s_plan_of) l_plan_of c_plan_of k_plan_of).binds (ps := ["text"]) fun _ _ _ _ _ _ us hl => match us, hl with | [_], _ => rfl⟩), (by rw [e_Few]; exact ⟨f_Few_text, _, fun_mk (st := s_Few_text) l_Few_text c_Few_text k_Few_text, ⟨a_Few_text, i_Few_text, k_Few_text⟩, (fun_mk (st := s_Few_text) l_Few_text c_Few_text k_Few_text).binds (ps := ["self"]) fun _ _ _ _ _ _ us hl => match us, hl with | [_], _ => rfl⟩), (by rw [e_Start]; exact ⟨f_Start_text, _, fun_mk (st := s_Start_text) l_Start_text c_Start_text k_Start_text, ⟨a_Start_text, i_Start_text, k_Start_text⟩, (fun_mk (st := s_Start_text) l_Start_text c_Start_text k_Start_text).binds (ps := ["self"]) fun _ _ _ _ _ _ us hl => match us, hl with | [_], _ => rfl⟩), (by rw [e_Loose]; exact ⟨f_Loose_text, _, fun_mk (st := s_Loose_text) l_Loose_text c_Loose_text k_Loose_text, ⟨a_Loose_text, i_Loose_text, k_Loose_text⟩, (fun_mk (st := s_Loose_text) l_Loose_text c_Loose_text k_Loose_text).binds (ps := ["self"]) fun _ _ _ _ _ _ us hl => match us, hl with | [_], _ => rfl⟩), (by rw [e_Duel]; exact ⟨f_Duel_text, _, fun_mk (st := s_Duel_text) l_Duel_text c_Duel_text k_Duel_text, ⟨a_Duel_text, i_Duel_text, k_Duel_text⟩, (fun_mk (st := s_Duel_text) l_Duel_text c_Duel_text k_Duel_text).binds (ps := ["self"]) fun _ _ _ _ _ _ us hl => match us, hl with | [_], _ => rfl⟩), (by rw [e_Each]; exact ⟨f_Each_text, _, fun_mk (st := s_Each_text) l_Each_text c_Each_text k_Each_text, ⟨a_Each_text, i_Each_text, k_Each_text⟩, (fun_mk (st := s_Each_text) l_Each_text c_Each_text k_Each_text).binds (ps := ["self"]) fun _ _ _ _ _ _ us hl => match us, hl with | [_], _ => rfl⟩), (by rw [e_First]; exact ⟨f_First_text, _, fun_mk (st := s_First_text) l_First_text c_First_text k_First_text, ⟨a_First_text, i_First_text, k_First_text⟩, (fun_mk (st := s_First_text) l_First_text c_First_text k_First_text).binds (ps := ["self"]) fun _ _ _ _ _ _ us hl => match us, hl with | [_], _ => rfl⟩), (⟨f__law_cell, _, fun_mk (st := s__law_cell) l__law_cell c__law_cell k__law_cell, PySem.W.mg_of X G a__law_cell, (fun_mk (st := s__law_cell) l__law_cell c__law_cell k__law_cell).binds (ps := ["_law_script", "_law_k"]) fun _ _ _ _ _ _ us hl => match us, hl with | [_, _], _ => rfl⟩), (⟨f__law_mixed, _, fun_mk (st := s__law_mixed) l__law_mixed c__law_mixed k__law_mixed, PySem.W.mg_of X G a__law_mixed, (fun_mk (st := s__law_mixed) l__law_mixed c__law_mixed k__law_mixed).binds (ps := ["_law_cell_here", "_law_k"]) fun _ _ _ _ _ _ us hl => match us, hl with | [_, _], _ => rfl⟩), (⟨f__law_tree, _, fun_mk (st := s__law_tree) l__law_tree c__law_tree k__law_tree, PySem.W.mg_of X G a__law_tree, (fun_mk (st := s__law_tree) l__law_tree c__law_tree k__law_tree).binds (ps := ["_law_number", "_law_deep", "_law_wide"]) fun _ _ _ _ _ _ us hl => match us, hl with | [_, _, _], _ => rfl⟩), (⟨f__law_words, _, fun_mk (st := s__law_words) l__law_words c__law_words k__law_words, PySem.W.mg_of X G a__law_words, (fun_mk (st := s__law_words) l__law_words c__law_words k__law_words).binds (ps := ["_law_tree_here"]) fun _ _ _ _ _ _ us hl => match us, hl with | [_], _ => rfl⟩), (⟨f__law_whole, _, fun_mk (st := s__law_whole) l__law_whole c__law_whole k__law_whole, PySem.W.mg_of X G a__law_whole, (fun_mk (st := s__law_whole) l__law_whole c__law_whole k__law_whole).binds (ps := ["_law_found", "_law_due"]) fun _ _ _ _ _ _ us hl => match us, hl with | [_, _], _ => rfl⟩), (⟨f__law_is, _, fun_mk (st := s__law_is) l__law_is c__law_is k__law_is, PySem.W.mg_of X G a__law_is, (fun_mk (st := s__law_is) l__law_is c__law_is k__law_is).binds (ps := ["_law_plan", "_law_tree_here"]) fun _ _ _ _ _ _ us hl => match us, hl with | [_, _], _ => rfl⟩), (⟨f__law_spoiled, _, fun_mk (st := s__law_spoiled) l__law_spoiled c__law_spoiled k__law_spoiled, PySem.W.mg_of X G a__law_spoiled, (fun_mk (st := s__law_spoiled) l__law_spoiled c__law_spoiled k__law_spoiled).binds (ps := ["_law_words_here", "_law_cell_here"]) fun _ _ _ _ _ _ us hl => match us, hl with | [_, _], _ => rfl⟩), (⟨f__law_opens, _, fun_mk (st := s__law_opens) l__law_opens c__law_opens k__law_opens, PySem.W.mg_of X G a__law_opens, (fun_mk (st := s__law_opens) l__law_opens c__law_opens k__law_opens).binds (ps := ["_law_word", "_law_deep"]) fun _ _ _ _ _ _ us hl => match us, hl with | [_, _], _ => rfl⟩), (⟨f__law_wrong, _, fun_mk (st := s__law_wrong) l__law_wrong c__law_wrong k__law_wrong, PySem.W.mg_of X G a__law_wrong, (fun_mk (st := s__law_wrong) l__law_wrong c__law_wrong k__law_wrong).binds (ps := ["_law_words_here"]) fun _ _ _ _ _ _ us hl => match us, hl with | [_], _ => rfl⟩), (⟨f__law_told, _, fun_mk (st := s__law_told) l__law_told c__law_told k__law_told, PySem.W.mg_of X G a__law_told, (fun_mk (st := s__law_told) l__law_told c__law_told k__law_told).binds (ps := ["_law_text"]) fun _ _ _ _ _ _ us hl => match us, hl with | [_], _ => rfl⟩), (⟨f__law_right, _, fun_mk (st := s__law_right) l__law_right c__law_right k__law_right, PySem.W.mg_of X G a__law_right, (fun_mk (st := s__law_right) l__law_right c__law_right k__law_right).binds (ps := ["_law_words_here"]) fun _ _ _ _ _ _ us hl => match us, hl with | [_], _ => rfl⟩), (⟨f_law, _, fun_mk (st := s_law) l_law c_law k_law, PySem.W.mg_of X G a_law, (fun_mk (st := s_law) l_law c_law k_law).binds (ps := ["_law_script"]) fun _ _ _ _ _ _ us hl => match us, hl with | [_], _ => rfl⟩)⟩
theorem law_mk {P : Program} {w : World} {K : PySem.W.Frag} {mg : Str → Option Value} {fa : Addr} (T : Txt K mg) (hfa : mg "law" = some (.ref fa)) :
    ∃ fd : FuncData, (∀ (s : Shared) (v : Value), BindsTo s fd ⟨[v], []⟩ [("_law_script", v)]) ∧ ∀ base : Heap, K.In base → base.Ns mainGlobals mg → FnOk P w K mg base CX0 18 fa fd ["_law_script"] (sp_law K mg) := by
  obtain ⟨f, fd, F, hm, b⟩ := T.d_law.ex
  have e := hfa.symm.trans hm
  cases e
  refine ⟨fd, fun s v => ?_, fun base _ _ => c_law T F⟩
  obtain ⟨oc, od, kV, doc, pm, an, cdv, ct, osl, rfl, lk, hcd⟩ := F.ex
  exact .of_eq rfl
end My
open PySem PySem.W PyProof.Rows
set_option maxRecDepth 100000 in
set_option maxHeartbeats 0 in
theorem PySem.Challenge.cw_fewspeak_k41_plans_as_texts_holds : PySem.Challenge.rw_fewspeak_k41_plans_as_texts.Holds := by
  w_on; o_law; k_head; (case hw => w_witness2)
  k_fill
  refine L2.walk_ofB (l := PySem.Challenge.rw_fewspeak_k41_plans_as_texts) (n := 63) (k := 18) (x := "_law_script") (CX := fun _ => L2.CX0) (sp := fun w => My.sp_law _ (fun _ => none)) rfl (by decide) rfl ⟨rfl, by decide, by decide⟩ (fun w h Y => PySem.W.kIn_of Y) ?F (fun _ _ a ns hl hb _ hS => ⟨ns, hS, hl, hb, fun _ => rfl⟩) (fun _ _ _ _ _ h => h)
  case F =>
    intro w mg fa h KX G hmg
    refine' My.law_mk (My.txt_mk KX G ?z_n_bool ?z_n_int ?z_n_isinstance ?z_n_len ?z_g_FIGURES ?y_g_FIGURES ?aC_SpeakError ?bi0_SpeakError ?bi1_SpeakError ?bi2_SpeakError ?aC_NoPlan ?ox_NoPlan ?o0_NoPlan ?o1_NoPlan ?o2_NoPlan ?o3_NoPlan ?na_NoPlan_place ?aC_Few ?pg_Few ?hd_Few ?po_Few ?sa_Few ?mk_Few ?kc_Few ?na_Few_many ?z_g_MOST_DRAWN_plans ?y_g_MOST_DRAWN_plans ?aC_Start ?pg_Start ?hd_Start ?po_Start ?sa_Start ?mk_Start ?kc_Start ?na_Start_step ?z_g_MOST_STEP_plans ?y_g_MOST_STEP_plans ?aC_Loose ?pg_Loose ?hd_Loose ?po_Loose ?sa_Loose ?mk_Loose ?kc_Loose ?na_Loose_many ?aC_Duel ?pg_Duel ?hd_Duel ?po_Duel ?sa_Duel ?mk_Duel ?kc_Duel ?na_Duel_many ?aC_Each ?pg_Each ?hd_Each ?po_Each ?sa_Each ?mk_Each ?kc_Each ?na_Each_inside ?aC_First ?pg_First ?hd_First ?po_First ?sa_First ?mk_First ?kc_First ?na_First_outside ?na_First_inside ?aC_Words ?pg_Words ?hd_Words ?po_Words ?sa_Words ?mk_Words ?kc_Words ?na_Words_words ?na_Words_at ?z_g_DEEPEST ?y_g_DEEPEST ?z_g_MOST_DRAWN_plantexts ?y_g_MOST_DRAWN_plantexts ?z_g_MOST_STEP_plantexts ?y_g_MOST_STEP_plantexts ?z_n_str ?aC_Plan ?z_n_enumerate ?z_n_range ?aC_NoLevel ?aC_NoListing ?aC_NoThrow ?aC_NoUnits ?yb_SpeakError ?yi_SpeakError ?yt_SpeakError ?z0_NoPlan ?z1_NoPlan ?z2_NoPlan ?z3_NoPlan ?z4_NoPlan ?z5_NoPlan ?z6_NoPlan ?z7_NoPlan ?z_n_max ?z_n_min ?yb_NoPlan ?yi_NoPlan ?yt_NoPlan ?yb_NoLevel ?yi_NoLevel ?yt_NoLevel ?yb_NoListing ?yi_NoListing ?yt_NoListing ?yb_NoThrow ?yi_NoThrow ?yt_NoThrow ?yb_NoUnits ?yi_NoUnits ?yt_NoUnits ?es_NoPlan_NoPlan ?es_NoPlan_SpeakError ?es_NoPlan_NoLevel ?es_NoPlan_NoListing ?es_NoPlan_NoThrow ?es_NoPlan_NoUnits ?ic0_Few ?ic1_Few ?ic2_Few ?ic3_Few ?ic0_Start ?ic1_Start ?ic2_Start ?ic3_Start ?ic0_Loose ?ic1_Loose ?ic2_Loose ?ic3_Loose ?ic0_Duel ?ic1_Duel ?ic2_Duel ?ic3_Duel ?ic0_Each ?ic1_Each ?ic2_Each ?ic3_Each ?ic0_First ?ic1_First ?ic2_First ?ic3_First ?cti_Few ?ctt_Few ?cti_Start ?ctt_Start ?cti_Loose ?ctt_Loose ?cti_Duel ?ctt_Duel ?cti_Each ?ctt_Each ?cti_First ?ctt_First ?cti_Plan ?ctt_Plan ?es_Few_Few ?es_Few_Start ?es_Few_Loose ?es_Few_Duel ?es_Few_Each ?es_Few_First ?es_Few_Plan ?es_Start_Few ?es_Start_Start ?es_Start_Loose ?es_Start_Duel ?es_Start_Each ?es_Start_First ?es_Start_Plan ?es_Loose_Few ?es_Loose_Start ?es_Loose_Loose ?es_Loose_Duel ?es_Loose_Each ?es_Loose_First ?es_Loose_Plan ?es_Duel_Few ?es_Duel_Start ?es_Duel_Loose ?es_Duel_Duel ?es_Duel_Each ?es_Duel_First ?es_Duel_Plan ?es_Each_Few ?es_Each_Start ?es_Each_Loose ?es_Each_Duel ?es_Each_Each ?es_Each_First ?es_Each_Plan ?es_First_Few ?es_First_Start ?es_First_Loose ?es_First_Duel ?es_First_Each ?es_First_First ?es_First_Plan ?a_is_whole ?l_is_whole ?c_is_whole ?k_is_whole ?a_are_figures ?l_are_figures ?c_are_figures ?k_are_figures ?a_number_of ?l_number_of ?c_number_of ?k_number_of ?a_NoPlan___init__ ?i_NoPlan___init__ ?l_NoPlan___init__ ?c_NoPlan___init__ ?k_NoPlan___init__ ?a_Few___init__ ?i_Few___init__ ?l_Few___init__ ?c_Few___init__ ?k_Few___init__ ?a_Start___init__ ?i_Start___init__ ?l_Start___init__ ?c_Start___init__ ?k_Start___init__ ?a_Loose___init__ ?i_Loose___init__ ?l_Loose___init__ ?c_Loose___init__ ?k_Loose___init__ ?a_Duel___init__ ?i_Duel___init__ ?l_Duel___init__ ?c_Duel___init__ ?k_Duel___init__ ?a_Each___init__ ?i_Each___init__ ?l_Each___init__ ?c_Each___init__ ?k_Each___init__ ?a_First___init__ ?i_First___init__ ?l_First___init__ ?c_First___init__ ?k_First___init__ ?a_Words___init__ ?i_Words___init__ ?l_Words___init__ ?c_Words___init__ ?k_Words___init__ ?a_Words_here ?i_Words_here ?l_Words_here ?c_Words_here ?k_Words_here ?a_Words_go_by ?i_Words_go_by ?l_Words_go_by ?c_Words_go_by ?k_Words_go_by ?a_Words_take_number ?i_Words_take_number ?l_Words_take_number ?c_Words_take_number ?k_Words_take_number ?a_Words_take_plan ?i_Words_take_plan ?l_Words_take_plan ?c_Words_take_plan ?k_Words_take_plan ?a_Words_take_wide ?i_Words_take_wide ?l_Words_take_wide ?c_Words_take_wide ?k_Words_take_wide ?a_Words_take_inner ?i_Words_take_inner ?l_Words_take_inner ?c_Words_take_inner ?k_Words_take_inner ?a_plan_of ?l_plan_of ?c_plan_of ?k_plan_of ?a_Few_text ?i_Few_text ?l_Few_text ?c_Few_text ?k_Few_text ?a_Start_text ?i_Start_text ?l_Start_text ?c_Start_text ?k_Start_text ?a_Loose_text ?i_Loose_text ?l_Loose_text ?c_Loose_text ?k_Loose_text ?a_Duel_text ?i_Duel_text ?l_Duel_text ?c_Duel_text ?k_Duel_text ?a_Each_text ?i_Each_text ?l_Each_text ?c_Each_text ?k_Each_text ?a_First_text ?i_First_text ?l_First_text ?c_First_text ?k_First_text ?a__law_cell ?l__law_cell ?c__law_cell ?k__law_cell ?a__law_mixed ?l__law_mixed ?c__law_mixed ?k__law_mixed ?a__law_tree ?l__law_tree ?c__law_tree ?k__law_tree ?a__law_words ?l__law_words ?c__law_words ?k__law_words ?a__law_whole ?l__law_whole ?c__law_whole ?k__law_whole ?a__law_is ?l__law_is ?c__law_is ?k__law_is ?a__law_spoiled ?l__law_spoiled ?c__law_spoiled ?k__law_spoiled ?a__law_opens ?l__law_opens ?c__law_opens ?k__law_opens ?a__law_wrong ?l__law_wrong ?c__law_wrong ?k__law_wrong ?a__law_told ?l__law_told ?c__law_told ?k__law_told ?a__law_right ?l__law_right ?c__law_right ?k__law_right ?a_law ?l_law ?c_law ?k_law) hmg
    (case z_n_bool => k_is)
    (case z_n_int => k_is)
    (case z_n_isinstance => k_is)
    (case z_n_len => k_is)
    (case z_g_FIGURES => k_is)
    (case y_g_FIGURES => exact ⟨_, rfl⟩)
    (case aC_SpeakError => k_is)
    (case bi0_SpeakError => k_is)
    (case bi1_SpeakError => k_is)
    (case bi2_SpeakError => k_is)
    (case aC_NoPlan => k_is)
    (case ox_NoPlan => first | exact ⟨_, _, _, _, _, _, _, _, _, _, _, _, _, _, _, by k_is, by first | rfl | decide +kernel | k_is⟩ | exact ⟨_, _, _, _, _, _, _, _, _, _, _, _, _, _, _, rfl, by first | rfl | decide +kernel⟩)
    (case o0_NoPlan => k_is)
    (case o1_NoPlan => k_is)
    (case o2_NoPlan => k_is)
    (case o3_NoPlan => k_is)
    (case na_NoPlan_place => k_is)
    (case aC_Few => k_is)
    (case pg_Few => k_is)
    (case hd_Few => k_is)
    (case po_Few => k_is)
    (case sa_Few => k_is)
    (case mk_Few => k_is)
    (case kc_Few => k_is)
    (case na_Few_many => k_is)
    (case z_g_MOST_DRAWN_plans => k_is)
    (case y_g_MOST_DRAWN_plans => exact ⟨_, rfl⟩)
    (case aC_Start => k_is)
    (case pg_Start => k_is)
    (case hd_Start => k_is)
    (case po_Start => k_is)
    (case sa_Start => k_is)
    (case mk_Start => k_is)
    (case kc_Start => k_is)
    (case na_Start_step => k_is)
    (case z_g_MOST_STEP_plans => k_is)
    (case y_g_MOST_STEP_plans => exact ⟨_, rfl⟩)
    (case aC_Loose => k_is)
    (case pg_Loose => k_is)
    (case hd_Loose => k_is)
    (case po_Loose => k_is)
    (case sa_Loose => k_is)
    (case mk_Loose => k_is)
    (case kc_Loose => k_is)
    (case na_Loose_many => k_is)
    (case aC_Duel => k_is)
    (case pg_Duel => k_is)
    (case hd_Duel => k_is)
    (case po_Duel => k_is)
    (case sa_Duel => k_is)
    (case mk_Duel => k_is)
    (case kc_Duel => k_is)
    (case na_Duel_many => k_is)
    (case aC_Each => k_is)
    (case pg_Each => k_is)
    (case hd_Each => k_is)
    (case po_Each => k_is)
    (case sa_Each => k_is)
    (case mk_Each => k_is)
    (case kc_Each => k_is)
    (case na_Each_inside => k_is)
    (case aC_First => k_is)
    (case pg_First => k_is)
    (case hd_First => k_is)
    (case po_First => k_is)
    (case sa_First => k_is)
    (case mk_First => k_is)
    (case kc_First => k_is)
    (case na_First_outside => k_is)
    (case na_First_inside => k_is)
    (case aC_Words => k_is)
    (case pg_Words => k_is)
    (case hd_Words => k_is)
    (case po_Words => k_is)
    (case sa_Words => k_is)
    (case mk_Words => k_is)
    (case kc_Words => k_is)
    (case na_Words_words => k_is)
    (case na_Words_at => k_is)
    (case z_g_DEEPEST => k_is)
    (case y_g_DEEPEST => exact ⟨_, rfl⟩)
    (case z_g_MOST_DRAWN_plantexts => k_is)
    (case y_g_MOST_DRAWN_plantexts => exact ⟨_, rfl⟩)
    (case z_g_MOST_STEP_plantexts => k_is)
    (case y_g_MOST_STEP_plantexts => exact ⟨_, rfl⟩)
    (case z_n_str => k_is)
    (case aC_Plan => k_is)
    (case z_n_enumerate => k_is)
    (case z_n_range => k_is)
    (case aC_NoLevel => k_is)
    (case aC_NoListing => k_is)
    (case aC_NoThrow => k_is)
    (case aC_NoUnits => k_is)
    (case yb_SpeakError => k_is)
    (case yi_SpeakError => k_is)
    (case yt_SpeakError => k_is)
    (case z0_NoPlan => k_is)
    (case z1_NoPlan => k_is)
    (case z2_NoPlan => k_is)
    (case z3_NoPlan => k_is)
    (case z4_NoPlan => k_is)
    (case z5_NoPlan => k_is)
    (case z6_NoPlan => k_is)
    (case z7_NoPlan => k_is)
    (case z_n_max => k_is)
    (case z_n_min => k_is)
    (case yb_NoPlan => k_is)
    (case yi_NoPlan => k_is)
    (case yt_NoPlan => k_is)
    (case yb_NoLevel => k_is)
    (case yi_NoLevel => k_is)
    (case yt_NoLevel => k_is)
    (case yb_NoListing => k_is)
    (case yi_NoListing => k_is)
    (case yt_NoListing => k_is)
    (case yb_NoThrow => k_is)
    (case yi_NoThrow => k_is)
    (case yt_NoThrow => k_is)
    (case yb_NoUnits => k_is)
    (case yi_NoUnits => k_is)
    (case yt_NoUnits => k_is)
    (case es_NoPlan_NoPlan => first | rfl | k_is)
    (case es_NoPlan_SpeakError => first | rfl | k_is)
    (case es_NoPlan_NoLevel => first | rfl | k_is)
    (case es_NoPlan_NoListing => first | rfl | k_is)
    (case es_NoPlan_NoThrow => first | rfl | k_is)
    (case es_NoPlan_NoUnits => first | rfl | k_is)
    (case ic0_Few => k_is)
    (case ic1_Few => k_is)
    (case ic2_Few => k_is)
    (case ic3_Few => k_is)
    (case ic0_Start => k_is)
    (case ic1_Start => k_is)
    (case ic2_Start => k_is)
    (case ic3_Start => k_is)
    (case ic0_Loose => k_is)
    (case ic1_Loose => k_is)
    (case ic2_Loose => k_is)
    (case ic3_Loose => k_is)
    (case ic0_Duel => k_is)
    (case ic1_Duel => k_is)
    (case ic2_Duel => k_is)
    (case ic3_Duel => k_is)
    (case ic0_Each => k_is)
    (case ic1_Each => k_is)
    (case ic2_Each => k_is)
    (case ic3_Each => k_is)
    (case ic0_First => k_is)
    (case ic1_First => k_is)
    (case ic2_First => k_is)
    (case ic3_First => k_is)
    (case cti_Few => k_is)
    (case ctt_Few => k_is)
    (case cti_Start => k_is)
    (case ctt_Start => k_is)
    (case cti_Loose => k_is)
    (case ctt_Loose => k_is)
    (case cti_Duel => k_is)
    (case ctt_Duel => k_is)
    (case cti_Each => k_is)
    (case ctt_Each => k_is)
    (case cti_First => k_is)
    (case ctt_First => k_is)
    (case cti_Plan => k_is)
    (case ctt_Plan => k_is)
    (case es_Few_Few => first | rfl | k_is)
    (case es_Few_Start => first | rfl | k_is)
    (case es_Few_Loose => first | rfl | k_is)
    (case es_Few_Duel => first | rfl | k_is)
    (case es_Few_Each => first | rfl | k_is)
    (case es_Few_First => first | rfl | k_is)
    (case es_Few_Plan => first | rfl | k_is)
    (case es_Start_Few => first | rfl | k_is)
    (case es_Start_Start => first | rfl | k_is)
    (case es_Start_Loose => first | rfl | k_is)
    (case es_Start_Duel => first | rfl | k_is)
    (case es_Start_Each => first | rfl | k_is)
    (case es_Start_First => first | rfl | k_is)
    (case es_Start_Plan => first | rfl | k_is)
    (case es_Loose_Few => first | rfl | k_is)
    (case es_Loose_Start => first | rfl | k_is)
    (case es_Loose_Loose => first | rfl | k_is)
    (case es_Loose_Duel => first | rfl | k_is)
    (case es_Loose_Each => first | rfl | k_is)
    (case es_Loose_First => first | rfl | k_is)
    (case es_Loose_Plan => first | rfl | k_is)
    (case es_Duel_Few => first | rfl | k_is)
    (case es_Duel_Start => first | rfl | k_is)
    (case es_Duel_Loose => first | rfl | k_is)
    (case es_Duel_Duel => first | rfl | k_is)
    (case es_Duel_Each => first | rfl | k_is)
    (case es_Duel_First => first | rfl | k_is)
    (case es_Duel_Plan => first | rfl | k_is)
    (case es_Each_Few => first | rfl | k_is)
    (case es_Each_Start => first | rfl | k_is)
    (case es_Each_Loose => first | rfl | k_is)
    (case es_Each_Duel => first | rfl | k_is)
    (case es_Each_Each => first | rfl | k_is)
    (case es_Each_First => first | rfl | k_is)
    (case es_Each_Plan => first | rfl | k_is)
    (case es_First_Few => first | rfl | k_is)
    (case es_First_Start => first | rfl | k_is)
    (case es_First_Loose => first | rfl | k_is)
    (case es_First_Duel => first | rfl | k_is)
    (case es_First_Each => first | rfl | k_is)
    (case es_First_First => first | rfl | k_is)
    (case es_First_Plan => first | rfl | k_is)
    (case a_is_whole => k_is)
    (case l_is_whole => k_is)
    (case c_is_whole => k_is)
    (case k_is_whole => k_is)
    (case a_are_figures => k_is)
    (case l_are_figures => k_is)
    (case c_are_figures => k_is)
    (case k_are_figures => k_is)
    (case a_number_of => k_is)
    (case l_number_of => k_is)
    (case c_number_of => k_is)
    (case k_number_of => k_is)
    (case a_NoPlan___init__ => k_is)
    (case i_NoPlan___init__ => k_is)
    (case l_NoPlan___init__ => k_is)
    (case c_NoPlan___init__ => k_is)
    (case k_NoPlan___init__ => k_is)
    (case a_Few___init__ => k_is)
    (case i_Few___init__ => k_is)
    (case l_Few___init__ => k_is)
    (case c_Few___init__ => k_is)
    (case k_Few___init__ => k_is)
    (case a_Start___init__ => k_is)
    (case i_Start___init__ => k_is)
    (case l_Start___init__ => k_is)
    (case c_Start___init__ => k_is)
    (case k_Start___init__ => k_is)
    (case a_Loose___init__ => k_is)
    (case i_Loose___init__ => k_is)
    (case l_Loose___init__ => k_is)
    (case c_Loose___init__ => k_is)
    (case k_Loose___init__ => k_is)
    (case a_Duel___init__ => k_is)
    (case i_Duel___init__ => k_is)
    (case l_Duel___init__ => k_is)
    (case c_Duel___init__ => k_is)
    (case k_Duel___init__ => k_is)
    (case a_Each___init__ => k_is)
    (case i_Each___init__ => k_is)
    (case l_Each___init__ => k_is)
    (case c_Each___init__ => k_is)
    (case k_Each___init__ => k_is)
    (case a_First___init__ => k_is)
    (case i_First___init__ => k_is)
    (case l_First___init__ => k_is)
    (case c_First___init__ => k_is)
    (case k_First___init__ => k_is)
    (case a_Words___init__ => k_is)
    (case i_Words___init__ => k_is)
    (case l_Words___init__ => k_is)
    (case c_Words___init__ => k_is)
    (case k_Words___init__ => k_is)
    (case a_Words_here => k_is)
    (case i_Words_here => k_is)
    (case l_Words_here => k_is)
    (case c_Words_here => k_is)
    (case k_Words_here => k_is)
    (case a_Words_go_by => k_is)
    (case i_Words_go_by => k_is)
    (case l_Words_go_by => k_is)
    (case c_Words_go_by => k_is)
    (case k_Words_go_by => k_is)
    (case a_Words_take_number => k_is)
    (case i_Words_take_number => k_is)
    (case l_Words_take_number => k_is)
    (case c_Words_take_number => k_is)
    (case k_Words_take_number => k_is)
    (case a_Words_take_plan => k_is)
    (case i_Words_take_plan => k_is)
    (case l_Words_take_plan => k_is)
    (case c_Words_take_plan => k_is)
    (case k_Words_take_plan => k_is)
    (case a_Words_take_wide => k_is)
    (case i_Words_take_wide => k_is)
    (case l_Words_take_wide => k_is)
    (case c_Words_take_wide => k_is)
    (case k_Words_take_wide => k_is)
    (case a_Words_take_inner => k_is)
    (case i_Words_take_inner => k_is)
    (case l_Words_take_inner => k_is)
    (case c_Words_take_inner => k_is)
    (case k_Words_take_inner => k_is)
    (case a_plan_of => k_is)
    (case l_plan_of => k_is)
    (case c_plan_of => k_is)
    (case k_plan_of => k_is)
    (case a_Few_text => k_is)
    (case i_Few_text => k_is)
    (case l_Few_text => k_is)
    (case c_Few_text => k_is)
    (case k_Few_text => k_is)
    (case a_Start_text => k_is)
    (case i_Start_text => k_is)
    (case l_Start_text => k_is)
    (case c_Start_text => k_is)
    (case k_Start_text => k_is)
    (case a_Loose_text => k_is)
    (case i_Loose_text => k_is)
    (case l_Loose_text => k_is)
    (case c_Loose_text => k_is)
    (case k_Loose_text => k_is)
    (case a_Duel_text => k_is)
    (case i_Duel_text => k_is)
    (case l_Duel_text => k_is)
    (case c_Duel_text => k_is)
    (case k_Duel_text => k_is)
    (case a_Each_text => k_is)
    (case i_Each_text => k_is)
    (case l_Each_text => k_is)
    (case c_Each_text => k_is)
    (case k_Each_text => k_is)
    (case a_First_text => k_is)
    (case i_First_text => k_is)
    (case l_First_text => k_is)
    (case c_First_text => k_is)
    (case k_First_text => k_is)
    (case a__law_cell => k_is)
    (case l__law_cell => k_is)
    (case c__law_cell => k_is)
    (case k__law_cell => k_is)
    (case a__law_mixed => k_is)
    (case l__law_mixed => k_is)
    (case c__law_mixed => k_is)
    (case k__law_mixed => k_is)
    (case a__law_tree => k_is)
    (case l__law_tree => k_is)
    (case c__law_tree => k_is)
    (case k__law_tree => k_is)
    (case a__law_words => k_is)
    (case l__law_words => k_is)
    (case c__law_words => k_is)
    (case k__law_words => k_is)
    (case a__law_whole => k_is)
    (case l__law_whole => k_is)
    (case c__law_whole => k_is)
    (case k__law_whole => k_is)
    (case a__law_is => k_is)
    (case l__law_is => k_is)
    (case c__law_is => k_is)
    (case k__law_is => k_is)
    (case a__law_spoiled => k_is)
    (case l__law_spoiled => k_is)
    (case c__law_spoiled => k_is)
    (case k__law_spoiled => k_is)
    (case a__law_opens => k_is)
    (case l__law_opens => k_is)
    (case c__law_opens => k_is)
    (case k__law_opens => k_is)
    (case a__law_wrong => k_is)
    (case l__law_wrong => k_is)
    (case c__law_wrong => k_is)
    (case k__law_wrong => k_is)
    (case a__law_told => k_is)
    (case l__law_told => k_is)
    (case c__law_told => k_is)
    (case k__law_told => k_is)
    (case a__law_right => k_is)
    (case l__law_right => k_is)
    (case c__law_right => k_is)
    (case k__law_right => k_is)
    (case a_law => k_is)
    (case l_law => k_is)
    (case c_law => k_is)
    (case k_law => k_is)
#print axioms PySem.Challenge.cw_fewspeak_k41_plans_as_texts_holds

