import PyProof.Rows.All
import Wide.All
import OpenK.AllK
import Wide.FinOn
import HandS.ForMost
import HandS.Exc
import HandS.TryOnly
import HandS.ExcOwn
import HandS.WordsExc
import HandS.Wide
import HandS.IsInst
import HandS.EndBits
import HandS.Conv
import HandS.Style
import HandS.TupAny
import HandS.Evl
import HandS.Walk
import HandS.ExcIs
import HandS.ExcInit
import HandS.ExcField
import HandS.ExcValue
import HandS.SetKeys
import KE.KExcIs
import HandS.Iter
import HandS.Defaults
import HandS.CallSlots
import HandS.More
import PyProof.StrBlock2
import HandS.Lambda
import HandS.Nested
import HandS.EndTab
import KE.KLam
import KE.KNestM
import HandS.SetFor
import HandS.DictTup
import KE.KDictPairs
import KE.KDictDisplayH
import HandS.ExcInitHot
import HandS.RevTup
import HandS.Rev
import HandS.Text
import HandS.ListItems
import HandS.Dict
import PySem.Challenge.RW_fewspeak_k32_whole_each_keeps_its_share
set_option Elab.async false
set_option linter.all false
set_option maxRecDepth 100000
set_option maxHeartbeats 4000000
namespace Kt
open PySem PySem.Spec PyProof.Rows L2
/-- a def of the top, as it stands behind the top -/
structure DefAt (K : PySem.W.Frag) (mg : Str → Option Value) (x : Str) (st : Stmt) (ps : List Str) : Prop where
  ex : ∃ (f : Addr) (fd : FuncData), Fun K x x st f fd ∧ mg x = some (.ref f) ∧ Binds K fd ps []
/-- a method of the class at C -/
structure MethAt (K : PySem.W.Frag) (C : Addr) (m qual : Str) (st : Stmt) (ps : List Str) : Prop where
  ex : ∃ (f : Addr) (fd : FuncData), Fun K m qual st f fd ∧ Meth K C m f ∧ Binds K fd ps []
structure InitAt (K : PySem.W.Frag) (C : Addr) (qual : Str) (st : Stmt) (ps : List Str) : Prop where
  ex : ∃ (f : Addr) (fd : FuncData), Fun K "__init__" qual st f fd ∧ Mk K C f ∧ Binds K fd ps []
/-- the class that a name of the module holds -/
def cA (mg : Str → Option Value) (x : Str) : Addr := match mg x with | some (.ref a) => a | _ => 0
theorem cA_of {mg : Str → Option Value} {x : Str} {a : Addr} (h : mg x = some (.ref a)) : cA mg x = a := by unfold cA; rw [h]
/-- a def that may be called by its name; a method of the class at C; a class that may be made -/
structure Cal (P : Program) (w : World) (K : PySem.W.Frag) (mg : Str → Option Value) (base : Heap) (k : Nat) (x : Str) (sp : Sp) : Prop where
  ex : ∃ (f : Addr) (fd : FuncData) (ps : List Str), FnOk P w K mg base CX0 k f fd ps sp ∧ mg x = some (.ref f) ∧ PySem.W.keepIn K (.ref f) = true ∧ Binds K fd ps []
structure Met (P : Program) (w : World) (K : PySem.W.Frag) (mg : Str → Option Value) (base : Heap) (k : Nat) (C : Addr) (m : Str) (sp : Sp) : Prop where
  ex : ∃ (f : Addr) (fd : FuncData) (ps : List Str), Cls K C ∧ Meth K C m f ∧ FnOk P w K mg base CX0 k f fd ps sp ∧ Binds K fd ps []
structure Mak (P : Program) (w : World) (K : PySem.W.Frag) (mg : Str → Option Value) (base : Heap) (k : Nat) (x : Str) (C : Addr) (sp : Sp) : Prop where
  ex : ∃ (f : Addr) (fd : FuncData) (ps : List Str), Mk K C f ∧ FnOk P w K mg base CX0 k f fd ps sp ∧ mg x = some (.ref C) ∧ Binds K fd ps []
section
variable {P : Program} {w : World} {K : PySem.W.Frag} {mg : Str → Option Value} {base : Heap}
theorem DefAt.cal {x : Str} {st : Stmt} {N ps : List Str} {k : Nat} {sp : Sp} (d : DefAt K mg x st ps) (S : FnScope N ps (defScope st)) (len : ∀ vs H Q E, sp vs H Q E → vs.length = ps.length)
    (hbody : ∀ (f : Addr) (cdv : Value) (A : Around) (outer : List Env) (s : Shared) (H : Hp) (vs : List V) (Q : VK) (E : XK), Room k (A.deeper (envOfC x (defScope st) s.heap.objs.size f cdv)) → sp vs H Q E →
      ∃ t, PSs (cxOf CX0 P w K mg base N x (defScope st) f cdv A outer s H E).nox (defBody st) t ∧ t { nx := fun _ H' => Q .non H', rt := Q } (start N vs) H) : Cal P w K mg base (k + 1) x sp := by
  obtain ⟨f, fd, F, hm, b⟩ := d.ex
  exact ⟨f, fd, ps, F.ok S len (hbody f), hm, F.kp, b⟩
/-- a def of the top by one more name -/
structure DefAtA (K : PySem.W.Frag) (mg : Str → Option Value) (x nm : Str) (st : Stmt) (ps : List Str) : Prop where
  ex : ∃ (f : Addr) (fd : FuncData), Fun K nm nm st f fd ∧ mg x = some (.ref f) ∧ Binds K fd ps []
theorem DefAtA.cal {x nm : Str} {st : Stmt} {N ps : List Str} {k : Nat} {sp : Sp} (d : DefAtA K mg x nm st ps) (S : FnScope N ps (defScope st)) (len : ∀ vs H Q E, sp vs H Q E → vs.length = ps.length)
    (hbody : ∀ (f : Addr) (cdv : Value) (A : Around) (outer : List Env) (s : Shared) (H : Hp) (vs : List V) (Q : VK) (E : XK), Room k (A.deeper (envOfC nm (defScope st) s.heap.objs.size f cdv)) → sp vs H Q E →
      ∃ t, PSs (cxOf CX0 P w K mg base N nm (defScope st) f cdv A outer s H E).nox (defBody st) t ∧ t { nx := fun _ H' => Q .non H', rt := Q } (start N vs) H) : Cal P w K mg base (k + 1) x sp := by
  obtain ⟨f, fd, F, hm, b⟩ := d.ex
  exact ⟨f, fd, ps, F.ok S len (hbody f), hm, F.kp, b⟩
theorem MethAt.met {C : Addr} {m qual : Str} {st : Stmt} {N ps : List Str} {k : Nat} {sp : Sp} (c : Cls K C) (d : MethAt K C m qual st ps) (S : FnScope N ps (defScope st)) (len : ∀ vs H Q E, sp vs H Q E → vs.length = ps.length)
    (hbody : ∀ (f : Addr) (cdv : Value) (A : Around) (outer : List Env) (s : Shared) (H : Hp) (vs : List V) (Q : VK) (E : XK), Room k (A.deeper (envOfC qual (defScope st) s.heap.objs.size f cdv)) → sp vs H Q E →
      ∃ t, PSs (cxOf CX0 P w K mg base N qual (defScope st) f cdv A outer s H E).nox (defBody st) t ∧ t { nx := fun _ H' => Q .non H', rt := Q } (start N vs) H) : Met P w K mg base (k + 1) C m sp := by
  obtain ⟨f, fd, F, hm, b⟩ := d.ex
  exact ⟨f, fd, ps, c, hm, F.ok S len (hbody f), b⟩
theorem InitAt.mak {x : Str} {C : Addr} {qual : Str} {st : Stmt} {N ps : List Str} {k : Nat} {sp : Sp} (hx : mg x = some (.ref C)) (d : InitAt K C qual st ps) (S : FnScope N ps (defScope st)) (len : ∀ vs H Q E, sp vs H Q E → vs.length = ps.length)
    (hbody : ∀ (f : Addr) (cdv : Value) (A : Around) (outer : List Env) (s : Shared) (H : Hp) (vs : List V) (Q : VK) (E : XK), Room k (A.deeper (envOfC qual (defScope st) s.heap.objs.size f cdv)) → sp vs H Q E →
      ∃ t, PSs (cxOf CX0 P w K mg base N qual (defScope st) f cdv A outer s H E).nox (defBody st) t ∧ t { nx := fun _ H' => Q .non H', rt := Q } (start N vs) H) : Mak P w K mg base (k + 1) x C sp := by
  obtain ⟨f, fd, F, hm, b⟩ := d.ex
  exact ⟨f, fd, ps, hm, F.ok S len (hbody f), hx, b⟩
/-- a def that may raise -/
structure CalX (P : Program) (w : World) (K : PySem.W.Frag) (mg : Str → Option Value) (base : Heap) (k : Nat) (x : Str) (sp : Sp) : Prop where
  ex : ∃ (f : Addr) (fd : FuncData) (ps : List Str), FnOk P w K mg base (L2.CX P w) k f fd ps sp ∧ mg x = some (.ref f) ∧ PySem.W.keepIn K (.ref f) = true ∧ Binds K fd ps []
theorem DefAt.calX {x : Str} {st : Stmt} {N ps : List Str} {k : Nat} {sp : Sp} (d : DefAt K mg x st ps) (S : FnScope N ps (defScope st)) (len : ∀ vs H Q E, sp vs H Q E → vs.length = ps.length)
    (hbody : ∀ (f : Addr) (cdv : Value) (A : Around) (outer : List Env) (s : Shared) (H : Hp) (vs : List V) (Q : VK) (E : XK), Room k (A.deeper (envOfC x (defScope st) s.heap.objs.size f cdv)) → sp vs H Q E →
      ∃ t, PSs (cxOf (L2.CX P w) P w K mg base N x (defScope st) f cdv A outer s H E) (defBody st) t ∧ t { nx := fun _ H' => Q .non H', rt := Q } (start N vs) H) : CalX P w K mg base (k + 1) x sp := by
  obtain ⟨f, fd, F, hm, b⟩ := d.ex
  exact ⟨f, fd, ps, F.okX S len (hbody f), hm, F.kp, b⟩
theorem DefAtA.calX {x nm : Str} {st : Stmt} {N ps : List Str} {k : Nat} {sp : Sp} (d : DefAtA K mg x nm st ps) (S : FnScope N ps (defScope st)) (len : ∀ vs H Q E, sp vs H Q E → vs.length = ps.length)
    (hbody : ∀ (f : Addr) (cdv : Value) (A : Around) (outer : List Env) (s : Shared) (H : Hp) (vs : List V) (Q : VK) (E : XK), Room k (A.deeper (envOfC nm (defScope st) s.heap.objs.size f cdv)) → sp vs H Q E →
      ∃ t, PSs (cxOf (L2.CX P w) P w K mg base N nm (defScope st) f cdv A outer s H E) (defBody st) t ∧ t { nx := fun _ H' => Q .non H', rt := Q } (start N vs) H) : CalX P w K mg base (k + 1) x sp := by
  obtain ⟨f, fd, F, hm, b⟩ := d.ex
  exact ⟨f, fd, ps, F.okX S len (hbody f), hm, F.kp, b⟩
end
section
variable {X : Cx} {k j : Nat} {C : Addr} {x m : Str} {sp : Sp} {p pos apos : Pos} {e o : Expr} {es : List Expr} {ta : TE} {t : TA}
theorem pe_c (c : Cal X.prog X.w X.K X.mg X.base k x sp) (hr : Room j X.A) (hk : k ≤ j) (hg : Gl X x) (ha : PA X (e :: es) t)
    (hdb : (x == ("__debug__" : Str)) = false := by decide) (he : starEach (e :: es) X.env = (false, eval e X.env) :: starEach es X.env := by rfl) (hpl : (backTo pos (starEach es X.env)).any (·.1) = false := by rfl) :
    PE X (.Call (.Name x p) (e :: es) [] pos) (tCall sp [] E0 t) := by
  obtain ⟨f, fd, ps, F, hm, kp, b⟩ := c.ex
  exact pe_call F (hr.mono hk) hg hm kp b .nil pass0 ha hdb he hpl
theorem pe_c0 (c : Cal X.prog X.w X.K X.mg X.base k x sp) (hr : Room j X.A) (hk : k ≤ j) (hg : Gl X x)
    (hdb : (x == ("__debug__" : Str)) = false := by decide) :
    PE X (.Call (.Name x p) [] [] pos) (tCall sp [] E0 tNil) := by
  obtain ⟨f, fd, ps, F, hm, kp, b⟩ := c.ex
  exact pe_call0 F (hr.mono hk) hg hm kp b .nil pass0 hdb
theorem pe_mk (c : Mak X.prog X.w X.K X.mg X.base k x C sp) (hr : Room j X.A) (hk : k + 1 ≤ j) (hg : Gl X x) (ha : PA X (e :: es) t)
    (hdb : (x == ("__debug__" : Str)) = false := by decide) (he : starEach (e :: es) X.env = (false, eval e X.env) :: starEach es X.env := by rfl) (hpl : (backTo pos (starEach es X.env)).any (·.1) = false := by rfl) :
    PE X (.Call (.Name x p) (e :: es) [] pos) (tMake C sp [] E0 t) := by
  obtain ⟨f, fd, ps, M, F, hm, b⟩ := c.ex
  exact pe_make M F (hr.mono hk) hg hm b .nil pass0 ha hdb he hpl
theorem pe_mk0 (c : Mak X.prog X.w X.K X.mg X.base k x C sp) (hr : Room j X.A) (hk : k + 1 ≤ j) (hg : Gl X x)
    (hdb : (x == ("__debug__" : Str)) = false := by decide) : PE X (.Call (.Name x p) [] [] pos) (tMake C sp [] E0 tNil) := by
  obtain ⟨f, fd, ps, M, F, hm, b⟩ := c.ex
  exact pe_make0 M F (hr.mono hk) hg hm b .nil pass0 hdb
theorem pe_mt {pl : Sem Bool} (c : Met X.prog X.w X.K X.mg X.base k C m sp) (hr : Room j X.A) (hk : k ≤ j) (he : PE X o ta) (ha : PA X (e :: es) t)
    (hst : starEach (e :: es) X.env = (false, eval e X.env) :: starEach es X.env := by rfl) (hpl : (backTo pos (starEach es X.env)).any (·.1) = false := by rfl)
    (ht : eval (.Call (.Attribute o m apos) (e :: es) [] pos) X.env = (do
      let ov ← eval o X.env
      standAt apos.atName
      let (f, first) ← holding [ov] (getMethod ov m pl)
      callWith pos f first (backTo pos (starEach (e :: es) X.env)) (backToKw pos (keywordEach [] X.env))) := by rfl) :
    PE X (.Call (.Attribute o m apos) (e :: es) [] pos) (tMeth C m sp [] E0 ta t) := by
  obtain ⟨f, fd, ps, hc, hm, F, b⟩ := c.ex
  exact pe_meth (pl := pl) he hc hm F (hr.mono hk) b .nil pass0 ha hst hpl ht
theorem pe_mt0 {pl : Sem Bool} (c : Met X.prog X.w X.K X.mg X.base k C m sp) (hr : Room j X.A) (hk : k ≤ j) (he : PE X o ta)
    (ht : eval (.Call (.Attribute o m apos) [] [] pos) X.env = (do
      let ov ← eval o X.env
      standAt apos.atName
      let (f, first) ← holding [ov] (getMethod ov m pl)
      callWith pos f first (backTo pos (starEach [] X.env)) (backToKw pos (keywordEach [] X.env))) := by rfl) :
    PE X (.Call (.Attribute o m apos) [] [] pos) (tMeth C m sp [] E0 ta tNil) := by
  obtain ⟨f, fd, ps, hc, hm, F, b⟩ := c.ex
  exact pe_meth0 (pl := pl) he hc hm F (hr.mono hk) b .nil pass0 ht
/-- a call of a def that may raise, where nothing is raised -/
theorem pe_x0 (c : CalX X.prog X.w X.K X.mg X.base k x sp) (hr : Room j X.A) (hk : k ≤ j) (hg : Gl X x) (ha : PA X (e :: es) t)
    (hdb : (x == ("__debug__" : Str)) = false := by decide) (he : starEach (e :: es) X.env = (false, eval e X.env) :: starEach es X.env := by rfl) (hpl : (backTo pos (starEach es X.env)).any (·.1) = false := by rfl) :
    PE X (.Call (.Name x p) (e :: es) [] pos) (tCall sp [] E0 t) := by
  obtain ⟨f, fd, ps, F, hm, kp, b⟩ := c.ex
  exact pe_call F (hr.mono hk) hg hm kp b .nil passL ha hdb he hpl
end
/-- a built-in class as a value -/
theorem pe_ty {X : Cx} {x : Str} {pos : Pos} (n : String) (hg : Gl X x) (hm : X.mg x = none) (hv : bootBuiltins x = some (.type n)) (hn : x ≠ "__name__" := by decide) (hdb : (x == ("__debug__" : Str)) = false := by decide) : PE X (.Name x pos) (tC (.ty n)) :=
  pe_bltn hg hm hv rfl hn hdb
/-- a constant of the module -/
theorem pe_gc {X : Cx} {x : Str} {pos : Pos} {v : V} (hg : Gl X x) (h : ∃ u, X.mg x = some u ∧ RelV v u) (hdb : (x == ("__debug__" : Str)) = false := by decide) : PE X (.Name x pos) (tC v) := by
  obtain ⟨u, h1, h2⟩ := h
  exact pe_glob hg h1 h2 hdb
/-! ### heaps -/
theorem hp_new {H : Hp} {a b : Addr} {o o' : HO} (h : H a = none) (h' : H b = some o') : upd H a o b = some o' := by
  rw [upd_ne (ne_of_none h' h)]; exact h'
theorem hp_same {H H' : Hp} {b : Addr} {o : HO} (e : Same H H') (h : H b = some o) : H' b = some o := e b o h
theorem same_upd {H H' : Hp} {a : Addr} {o : HO} (e : Same H H') (h : H' a = none) : Same H (upd H' a o) := fun b o' q => hp_new h (e b o' q)
theorem same_new {H : Hp} {a : Addr} {o : HO} (h : H a = none) : Same H (upd H a o) := fun b o' q => hp_new h q
theorem cxOf_K {CX : CXT} {P : Program} {w : World} {K : PySem.W.Frag} {mg : Str → Option Value} {base : Heap} {N : List Str} {qual : Str} {scope : Scope} {f : Addr} {cd : Value} {A : Around} {outer : List Env} {s : Shared} {H : Hp} {E : XK} : (cxOf CX P w K mg base N qual scope f cd A outer s H E).nox.K = K := rfl
theorem cxOf_K' {CX : CXT} {P : Program} {w : World} {K : PySem.W.Frag} {mg : Str → Option Value} {base : Heap} {N : List Str} {qual : Str} {scope : Scope} {f : Addr} {cd : Value} {A : Around} {outer : List Env} {s : Shared} {H : Hp} {E : XK} : (cxOf CX P w K mg base N qual scope f cd A outer s H E).K = K := rfl
theorem cxOf_mg {CX : CXT} {P : Program} {w : World} {K : PySem.W.Frag} {mg : Str → Option Value} {base : Heap} {N : List Str} {qual : Str} {scope : Scope} {f : Addr} {cd : Value} {A : Around} {outer : List Env} {s : Shared} {H : Hp} {E : XK} : (cxOf CX P w K mg base N qual scope f cd A outer s H E).nox.mg = mg := rfl
theorem cxOf_mg' {CX : CXT} {P : Program} {w : World} {K : PySem.W.Frag} {mg : Str → Option Value} {base : Heap} {N : List Str} {qual : Str} {scope : Scope} {f : Addr} {cd : Value} {A : Around} {outer : List Env} {s : Shared} {H : Hp} {E : XK} : (cxOf CX P w K mg base N qual scope f cd A outer s H E).mg = mg := rfl
/-- a new tuple, a new list: all that stood stands -/
def NewT (H : Hp) (xs : List V) (Q : VK) : Prop := ∀ p H', H p = none → Same H H' → H' p = some (.tup xs) → Q (.ref p) H'
def NewL (H : Hp) (xs : List V) (Q : VK) : Prop := ∀ p H', H p = none → Same H H' → H' p = some (.lst xs) → Q (.ref p) H'
theorem NewT.at {H : Hp} {xs : List V} {Q : VK} (q : NewT H xs Q) (p : Addr) (h : H p = none) : Q (.ref p) (upd H p (.tup xs)) := q p _ h (same_new h) upd_same
theorem NewL.at {H : Hp} {xs : List V} {Q : VK} (q : NewL H xs Q) (p : Addr) (h : H p = none) : Q (.ref p) (upd H p (.lst xs)) := q p _ h (same_new h) upd_same
theorem NewT.of {H H' : Hp} {xs : List V} {Q : VK} (q : NewT H xs Q) (e : Same H H') : NewT H' xs Q := fun p H2 h s x => q p H2 (e.free h) (e.trans s) x
theorem NewL.of {H H' : Hp} {xs : List V} {Q : VK} (q : NewL H xs Q) (e : Same H H') : NewL H' xs Q := fun p H2 h s x => q p H2 (e.free h) (e.trans s) x
/-! ### readings by name -/
section
variable {X : Cx}
def aAdd (K : PySem.W.Frag) : R2 := fun x y H Q => rI0 (fun i j => .int (i + j)) x y H Q ∨ (∃ i j, x = .str i ∧ y = .str j ∧ i.length + j.length ≤ sizeLine ∧ Q (.str (i ++ j)) H) ∨ rCat x y H Q ∨ rCatA K x y H Q
theorem op_addA : OpR X (binaryOp .Add) (aAdd X.K) := op_add.or (op_add_str.or (op_cat.or op_catA))
def aMul : R2 := fun x y H Q => rI CMulW (fun i j => .int (i * j)) x y H Q ∨ rRep x y H Q
theorem op_mulA : OpR X (binaryOp .Mult) aMul := op_mulW.or op_rep
def aEq (K : PySem.W.Frag) : R2 := fun x y H Q => rEq x y H Q ∨ rEqD K x y H Q
theorem op_eqA {k : Nat} (hr : Room k X.A) : OpR X (compareOp .Eq) (aEq X.K) := op_eq.or (op_eqD hr.units)
def aNe (K : PySem.W.Frag) : R2 := fun x y H Q => rNe x y H Q ∨ rNeD K x y H Q
theorem op_neA {k : Nat} (hr : Room k X.A) : OpR X (compareOp .NotEq) (aNe X.K) := op_ne.or (op_neD hr.units)
def aLe : R2 := fun x y H Q => rI0 (fun i j => .bl (decide (i ≤ j))) x y H Q ∨ ∃ i j, x = .str i ∧ y = .str j ∧ Q (.bl (!decide (j.cps.toList < i.cps.toList))) H
theorem op_leA : OpR X (compareOp .LtE) aLe := op_le.or op_le_str
def aLt : R2 := fun x y H Q => rI0 (fun i j => .bl (decide (i < j))) x y H Q ∨ ∃ i j, x = .str i ∧ y = .str j ∧ Q (.bl (decide (i.cps.toList < j.cps.toList))) H
theorem op_ltA : OpR X (compareOp .Lt) aLt := op_lt.or op_lt_str
def aIn (K : PySem.W.Frag) : R2 := fun x y H Q => (∃ (c : Nat) (z : Str), x = .str ⟨#[c]⟩ ∧ y = .str z ∧ Q (.bl (decide (c ∈ z.cps.toList))) H) ∨ rIn K false x y H Q
theorem op_inA : OpR X (compareOp .In) (aIn X.K) := op_in_sign.or op_in_seq
def aNotIn (K : PySem.W.Frag) : R2 := fun x y H Q => (∃ (c : Nat) (z : Str), x = .str ⟨#[c]⟩ ∧ y = .str z ∧ Q (.bl (!decide (c ∈ z.cps.toList))) H) ∨ rIn K true x y H Q
theorem op_notInA : OpR X (compareOp .NotIn) (aNotIn X.K) := op_notIn_sign.or op_notIn_seq
def aLen (K : PySem.W.Frag) : List V → Hp → VK → Prop := fun xs H Q => (∃ p ys, xs = [.ref p] ∧ (SqL K H p ys ∨ SqT K H p ys) ∧ Q (.int ys.length) H) ∨ (∃ z, xs = [.str z] ∧ z.length ≤ sizeLine ∧ Q (.int z.length) H) ∨ (∃ a kvs, xs = [V.ref a] ∧ H a = some (.dK kvs) ∧ Q (.int kvs.length) H)
theorem call_lenA : CallR X (.builtin "len") (aLen X.K) := call_len_seq.or (call_len_str.or call_lenD)
def aAbs : List V → Hp → VK → Prop := fun xs H Q => ∃ i, xs = [.int i] ∧ Q (.int (if i < 0 then -i else i)) H
theorem call_absA : CallR X (.builtin "abs") aAbs := call_abs
def aMax2 : List V → Hp → VK → Prop := fun xs H Q => ∃ i j, xs = [.int i, .int j] ∧ Q (.int (if j > i then j else i)) H
theorem call_max2A (hc : X.calm = true) : CallR X (.builtin "max") aMax2 := call_max2 hc
def aMin2 : List V → Hp → VK → Prop := fun xs H Q => ∃ i j, xs = [.int i, .int j] ∧ Q (.int (if j < i then j else i)) H
theorem call_min2A (hc : X.calm = true) : CallR X (.builtin "min") aMin2 := call_min2 hc
def aInt1 : List V → Hp → VK → Prop := fun xs H Q => (∃ i, xs = [.int i] ∧ Q (.int i) H) ∨ ∃ k, xs = [.bl k] ∧ Q (.int (if k then 1 else 0)) H
theorem call_int1A : CallR X (.type "int") aInt1 := call_int1
def aStr1 : List V → Hp → VK → Prop := fun xs H Q => ∃ i, xs = [.int i] ∧ i.natAbs.log2 < 1920 ∧ Q (.str (toString i)) H
theorem call_str1A : CallR X (.type "str") aStr1 := call_str_int
def aList1 (K : PySem.W.Frag) : List V → Hp → VK → Prop := fun xs H Q => ∃ p ys, xs = [.ref p] ∧ (SqL K H p ys ∨ SqT K H p ys) ∧ ∀ l, H l = none → Q (.ref l) (upd H l (.lst ys))
theorem call_list1A : CallR X (.type "list") (aList1 X.K) := call_list_of
def aTuple1 (K : PySem.W.Frag) : List V → Hp → VK → Prop := fun xs H Q => ∃ p ys, xs = [.ref p] ∧ ((SqL K H p ys ∧ ∀ l, H l = none → Q (.ref l) (upd H l (.tup ys))) ∨ (SqT K H p ys ∧ Q (.ref p) H))
theorem call_tuple1A : CallR X (.type "tuple") (aTuple1 X.K) := call_tuple_of
def aTru (K : PySem.W.Frag) (ta : TE) : TT := fun σ H Q => ta σ H fun x H' => ∃ k, TruV K x H' k ∧ Q k H'
theorem pt_tru {a : Expr} {ta : TE} (ha : PE X a ta) (he : ∀ whole, isTrue a X.env whole = (do let v ← whole; standAt a.pos; holding [v] (truthy v))) : PT X a (aTru X.K ta) := pt_truth ha he
def aIsN : R2 := fun x y H Q => y = .non ∧ Q (.bl (decide (x = .non))) H
theorem op_isNA : OpR X (compareOp .Is) aIsN := op_isN
def aNotN : R2 := fun x y H Q => y = .non ∧ Q (.bl (!decide (x = .non))) H
theorem op_notNA : OpR X (compareOp .IsNot) aNotN := op_notN
end
/-! ### one step of a reading -/
section
variable {K : PySem.W.Frag} {σ : L2.St} {H : Hp} {N B C : L2.St → Hp → Prop} {R : VK} {t u : TS} {c d : TT} {ta tb te tc : TE} {tr : TA} {Q : VK} {g : TG} {i j : Nat} {v x y : V} {r r' : R2}
theorem L_seq (h : t ⟨u ⟨N, R, B, C⟩, R, B, C⟩ σ H) : tSeq t u ⟨N, R, B, C⟩ σ H := h
theorem L_next (h : N σ H) : tNext ⟨N, R, B, C⟩ σ H := h
theorem L_brk (h : B σ H) : tBreak ⟨N, R, B, C⟩ σ H := h
theorem L_cont (h : C σ H) : tCont ⟨N, R, B, C⟩ σ H := h
theorem L_ret (h : te σ H R) : tRet te ⟨N, R, B, C⟩ σ H := h
theorem L_retN (h : R .non H) : tRetN ⟨N, R, B, C⟩ σ H := h
theorem L_drop (h : te σ H fun _ H1 => N σ H1) : tDrop te ⟨N, R, B, C⟩ σ H := h
theorem L_asg (h : te σ H fun x H1 => g x σ H1 N) : tAsg te g ⟨N, R, B, C⟩ σ H := h
theorem L_gname {Q : L2.St → Hp → Prop} (h : Q (σ.set i (some v)) H) : gName i v σ H Q := h
theorem L_aug {ti : TIp} (hx : σ[i]? = some (some x)) (h : te σ H fun y H1 => ti x y H1 fun z H2 => N (σ.set i (some z)) H2) : tAug i te ti ⟨N, R, B, C⟩ σ H := ⟨x, hx, h⟩
theorem L_ipI {f : Int → Int → Int} {a b : Int} (h : Q (.int (f a b)) H) : ipI f (.int a) (.int b) H Q := ⟨a, b, rfl, rfl, h⟩
theorem L_ifS (h : c σ H fun b H1 => if b = true then t ⟨N, R, B, C⟩ σ H1 else u ⟨N, R, B, C⟩ σ H1) : tIfS c t u ⟨N, R, B, C⟩ σ H := h
theorem L_par (h : tr σ H fun vs H1 => ∃ v w, vs = [v, w] ∧ N ((σ.set i (some v)).set j (some w)) H1) : tPar i j tr ⟨N, R, B, C⟩ σ H := h
theorem L_par3 {l : Nat} (h : tr σ H fun vs H1 => ∃ u v w, vs = [u, v, w] ∧ N (((σ.set i (some u)).set j (some v)).set l (some w)) H1) : tPar3 i j l tr ⟨N, R, B, C⟩ σ H := h
theorem L_vs2 {Q : V → V → Prop} (h : Q x y) : ∃ v w, [x, y] = [v, w] ∧ Q v w := ⟨x, y, rfl, h⟩
theorem L_vs3 {z : V} {Q : V → V → V → Prop} (h : Q x y z) : ∃ u v w, [x, y, z] = [u, v, w] ∧ Q u v w := ⟨x, y, z, rfl, h⟩
theorem L_var (h : σ[i]? = some (some v)) (q : Q v H) : tVar i σ H Q := ⟨v, h, q⟩
theorem L_c (q : Q v H) : tC v σ H Q := q
theorem L_op (h : ta σ H fun x H1 => tb σ H1 fun y H2 => r x y H2 Q) : tOp r ta tb σ H Q := h
theorem L_un {r : V → Hp → VK → Prop} (h : ta σ H fun x H1 => r x H1 Q) : tUn r ta σ H Q := h
theorem L_rU {g : Int → V} {i : Int} (q : Q (g i) H) : rU g (.int i) H Q := ⟨i, rfl, q⟩
theorem L_I0 {g : Int → Int → V} {i j : Int} (q : Q (g i j) H) : rI0 g (.int i) (.int j) H Q := ⟨i, j, rfl, rfl, q⟩
theorem L_I {C : Int → Int → Prop} {g : Int → Int → V} {i j : Int} (hc : C i j) (q : Q (g i j) H) : rI C g (.int i) (.int j) H Q := ⟨i, j, rfl, rfl, hc, q⟩
theorem L_addI {i j : Int} (q : Q (.int (i + j)) H) : aAdd K (.int i) (.int j) H Q := .inl ⟨i, j, rfl, rfl, q⟩
theorem L_addS {a b : Str} (hl : a.length + b.length ≤ sizeLine) (q : Q (.str (a ++ b)) H) : aAdd K (.str a) (.str b) H Q := .inr (.inl ⟨a, b, rfl, rfl, hl, q⟩)
theorem L_addL {a b : Addr} {xs ys : List V} (ha : H a = some (.lst xs)) (hb : H b = some (.lst ys)) (hl : xs.length + ys.length ≤ sizeLine) (q : ∀ p, H p = none → Q (.ref p) (upd H p (.lst (xs ++ ys)))) : aAdd K (.ref a) (.ref b) H Q := .inr (.inr (.inl ⟨a, b, xs, ys, rfl, rfl, ha, hb, hl, q⟩))
theorem L_mulI {i j : Int} (hc : CMulW i j) (q : Q (.int (i * j)) H) : aMul (.int i) (.int j) H Q := .inl ⟨i, j, rfl, rfl, hc, q⟩
theorem L_eqI {i j : Int} (q : Q (.bl (decide (i = j))) H) : aEq K (.int i) (.int j) H Q := .inl ⟨rfl, by rw [show decide (V.int i = V.int j) = decide (i = j) by simp]; exact q⟩
theorem L_eqS {i j : Str} (q : Q (.bl (decide (i = j))) H) : aEq K (.str i) (.str j) H Q := .inl ⟨rfl, by rw [show decide (V.str i = V.str j) = decide (i = j) by simp]; exact q⟩
theorem L_eqB {i j : Bool} (q : Q (.bl (decide (i = j))) H) : aEq K (.bl i) (.bl j) H Q := .inl ⟨rfl, by rw [show decide (V.bl i = V.bl j) = decide (i = j) by simp]; exact q⟩
theorem L_neI {i j : Int} (q : Q (.bl (!decide (i = j))) H) : aNe K (.int i) (.int j) H Q := .inl ⟨rfl, by rw [show decide (V.int i = V.int j) = decide (i = j) by simp]; exact q⟩
theorem L_neS {i j : Str} (q : Q (.bl (!decide (i = j))) H) : aNe K (.str i) (.str j) H Q := .inl ⟨rfl, by rw [show decide (V.str i = V.str j) = decide (i = j) by simp]; exact q⟩
theorem L_eqD {d e : PyData} (hx : Dp K H x d) (hy : Dp K H y e) (sd : SeqAt.shaped d = true) (se : SeqAt.shaped e = true) (q : Q (.bl (PyData.eqv d e)) H) : aEq K x y H Q := .inr ⟨d, e, hx, hy, sd, se, q⟩
theorem L_neD {d e : PyData} (hx : Dp K H x d) (hy : Dp K H y e) (sd : SeqAt.shaped d = true) (se : SeqAt.shaped e = true) (q : Q (.bl (!PyData.eqv d e)) H) : aNe K x y H Q := .inr ⟨d, e, hx, hy, sd, se, q⟩
theorem L_leI {i j : Int} (q : Q (.bl (decide (i ≤ j))) H) : aLe (.int i) (.int j) H Q := .inl ⟨i, j, rfl, rfl, q⟩
theorem L_leS {i j : Str} (q : Q (.bl (!decide (j.cps.toList < i.cps.toList))) H) : aLe (.str i) (.str j) H Q := .inr ⟨i, j, rfl, rfl, q⟩
theorem L_ltI {i j : Int} (q : Q (.bl (decide (i < j))) H) : aLt (.int i) (.int j) H Q := .inl ⟨i, j, rfl, rfl, q⟩
theorem L_isN (q : Q (.bl (decide (x = .non))) H) : aIsN x .non H Q := ⟨rfl, q⟩
theorem L_notN (q : Q (.bl (!decide (x = .non))) H) : aNotN x .non H Q := ⟨rfl, q⟩
theorem L_inC {a : Nat} {z : Str} (q : Q (.bl (decide (a ∈ z.cps.toList))) H) : aIn K (.str ⟨#[a]⟩) (.str z) H Q := .inl ⟨a, z, rfl, rfl, q⟩
theorem L_notInC {a : Nat} {z : Str} (q : Q (.bl (!decide (a ∈ z.cps.toList))) H) : aNotIn K (.str ⟨#[a]⟩) (.str z) H Q := .inl ⟨a, z, rfl, rfl, q⟩
theorem L_fld {f : Str} (h : ta σ H fun x H1 => ∃ a C dx fs v, x = .ref a ∧ H1 a = some (.ins C dx fs) ∧ Cls K C ∧ NoAttr K C f ∧ fs.lookup f = some v ∧ Q v H1) : tFld K ta f σ H Q := h
theorem L_fldv {a C dx : Addr} {fs : List (Str × V)} {f : Str} {Q : V → Prop} (h : H a = some (.ins C dx fs)) (cl : Cls K C) (n : NoAttr K C f) (l : fs.lookup f = some v) (q : Q v) :
    ∃ a' C dx fs v, V.ref a = V.ref a' ∧ H a' = some (.ins C dx fs) ∧ Cls K C ∧ NoAttr K C f ∧ fs.lookup f = some v ∧ Q v := ⟨a, C, dx, fs, v, rfl, h, cl, n, l, q⟩
theorem L_tTest {Q : Bool → Hp → Prop} (h : te σ H fun x H' => ∃ k, x = .bl k ∧ Q k H') : tTest te σ H Q := h
theorem L_tB {Q : Bool → Hp → Prop} (h : te σ H fun x H' => ∃ k, x = .bl k ∧ Q k H') : tB te σ H Q := h
theorem L_k {b : Bool} {Q : Bool → Prop} (q : Q b) : ∃ k, V.bl b = V.bl k ∧ Q k := ⟨b, rfl, q⟩
theorem L_tru {Q : Bool → Hp → Prop} (h : te σ H fun x H' => ∃ k, TruV K x H' k ∧ Q k H') : aTru K te σ H Q := h
theorem L_truB {b : Bool} {Q : Bool → Prop} (q : Q b) : ∃ k, TruV K (.bl b) H k ∧ Q k := ⟨b, rfl, q⟩
theorem L_truI {i : Int} {Q : Bool → Prop} (q : Q (i != 0)) : ∃ k, TruV K (.int i) H k ∧ Q k := ⟨_, rfl, q⟩
theorem L_and {Q : Bool → Hp → Prop} (h : c σ H fun b H1 => if b = true then d σ H1 Q else Q false H1) : tAnd c d σ H Q := h
theorem L_or {Q : Bool → Hp → Prop} (h : c σ H fun b H1 => if b = true then Q true H1 else d σ H1 Q) : tOr c d σ H Q := h
theorem L_not {Q : Bool → Hp → Prop} (h : c σ H fun b H1 => Q (!b) H1) : tNot c σ H Q := h
theorem L_andV (h : ta σ H fun x H1 => ∃ c, x = .bl c ∧ if c = true then tb σ H1 Q else Q (.bl false) H1) : tAndV ta tb σ H Q := h
theorem L_orV (h : ta σ H fun x H1 => ∃ c, x = .bl c ∧ if c = true then Q (.bl true) H1 else tb σ H1 Q) : tOrV ta tb σ H Q := h
theorem L_notV (h : ta σ H fun x H1 => ∃ c, x = .bl c ∧ Q (.bl (!c)) H1) : tNotV ta σ H Q := h
theorem L_ifE (h : c σ H fun b H1 => if b = true then ta σ H1 Q else tb σ H1 Q) : tIf c ta tb σ H Q := h
theorem L_chain (h : ta σ H fun x H1 => tb σ H1 fun y H2 => r x y H2 fun z H3 => ∃ k, z = .bl k ∧ (if k = true then tc σ H3 fun w' H4 => r' y w' H4 Q else Q (.bl false) H3)) : tChain r r' ta tb tc σ H Q := h
theorem L_T {A B : Prop} (a : A) : if true = true then A else B := by rw [if_pos rfl]; exact a
theorem L_F {A B : Prop} (b : B) : if false = true then A else B := by rw [if_neg Bool.false_ne_true]; exact b
theorem L_dT {p : Prop} [Decidable p] {A B : Prop} (h : p) (a : A) : if decide p = true then A else B := by rw [decide_eq_true h]; exact L_T a
theorem L_dF {p : Prop} [Decidable p] {A B : Prop} (h : ¬ p) (b : B) : if decide p = true then A else B := by rw [decide_eq_false h]; exact L_F b
theorem L_d {p : Prop} [Decidable p] {A B : Prop} (a : p → A) (b : ¬ p → B) : if decide p = true then A else B := by
  by_cases h : p
  · exact L_dT h (a h)
  · exact L_dF h (b h)
theorem L_nd {p : Prop} [Decidable p] {A B : Prop} (a : ¬ p → A) (b : p → B) : if (!decide p) = true then A else B := by
  by_cases h : p
  · rw [decide_eq_true h]; exact L_F (b h)
  · rw [decide_eq_false h]; exact L_T (a h)
theorem L_ndT {p : Prop} [Decidable p] {A B : Prop} (h : ¬ p) (a : A) : if (!decide p) = true then A else B := by rw [decide_eq_false h]; exact L_T a
theorem L_ndF {p : Prop} [Decidable p] {A B : Prop} (h : p) (b : B) : if (!decide p) = true then A else B := by rw [decide_eq_true h]; exact L_F b
theorem L_b {k : Bool} {A B : Prop} (a : k = true → A) (b : k = false → B) : if k = true then A else B := by
  cases k with
  | true => exact L_T (a rfl)
  | false => exact L_F (b rfl)
theorem L_nT {A B : Prop} (b : B) : if (!true) = true then A else B := L_F b
theorem L_nF {A B : Prop} (a : A) : if (!false) = true then A else B := L_T a
theorem L_nil {Q : List V → Hp → Prop} (q : Q [] H) : tNil σ H Q := q
theorem L_cons {Q : List V → Hp → Prop} (h : ta σ H fun x H1 => tr σ H1 fun xs H2 => Q (x :: xs) H2) : tCons ta tr σ H Q := h
theorem L_tup (h : tr σ H fun xs H1 => xs.length ≤ sizeLine ∧ ∀ p, H1 p = none → Q (.ref p) (upd H1 p (.tup xs))) : tTup tr σ H Q := h
theorem L_lst (h : tr σ H fun xs H1 => xs.length ≤ sizeLine ∧ ∀ p, H1 p = none → Q (.ref p) (upd H1 p (.lst xs))) : tLst tr σ H Q := h
theorem L_new {n : Nat} {R : Prop} (hl : n ≤ sizeLine) (q : R) : n ≤ sizeLine ∧ R := ⟨hl, q⟩
theorem L_call {sp : Sp} {E : XK} (h : tr σ H fun vs H1 => sp vs H1 Q E) : tCall sp [] E tr σ H Q := by
  unfold tCall
  simp only [List.append_nil]
  exact h
theorem L_cb {r : List V → Hp → VK → Prop} (h : tr σ H fun vs H1 => r vs H1 Q) : tCB r tr σ H Q := h
theorem L_lenL {a : Addr} {xs : List V} (h : SqL K H a xs) (q : Q (.int xs.length) H) : aLen K [.ref a] H Q := .inl ⟨a, xs, rfl, .inl h, q⟩
theorem L_lenT {a : Addr} {xs : List V} (h : SqT K H a xs) (q : Q (.int xs.length) H) : aLen K [.ref a] H Q := .inl ⟨a, xs, rfl, .inr h, q⟩
theorem L_lenS {z : Str} (h : z.length ≤ sizeLine) (q : Q (.int z.length) H) : aLen K [.str z] H Q := .inr (.inl ⟨z, rfl, h, q⟩)
theorem L_abs {i : Int} (q : Q (.int (if i < 0 then -i else i)) H) : aAbs [.int i] H Q := ⟨i, rfl, q⟩
theorem L_max2 {i j : Int} (q : Q (.int (max i j)) H) : aMax2 [.int i, .int j] H Q := ⟨i, j, rfl, by rw [show (if j > i then j else i) = max i j by omega]; exact q⟩
theorem L_min2 {i j : Int} (q : Q (.int (min i j)) H) : aMin2 [.int i, .int j] H Q := ⟨i, j, rfl, by rw [show (if j < i then j else i) = min i j by omega]; exact q⟩
theorem L_int1 {i : Int} (q : Q (.int i) H) : aInt1 [.int i] H Q := .inl ⟨i, rfl, q⟩
theorem L_int1B {k : Bool} (q : Q (.int (if k then 1 else 0)) H) : aInt1 [.bl k] H Q := .inr ⟨k, rfl, q⟩
theorem L_isi {a n : String} {b : Bool} (hx : TyX K H x (.type a)) (hk : kitB a n = some b) (q : Q (.bl b) H) : rIsi K [x, .ty n] H Q := ⟨x, .ty n, .type a, .type n, b, rfl, .ty n, hx, kit_ty hk, q⟩
theorem L_ixL {p : Addr} {xs : List V} {i : Int} (h : SqL K H p xs) (ha : atI xs i = some v) (q : Q v H) : rIx K (.ref p) (.int i) H Q := .inl ⟨p, xs, i, v, rfl, rfl, h, ha, q⟩
theorem L_ixT {p : Addr} {xs : List V} {i : Int} (h : SqT K H p xs) (ha : atI xs i = some v) (q : Q v H) : rIx K (.ref p) (.int i) H Q := .inr (.inl ⟨p, xs, i, v, rfl, rfl, h, ha, q⟩)
theorem L_ixS {z : Str} {i : Int} {a : Nat} (h : z.length ≤ sizeLine) (ha : atI z.cps.toList i = some a) (q : Q (.str ⟨#[a]⟩) H) : rIx K (.str z) (.int i) H Q := .inr (.inr ⟨z, i, a, rfl, rfl, h, ha, q⟩)
theorem L_bm {T : String} {r : V → List V → Hp → VK → Prop} (h : te σ H fun x H1 => tyV K T x H1 ∧ tr σ H1 fun xs H2 => r x xs H2 Q) : tBM K T r te tr σ H Q := h
theorem L_tyL {a : Addr} {xs : List V} {R : Prop} (h : SqL K H a xs) (q : R) : tyV K "list" (.ref a) H ∧ R := ⟨.inl ⟨rfl, xs, h⟩, q⟩
theorem L_app {a : Addr} {xs : List V} (h : H a = some (.lst xs)) (hl : xs.length < sizeLine) (q : Q .non (upd H a (.lst (xs ++ [v])))) : rAppend (.ref a) [v] H Q := ⟨a, xs, v, rfl, rfl, h, hl, q⟩
theorem L_sum {a : Addr} {ns : List Int} (h : SqL K H a (ns.map V.int)) (q : Q (.int ns.sum) H) : rSum K [.ref a] H Q := ⟨a, ns, rfl, h, q⟩
theorem L_while (W : Nat → L2.St → Hp → Prop) (h0 : ∃ m, W m σ H) (hs : ∀ m σ H, W m σ H → c σ H fun b H1 => if b = true then ∃ M : L2.St → Hp → Prop, (∀ σ' H', M σ' H' → ∃ m', m' < m ∧ W m' σ' H') ∧ t ⟨M, R, N, M⟩ σ H1 else N σ H1) : tWhile c t ⟨N, R, B, C⟩ σ H := ⟨W, h0, hs⟩
theorem L_N {W : Nat → L2.St → Hp → Prop} {m : Nat} (h : t ⟨fun σ' H' => ∃ m', m' < m ∧ W m' σ' H', R, N, fun σ' H' => ∃ m', m' < m ∧ W m' σ' H'⟩ σ H) :
    ∃ M : L2.St → Hp → Prop, (∀ σ' H', M σ' H' → ∃ m', m' < m ∧ W m' σ' H') ∧ t ⟨M, R, N, M⟩ σ H := ⟨_, fun _ _ h => h, h⟩
theorem L_cut {Mid : L2.St → Hp → Prop} (h : t ⟨Mid, R, B, C⟩ σ H) (k : ∀ σ' H', Mid σ' H' → u ⟨N, R, B, C⟩ σ' H') : Evl.tCut t u ⟨N, R, B, C⟩ σ H := ⟨Mid, h, k⟩
theorem L_for {wi : TI} (h : wi σ H fun J H1 => ∃ W : Nat → Nat → L2.St → Hp → Prop, (∃ m, W 0 m σ H1) ∧ ∀ i m σ H, W i m σ H →
      (J.stop i H ∧ N σ H) ∨ (J.go i H ∧ ∃ M : L2.St → Hp → Prop, (∀ σ' H', M σ' H' → ∃ m', m' < m ∧ W (i + 1) m' σ' H') ∧ ∀ x H', J.yld i H x H' → g x σ H' fun σ2 H2 => t ⟨M, R, N, M⟩ σ2 H2)) : tFor wi g t ⟨N, R, B, C⟩ σ H := h
theorem L_iRng1 {R : It → Hp → Prop} (h : tr σ H fun vs H1 => ∃ j : Int, vs = [.int j] ∧ -(2 ^ 62) ≤ j ∧ j < 2 ^ 62 ∧ R (Itr 0 j.toNat) H1) : iRng1 tr σ H R := h
theorem L_iRng2 {R : It → Hp → Prop} (h : tr σ H fun vs H1 => ∃ i j : Int, vs = [.int i, .int j] ∧ (-(2 ^ 62) ≤ i ∧ i < 2 ^ 62 ∧ -(2 ^ 62) ≤ j ∧ j < 2 ^ 62) ∧ R (Itr i (j - i).toNat) H1) : iRng2 tr σ H R := h
theorem L_iList {R : It → Hp → Prop} (h : te σ H fun x H1 => ∃ a, x = .ref a ∧ (∃ xs, SqL K H1 a xs) ∧ R (Itl K a) H1) : iList K te σ H R := h
theorem L_iTup {R : It → Hp → Prop} (h : te σ H fun x H1 => ∃ a, x = .ref a ∧ (∃ xs, SqT K H1 a xs) ∧ R (Itt K a) H1) : iTup K te σ H R := h
theorem L_r1 {n : Int} {R : Int → Prop} (h1 : -(2 ^ 62) ≤ n) (h2 : n < 2 ^ 62) (q : R n) : ∃ j : Int, [V.int n] = [V.int j] ∧ -(2 ^ 62) ≤ j ∧ j < 2 ^ 62 ∧ R j := ⟨n, rfl, h1, h2, q⟩
theorem L_r2 {a n : Int} {R : Int → Int → Prop} (h : -(2 ^ 62) ≤ a ∧ a < 2 ^ 62 ∧ -(2 ^ 62) ≤ n ∧ n < 2 ^ 62) (q : R a n) : ∃ i j : Int, [V.int a, V.int n] = [V.int i, V.int j] ∧ (-(2 ^ 62) ≤ i ∧ i < 2 ^ 62 ∧ -(2 ^ 62) ≤ j ∧ j < 2 ^ 62) ∧ R i j := ⟨a, n, rfl, h, q⟩
theorem L_rl {a : Addr} {xs : List V} {R : Addr → Prop} (h : SqL K H a xs) (q : R a) : ∃ b, V.ref a = V.ref b ∧ (∃ xs, SqL K H b xs) ∧ R b := ⟨a, rfl, ⟨xs, h⟩, q⟩
theorem L_rt {a : Addr} {xs : List V} {R : Addr → Prop} (h : SqT K H a xs) (q : R a) : ∃ b, V.ref a = V.ref b ∧ (∃ xs, SqT K H b xs) ∧ R b := ⟨a, rfl, ⟨xs, h⟩, q⟩
end
theorem sz_dec {n : Nat} (h : n ≤ 1000000) : n ≤ sizeLine := Nat.le_trans h (by decide)
theorem sz_lt {n : Nat} (h : n < 1000000) : n < sizeLine := Nat.lt_of_lt_of_le h (by decide)
/-! ### sizes of ints -/
/-- less than n bits -/
def Bd (n : Nat) (i : Int) : Prop := i.natAbs < 2 ^ n
theorem Bd.mono {n m : Nat} {i : Int} (h : Bd n i) (hm : n ≤ m) : Bd m i := Nat.lt_of_lt_of_le h (Nat.pow_le_pow_right (by decide) hm)
theorem Bd.mul {n m : Nat} {i j : Int} (h : Bd n i) (k : Bd m j) : Bd (n + m) (i * j) := wide_lt h k
theorem Bd.add {n m : Nat} {i j : Int} (h : Bd n i) (k : Bd m j) : Bd (max n m + 1) (i + j) := by
  have a := h.mono (Nat.le_max_left n m)
  have b := k.mono (Nat.le_max_right n m)
  unfold Bd at *
  rw [Nat.pow_succ]
  have := Int.natAbs_add_le i j
  omega
theorem Bd.neg {n : Nat} {i : Int} (h : Bd n i) : Bd n (-i) := by unfold Bd at *; rw [Int.natAbs_neg]; exact h
theorem Bd.sub {n m : Nat} {i j : Int} (h : Bd n i) (k : Bd m j) : Bd (max n m + 1) (i - j) := by
  rw [Int.sub_eq_add_neg]; exact h.add k.neg
theorem Bd.cmul {n m : Nat} {i j : Int} (h : Bd n i) (k : Bd m j) (hz : n + m + 2 ≤ 1000000 := by decide) : CMulW i j :=
  wide_mul (h.mono (Nat.le_succ n)) (k.mono (Nat.le_succ m)) (Nat.succ_pos _) (Nat.succ_pos _) (by omega)
theorem Bd.cdiv {n : Nat} {i j : Int} (k : Bd n j) (h : 0 < j) (hz : n + 1 ≤ 9000 := by decide) : CDivW i j := wide_div h (k.mono (Nat.le_succ n)) (Nat.succ_pos _) hz
theorem bd_lit {i : Int} (h : -4294967296 < i ∧ i < 4294967296) : Bd 32 i := by
  unfold Bd
  have : (2 : Nat) ^ 32 = 4294967296 := by decide
  omega
theorem bd_64 {i : Int} (h : -18446744073709551616 < i ∧ i < 18446744073709551616) : Bd 64 i := by
  unfold Bd
  have : (2 : Nat) ^ 64 = 18446744073709551616 := by decide
  omega
/-- an item of the script, or what stands in its place -/
def cellAt (ns : List Int) (k d : Int) : Int := if k < (ns.length : Int) then ns.getD k.toNat 0 else d
theorem cellAt_in {ns : List Int} {k d : Int} (h0 : 0 ≤ k) (h : k < (ns.length : Int)) : atI (ns.map V.int) k = some (V.int (cellAt ns k d)) := by
  obtain ⟨j, rfl⟩ : ∃ j : Nat, k = (j : Int) := ⟨k.toNat, by omega⟩
  have hl : j < ns.length := by omega
  unfold cellAt
  rw [if_pos h]
  refine atI_nat ?_
  rw [List.getElem?_map, List.getElem?_eq_getElem hl]
  simp [List.getD, List.getElem?_eq_getElem hl]
theorem cellAt_out {ns : List Int} {k d : Int} (h : ¬ k < (ns.length : Int)) : cellAt ns k d = d := if_neg h
theorem cellAt_mem {ns : List Int} {k d : Int} (h0 : 0 ≤ k) : cellAt ns k d ∈ ns ∨ cellAt ns k d = d := by
  unfold cellAt
  split
  · rename_i h
    have hl : k.toNat < ns.length := by omega
    left
    simp [List.getD, List.getElem?_eq_getElem hl]
  · exact .inr rfl
theorem _root_.L2.Same.seqT {K : PySem.W.Frag} {H H' : Hp} {a : Addr} {xs : List V} (e : Same H H') (h : SqT K H a xs) : SqT K H' a xs := by
  rcases h with (h | ⟨o, h⟩) | h
  · exact .inl (.inl (e _ _ h))
  · exact .inl (.inr ⟨o, e _ _ h⟩)
  · exact .inr h
/-! ### what is walked: more -/
section
variable {K : PySem.W.Frag} {σ : L2.St} {H : Hp} {te : TE} {tr : TA} {Q : VK} {g : TG} {tt : TT}
theorem L_yes {Q : Bool → Hp → Prop} (q : Q true H) : tYes σ H Q := q
theorem L_iZip {R : It → Hp → Prop} (h : tr σ H fun vs H1 => ∃ a b xs ys, vs = [.ref a, .ref b] ∧ SqL K H1 a xs ∧ SqL K H1 b ys ∧ R (Itz K a b) H1) : iZip K tr σ H R := h
theorem L_iEnum {R : It → Hp → Prop} (h : tr σ H fun vs H1 => ∃ a xs, vs = [.ref a] ∧ SqL K H1 a xs ∧ R (Ite K a) H1) : iEnum K tr σ H R := h
theorem L_iStr {R : It → Hp → Prop} (h : te σ H fun v H1 => ∃ x, v = .str x ∧ R (Its x) H1) : iStr te σ H R := h
theorem L_iRng3 {R : It → Hp → Prop} (h : tr σ H fun vs H1 => ∃ (i j c : Int) (n : Nat), vs = [.int i, .int j, .int c] ∧ RgC i j c n ∧ R (Itc i c n) H1) : iRng3 tr σ H R := h
theorem L_rz {a b : Addr} {xs ys : List V} {R : Addr → Addr → Prop} (h1 : SqL K H a xs) (h2 : SqL K H b ys) (q : R a b) : ∃ a' b' xs ys, [V.ref a, V.ref b] = [.ref a', .ref b'] ∧ SqL K H a' xs ∧ SqL K H b' ys ∧ R a' b' := ⟨a, b, xs, ys, rfl, h1, h2, q⟩
theorem L_re {a : Addr} {xs : List V} {R : Addr → Prop} (h1 : SqL K H a xs) (q : R a) : ∃ a' xs, [V.ref a] = [.ref a'] ∧ SqL K H a' xs ∧ R a' := ⟨a, xs, rfl, h1, q⟩
theorem L_rs {z : Str} {R : Str → Prop} (q : R z) : ∃ x, V.str z = .str x ∧ R x := ⟨z, rfl, q⟩
theorem L_r3 {i j c : Int} {n : Nat} {R : Int → Int → Nat → Prop} (h : RgC i j c n) (q : R i c n) : ∃ (i' j' c' : Int) (n : Nat), [V.int i, V.int j, V.int c] = [.int i', .int j', .int c'] ∧ RgC i' j' c' n ∧ R i' c' n := ⟨i, j, c, n, rfl, h, q⟩
theorem L_lc {wi : TI} {vs : List Nat} (h : wi σ H fun J H1 => ∀ D, H1 D = none → ∃ W : Nat → Nat → Hp → Prop, (∃ m, W 0 m (upd H1 D (.lst []))) ∧ ∀ i m H, W i m H →
  (J.stop i H ∧ Q (.ref D) H) ∨ (J.go i H ∧ ∃ Nx : Hp → Prop, (∀ H', Nx H' → ∃ m', m' < m ∧ W (i + 1) m' H') ∧ ∀ x H', J.yld i H x H' → g x (wipe σ vs) H' fun σ2 H2 => wipe σ2 vs = wipe σ vs ∧ tt σ2 H2 fun b H3 =>
    if b = true then te σ2 H3 fun y H4 => ∃ acc, H4 D = some (.lst acc) ∧ acc.length < sizeLine ∧ Nx (upd H4 D (.lst (acc ++ [y]))) else Nx H3)) : tLc wi g tt te vs σ H Q := h
theorem fm_succ (f : Nat → Option V) (i : Nat) : (List.range (i + 1)).filterMap f = (List.range i).filterMap f ++ (match f i with | some y => [y] | none => []) := by
  rw [List.range_succ, List.filterMap_append]
  cases h : f i <;> simp [h]
theorem fm_len (f : Nat → Option V) (i : Nat) : ((List.range i).filterMap f).length ≤ i := by
  have := List.length_filterMap_le f (List.range i)
  simpa using this
/-- a comprehension whose things are told one by one: f i is what turn i gives, none where its test is false -/
theorem lc_fm {J : It} {n : Nat} {G : Hp → Prop} {Y : Nat → Hp → V → Hp → Prop} (w : L2.Walk J n G Y) {vs : List Nat} {Qd : Addr → Hp → Prop} (f : Nat → Option V) (hn : n ≤ 1000000) (hG : ∀ H', Same H H' → G H')
    (hs : ∀ i x H2 H' (R : V → Hp → Prop) (R' : Hp → Prop), i < n → Same H H2 → Y i H2 x H' → (∀ y H4, f i = some y → Same H2 H4 → R y H4) → (∀ H3, f i = none → Same H2 H3 → R' H3) →
      g x (wipe σ vs) H' fun σ2 H2 => wipe σ2 vs = wipe σ vs ∧ tt σ2 H2 fun b H3 => if b = true then te σ2 H3 R else R' H3)
    (q : ∀ p H', H p = none → Same H H' → H' p = some (.lst ((List.range n).filterMap f)) → Qd p H') :
    ∀ D, H D = none → ∃ W : Nat → Nat → Hp → Prop, (∃ m, W 0 m (upd H D (.lst []))) ∧ ∀ i m H, W i m H →
      (J.stop i H ∧ Qd D H) ∨ (J.go i H ∧ ∃ Nx : Hp → Prop, (∀ H', Nx H' → ∃ m', m' < m ∧ W (i + 1) m' H') ∧ ∀ x H', J.yld i H x H' → g x (wipe σ vs) H' fun σ2 H2 => wipe σ2 vs = wipe σ vs ∧ tt σ2 H2 fun b H3 =>
        if b = true then te σ2 H3 fun y H4 => ∃ acc, H4 D = some (.lst acc) ∧ acc.length < sizeLine ∧ Nx (upd H4 D (.lst (acc ++ [y]))) else Nx H3) := by
  intro D hD
  refine lc_it w (fun i H2 => Same H H2 ∧ H2 D = some (.lst ((List.range i).filterMap f))) ⟨same_new hD, upd_same⟩ (fun i H2 _ p => hG H2 p.1) ?_ (fun H2 p => q D H2 hD p.1 p.2)
  intro i x H2 H' hi ⟨p1, p2⟩ y
  refine hs i x H2 H' _ _ hi p1 y (fun y H4 e s => ?_) (fun H3 e s => ?_)
  · refine ⟨_, s _ _ p2, sz_lt (by have := fm_len f i; omega), ?_, ?_⟩
    · intro b o hb
      rw [upd_ne (ne_of_none hb hD)]
      exact s _ _ (p1 _ _ hb)
    · rw [fm_succ, e]; exact upd_same
  · refine ⟨p1.trans s, ?_⟩
    rw [fm_succ, e, List.append_nil]
    exact s _ _ p2
theorem fm_map {α : Type} (f : Nat → α) (h : α → V) (n : Nat) : (List.range n).filterMap (fun i => some (h (f i))) = ((List.range n).map f).map h := by
  rw [List.map_map]
  induction n with
  | zero => rfl
  | succ n ih => rw [fm_succ (fun i => some (h (f i))), ih, List.range_succ, List.map_append]; rfl
theorem rgC_up {i j c : Int} (hc : 0 < c) (hc2 : c < 1000000) (hi : -1000000000 ≤ i ∧ i ≤ 1000000000) (hj : -1000000000 ≤ j ∧ j ≤ 1000000000) : RgC i j c (if i < j then ((j - i - 1) / c + 1).toNat else 0) := by
  have e : Builtin.Range.rangeSize i j c = ((if i < j then ((j - i - 1) / c + 1).toNat else 0 : Nat) : Int) := by
    unfold Builtin.Range.rangeSize
    rw [if_pos (by omega)]
    split
    · have : 0 ≤ (j - i - 1) / c := Int.ediv_nonneg (by omega) (by omega)
      omega
    · rfl
  refine ⟨by omega, by omega, ?_, e⟩
  unfold Builtin.Range.small
  rw [e]
  have hz : ((if i < j then ((j - i - 1) / c + 1).toNat else 0 : Nat) : Int) * c ≤ 4000000000 ∧ ((if i < j then ((j - i - 1) / c + 1).toNat else 0 : Nat) : Int) ≤ 4000000000 ∧ 0 ≤ ((if i < j then ((j - i - 1) / c + 1).toNat else 0 : Nat) : Int) := by
    split
    · have h0 : 0 ≤ (j - i - 1) / c := Int.ediv_nonneg (by omega) (by omega)
      have h1 : (j - i - 1) / c * c ≤ j - i - 1 := Int.ediv_mul_le _ (by omega)
      have h2 : (j - i - 1) / c ≤ j - i - 1 := Int.ediv_le_self _ (by omega)
      have h3 : (((j - i - 1) / c + 1).toNat : Int) = (j - i - 1) / c + 1 := by omega
      rw [h3, Int.add_mul]
      omega
    · simp
  generalize ((if i < j then ((j - i - 1) / c + 1).toNat else 0 : Nat) : Int) = n at *
  simp only [Builtin.Range.rangeFitsLong, Bool.and_eq_true, Bool.or_eq_true, decide_eq_true_eq, beq_iff_eq]
  refine ⟨by omega, .inr ?_⟩
  rw [if_pos (by omega), Bool.and_eq_true, decide_eq_true_eq, decide_eq_true_eq]
  omega
/-- what making an instance asks -/
def MakeP (C : Addr) (sp : Sp) (E : XK) (vs : List V) (H : Hp) (Q : VK) : Prop := ∀ x dx, H x = none → H dx = none → dx ≠ x → sp (.ref x :: vs) (upd (upd H dx (.own x)) x (.ins C dx [])) (fun v H2 => v = .non ∧ Q (.ref x) H2) E
theorem L_make {C : Addr} {sp : Sp} {E : XK} (h : tr σ H fun vs H1 => MakeP C sp E vs H1 Q) : tMake C sp [] E tr σ H Q := by
  unfold tMake
  simp only [List.append_nil]
  exact h
/-- a new instance: all that stood stands -/
def NewI (H : Hp) (C : Addr) (fs : List (Str × V)) (Q : VK) : Prop := ∀ p H' dx, H p = none → Same H H' → H' p = some (.ins C dx fs) → Q (.ref p) H'
theorem L_gTup {n : Nat} {t : TGs} {a : Addr} {xs : List V} {Q : L2.St → Hp → Prop} (h : SqT K H a xs) (hn : xs.length = n) (q : t xs σ H Q) : gTup K n t (.ref a) σ H Q := ⟨a, xs, rfl, h, hn, q⟩
theorem L_gLst {n : Nat} {t : TGs} {a : Addr} {xs : List V} {Q : L2.St → Hp → Prop} (h : SqL K H a xs) (hn : xs.length = n) (q : t xs σ H Q) : gLst K n t (.ref a) σ H Q := ⟨a, xs, rfl, h, hn, q⟩
theorem L_gCons {v : V} {r : List V} {t : TG} {u : TGs} {Q : L2.St → Hp → Prop} (q : t v σ H fun σ' H' => u r σ' H' Q) : gCons t u (v :: r) σ H Q := ⟨v, r, rfl, q⟩
theorem L_gNil {Q : L2.St → Hp → Prop} (q : Q σ H) : gNil [] σ H Q := ⟨rfl, q⟩
theorem L_sub {to ti : TE} {t : TSet} {v : V} {Q : L2.St → Hp → Prop} (h : to σ H fun o H1 => ti σ H1 fun i H2 => t o i v H2 fun H3 => Q σ H3) : gSub to ti t v σ H Q := h
theorem L_setL {p : Addr} {xs : List V} {k : Int} {j : Nat} {v : V} {Q : Hp → Prop} (h : H p = some (.lst xs)) (hj : ixN xs.length k = some j) (q : Q (upd H p (.lst (xs.set j v)))) : rSetL (.ref p) (.int k) v H Q := ⟨p, xs, k, j, rfl, rfl, h, hj, q⟩
theorem ixN_of {n : Nat} {k : Int} (h0 : 0 ≤ k) (h : k < n) : ixN n k = some k.toNat := by
  unfold ixN
  rw [if_pos h0, if_pos h]
theorem L_sFld {f : Str} {ta tv : TE} {N B C' : L2.St → Hp → Prop} {R : VK} (h : tv σ H fun y H1 => ta σ H1 fun x H2 => ∃ a C dx fs, x = .ref a ∧ H2 a = some (.ins C dx fs) ∧ Cls K C ∧ NoAttr K C f ∧ fs.length < 1000 ∧ N σ (upd H2 a (.ins C dx (putF f y fs)))) : sFld K ta tv f ⟨N, R, B, C'⟩ σ H := h
theorem L_sFldv {a C dx : Addr} {fs : List (Str × V)} {f : Str} {Q : Addr → Addr → Addr → List (Str × V) → Prop} (h : H a = some (.ins C dx fs)) (cl : Cls K C) (n : NoAttr K C f) (l : fs.length < 1000) (q : Q a C dx fs) :
    ∃ a' C dx fs, V.ref a = V.ref a' ∧ H a' = some (.ins C dx fs) ∧ Cls K C ∧ NoAttr K C f ∧ fs.length < 1000 ∧ Q a' C dx fs := ⟨a, C, dx, fs, rfl, h, cl, n, l, q⟩
theorem L_repL {a : Addr} {xs : List V} {k : Int} (h : H a = some (.lst xs)) (h1 : -(2 ^ 63) ≤ k) (h2 : k < 2 ^ 63) (h3 : xs.length * k.toNat ≤ sizeLine) (q : ∀ p, H p = none → Q (.ref p) (upd H p (.lst (List.replicate k.toNat xs).flatten))) : aMul (.ref a) (.int k) H Q := .inr ⟨a, k, xs, rfl, rfl, h, h1, h2, h3, q⟩
theorem atI_int {xs : List V} {k : Int} {v : V} (h0 : 0 ≤ k) (h : xs[k.toNat]? = some v) : atI xs k = some v := by
  obtain ⟨j, rfl⟩ : ∃ j : Nat, k = (j : Int) := ⟨k.toNat, by omega⟩
  exact atI_nat h
theorem atI_ints {xs : List Int} {k : Int} (h0 : 0 ≤ k) (h : k < xs.length) : atI (xs.map V.int) k = some (.int (xs.getD k.toNat 0)) := by
  refine atI_int h0 ?_
  have hl : k.toNat < xs.length := by omega
  rw [List.getElem?_map, List.getElem?_eq_getElem hl]
  simp [List.getD, List.getElem?_eq_getElem hl]
theorem L_nw {xs : List V} {R : Prop} (q : R) (hl : xs.length ≤ 1000000 := by simp) : xs.length ≤ sizeLine ∧ R := ⟨sz_dec hl, q⟩
end
theorem fm_succ' {α : Type} (f : Nat → Option α) (i : Nat) : (List.range (i + 1)).filterMap f = (List.range i).filterMap f ++ (match f i with | some y => [y] | none => []) := by
  rw [List.range_succ, List.filterMap_append]
  cases h : f i <;> simp [h]
theorem fm_len' {α : Type} (f : Nat → Option α) (i : Nat) : ((List.range i).filterMap f).length ≤ i := by
  have := List.length_filterMap_le f (List.range i)
  simpa using this
/-! ### data as trees -/
mutual
theorem Dp_same {K : PySem.W.Frag} {H H' : Hp} (e : Same H H') : ∀ (d : PyData) {v : V}, Dp K H v d → Dp K H' v d
  | .none, _, h => by cases h; exact .non
  | .bool b, _, h => by cases h; exact .bl b
  | .int i, _, h => by cases h; exact .int i
  | .str x, _, h => by cases h; exact .str x
  | .list ds, _, h => by cases h with | lst hs ha => exact .lst (e.seq hs) (DpAll_same e ds ha)
  | .tuple ds, _, h => by cases h with | tup hs ha => exact .tup (e.seqT hs) (DpAll_same e ds ha)
  | .dict _, _, h => by cases h
theorem DpAll_same {K : PySem.W.Frag} {H H' : Hp} (e : Same H H') : ∀ (ds : List PyData) {vs : List V}, DpAll K H vs ds → DpAll K H' vs ds
  | [], _, h => by cases h; exact .nil
  | d :: ds, _, h => by cases h with | cons h1 h2 => exact .cons (Dp_same e d h1) (DpAll_same e ds h2)
end
section
variable {K : PySem.W.Frag} {H H' : Hp} {v : V} {vs : List V} {d : PyData} {ds : List PyData}
theorem _root_.L2.Dp.same (h : Dp K H v d) (e : Same H H') : Dp K H' v d := Dp_same e d h
theorem _root_.L2.DpAll.same (h : DpAll K H vs ds) (e : Same H H') : DpAll K H' vs ds := DpAll_same e ds h
theorem _root_.L2.DpAll.len : ∀ {ds : List PyData} {vs : List V}, DpAll K H vs ds → vs.length = ds.length
  | [], _, h => by cases h; rfl
  | d :: ds, _, h => by cases h with | cons h1 h2 => rw [List.length_cons, List.length_cons, h2.len]
theorem _root_.L2.DpAll.at : ∀ {ds : List PyData} {vs : List V} {i : Nat}, DpAll K H vs ds → ds[i]? = some d → ∃ v, vs[i]? = some v ∧ Dp K H v d
  | [], _, i, h, e => by simp at e
  | c :: ds, _, 0, h, e => by
    cases h with
    | cons h1 h2 =>
      rename_i v vs
      have : c = d := by simpa using e
      subst this
      exact ⟨v, by simp, h1⟩
  | c :: ds, _, i + 1, h, e => by
    cases h with
    | cons h1 h2 =>
      obtain ⟨v, q1, q2⟩ := h2.at (i := i) (by simpa using e)
      exact ⟨v, by simpa using q1, q2⟩
theorem _root_.L2.DpAll.of : ∀ {ds : List PyData} {vs : List V} {i : Nat}, DpAll K H vs ds → vs[i]? = some v → ∃ d, ds[i]? = some d ∧ Dp K H v d
  | [], _, i, h, e => by cases h; simp at e
  | c :: ds, _, 0, h, e => by
    cases h with
    | cons h1 h2 =>
      rename_i w vs
      have : w = v := by simpa using e
      subst this
      exact ⟨c, by simp, h1⟩
  | c :: ds, _, i + 1, h, e => by
    cases h with
    | cons h1 h2 =>
      obtain ⟨d, q1, q2⟩ := h2.of (i := i) (by simpa using e)
      exact ⟨d, by simpa using q1, q2⟩
theorem _root_.L2.DpAll.app : ∀ {ds es : List PyData} {vs us : List V}, DpAll K H vs ds → DpAll K H us es → DpAll K H (vs ++ us) (ds ++ es)
  | [], _, _, _, h, g => by cases h; exact g
  | d :: ds, _, _, _, h, g => by cases h with | cons h1 h2 => exact .cons h1 (h2.app g)
theorem _root_.L2.DpAll.snoc (h : DpAll K H vs ds) (g : Dp K H v d) : DpAll K H (vs ++ [v]) (ds ++ [d]) := h.app (.cons g .nil)
theorem dp_ints : ∀ (ns : List Int), DpAll K H (ns.map V.int) (ns.map PyData.int)
  | [] => .nil
  | n :: ns => .cons (.int n) (dp_ints ns)
theorem dp_strs : ∀ (ns : List Str), DpAll K H (ns.map V.str) (ns.map PyData.str)
  | [] => .nil
  | n :: ns => .cons (.str n) (dp_strs ns)
theorem of_ints : ∀ {ns : List Int} {vs : List V}, DpAll K H vs (ns.map PyData.int) → vs = ns.map V.int
  | [], _, h => by cases h; rfl
  | n :: ns, _, h => by
    cases h with
    | cons h1 h2 => cases h1; rw [of_ints h2]; rfl
theorem of_strs : ∀ {ns : List Str} {vs : List V}, DpAll K H vs (ns.map PyData.str) → vs = ns.map V.str
  | [], _, h => by cases h; rfl
  | n :: ns, _, h => by
    cases h with
    | cons h1 h2 => cases h1; rw [of_strs h2]; rfl
theorem of_tup (h : Dp K H v (.tuple ds)) : ∃ a xs, v = .ref a ∧ SqT K H a xs ∧ DpAll K H xs ds := by
  cases h with | tup h1 h2 => exact ⟨_, _, rfl, h1, h2⟩
theorem of_lst (h : Dp K H v (.list ds)) : ∃ a xs, v = .ref a ∧ SqL K H a xs ∧ DpAll K H xs ds := by
  cases h with | lst h1 h2 => exact ⟨_, _, rfl, h1, h2⟩
theorem of_int {i : Int} (h : Dp K H v (.int i)) : v = .int i := by cases h; rfl
theorem of_str {i : Str} (h : Dp K H v (.str i)) : v = .str i := by cases h; rfl
theorem of_bl {i : Bool} (h : Dp K H v (.bool i)) : v = .bl i := by cases h; rfl
theorem of_non (h : Dp K H v .none) : v = .non := by cases h; rfl
theorem of_t2 {d e : PyData} (h : Dp K H v (.tuple [d, e])) : ∃ a x y, v = .ref a ∧ SqT K H a [x, y] ∧ Dp K H x d ∧ Dp K H y e := by
  obtain ⟨a, xs, rfl, h1, h2⟩ := of_tup h
  cases h2 with
  | cons p1 p2 => cases p2 with | cons p3 p4 => cases p4; exact ⟨a, _, _, rfl, h1, p1, p3⟩
theorem of_t3 {d e f : PyData} (h : Dp K H v (.tuple [d, e, f])) : ∃ a x y z, v = .ref a ∧ SqT K H a [x, y, z] ∧ Dp K H x d ∧ Dp K H y e ∧ Dp K H z f := by
  obtain ⟨a, xs, rfl, h1, h2⟩ := of_tup h
  cases h2 with
  | cons p1 p2 => cases p2 with | cons p3 p4 => cases p4 with | cons p5 p6 => cases p6; exact ⟨a, _, _, _, rfl, h1, p1, p3, p5⟩
theorem of_t4 {d e f g : PyData} (h : Dp K H v (.tuple [d, e, f, g])) : ∃ a x y z w, v = .ref a ∧ SqT K H a [x, y, z, w] ∧ Dp K H x d ∧ Dp K H y e ∧ Dp K H z f ∧ Dp K H w g := by
  obtain ⟨a, xs, rfl, h1, h2⟩ := of_tup h
  cases h2 with
  | cons p1 p2 => cases p2 with | cons p3 p4 => cases p4 with | cons p5 p6 => cases p6 with | cons p7 p8 => cases p8; exact ⟨a, _, _, _, _, rfl, h1, p1, p3, p5, p7⟩
end
/-- the part of a heap at which P holds -/
noncomputable def rs (P : Addr → Prop) (H : Hp) : Hp := fun a => @ite _ (P a) (Classical.propDecidable _) (H a) none
theorem rs_at {P : Addr → Prop} {H : Hp} {a : Addr} {o : HO} (p : P a) (h : H a = some o) : rs P H a = some o := by unfold rs; rw [if_pos p]; exact h
theorem rs_of {P : Addr → Prop} {H : Hp} {a : Addr} {o : HO} (h : rs P H a = some o) : P a ∧ H a = some o := by
  unfold rs at h
  split at h
  · rename_i p; exact ⟨p, h⟩
  · cases h
theorem rs_same {P P' : Addr → Prop} {H H' : Hp} (h : ∀ a o, P a → H a = some o → P' a ∧ H' a = some o) : Same (rs P H) (rs P' H') := fun a o e => by
  obtain ⟨p, q⟩ := rs_of e
  obtain ⟨p', q'⟩ := h a o p q
  exact rs_at p' q'
theorem rs_sub {P : Addr → Prop} {H : Hp} : Same (rs P H) H := fun a o e => (rs_of e).2
theorem rs_in {P : Addr → Prop} {H H' : Hp} (h : ∀ a o, P a → H a = some o → H' a = some o) : Same (rs P H) H' := fun a o e => h a o (rs_of e).1 (rs_of e).2
theorem rs_all {P : Addr → Prop} {H H' : Hp} (h : ∀ a o, H a = some o → P a ∧ H' a = some o) : Same H (rs P H') := fun a o e => rs_at (h a o e).1 (h a o e).2
/-- a list that changes: what stood ahead of it stands -/
theorem same_mut {H H' : Hp} {a : Addr} {o : HO} (e : Same H H') (h : H a = none) : Same H (upd H' a o) := fun b o' q => by
  rw [upd_ne (fun z => by rw [z, h] at q; cases q)]; exact e b o' q
section
variable {K : PySem.W.Frag} {σ : L2.St} {H : Hp} {g : TG} {tt : TT} {te : TE} {tb : TS} {D : Ends} {x y : V} {Q : VK}
theorem L_rlD {v : V} {ds : List PyData} {R : Addr → Prop} (h : Dp K H v (.list ds)) (q : ∀ a, v = .ref a → R a) : ∃ b, v = V.ref b ∧ (∃ xs, SqL K H b xs) ∧ R b := by
  obtain ⟨a, xs, rfl, h1, h2⟩ := of_lst h
  exact ⟨a, rfl, ⟨xs, h1⟩, q a rfl⟩
/-- for x in a list of data -/
theorem for_dp {a : Addr} {ds : List PyData} (h : Dp K H (.ref a) (.list ds)) (Pv : Nat → L2.St → Hp → Prop) (h0 : Pv 0 σ H) (hG : ∀ i σ' H', i ≤ ds.length → Pv i σ' H' → Same H H')
    (hs : ∀ i d x σ' H', i < ds.length → ds[i]? = some d → Pv i σ' H' → Dp K H' x d → g x σ' H' fun σ2 H2 => tb { D with nx := Pv (i + 1), ct := Pv (i + 1), bk := D.nx } σ2 H2) (hd : ∀ σ' H', Pv ds.length σ' H' → D.nx σ' H') :
    ∃ W : Nat → Nat → L2.St → Hp → Prop, (∃ m, W 0 m σ H) ∧ ∀ i m σ H, W i m σ H →
      ((Itl K a).stop i H ∧ D.nx σ H) ∨ ((Itl K a).go i H ∧ ∃ N : L2.St → Hp → Prop, (∀ σ' H', N σ' H' → ∃ m', m' < m ∧ W (i + 1) m' σ' H') ∧ ∀ x H', (Itl K a).yld i H x H' → g x σ H' fun σ2 H2 => tb { D with nx := N, ct := N, bk := D.nx } σ2 H2) := by
  obtain ⟨a', xs, ea, h1, h2⟩ := of_lst h
  cases ea
  have hl := h2.len
  refine for_it walk_list Pv h0 (fun i σ' H' hi p => (hG i σ' H' (by omega) p).seq h1) (fun i x σ' H' H'' hi p ⟨e1, e2⟩ => ?_) (fun σ' H' p => hd σ' H' (by rw [← hl]; exact p))
  subst e1
  obtain ⟨d, e3, e4⟩ := h2.of e2
  exact hs i d x σ' _ (by omega) e3 p (e4.same (hG i σ' _ (by omega) p))
/-- a comprehension: what turn i gives is told as data, or none; the new list's things stand apart from it -/
theorem lc_dp {J : It} {n : Nat} {G : Hp → Prop} {Y : Nat → Hp → V → Hp → Prop} (w : L2.Walk J n G Y) {vs : List Nat} {Qd : Addr → Hp → Prop} (f : Nat → Option PyData) (hn : n ≤ 1000000) (hG : ∀ H', Same H H' → G H')
    (hs : ∀ i x p H2 H' (R : V → Hp → Prop) (R' : Hp → Prop), i < n → H p = none → Same H H2 → (∃ o, H2 p = some o) → Y i H2 x H' → (∀ y d H4, f i = some d → Same H2 H4 → Dp K (rs (· ≠ p) H4) y d → R y H4) → (∀ H3, f i = none → Same H2 H3 → R' H3) →
      g x (wipe σ vs) H' fun σ2 H2 => wipe σ2 vs = wipe σ vs ∧ tt σ2 H2 fun b H3 => if b = true then te σ2 H3 R else R' H3)
    (q : ∀ p H' vs, H p = none → Same H H' → H' p = some (.lst vs) → DpAll K (rs (· ≠ p) H') vs ((List.range n).filterMap f) → Qd p H') :
    ∀ D, H D = none → ∃ W : Nat → Nat → Hp → Prop, (∃ m, W 0 m (upd H D (.lst []))) ∧ ∀ i m H, W i m H →
      (J.stop i H ∧ Qd D H) ∨ (J.go i H ∧ ∃ Nx : Hp → Prop, (∀ H', Nx H' → ∃ m', m' < m ∧ W (i + 1) m' H') ∧ ∀ x H', J.yld i H x H' → g x (wipe σ vs) H' fun σ2 H2 => wipe σ2 vs = wipe σ vs ∧ tt σ2 H2 fun b H3 =>
        if b = true then te σ2 H3 fun y H4 => ∃ acc, H4 D = some (.lst acc) ∧ acc.length < sizeLine ∧ Nx (upd H4 D (.lst (acc ++ [y]))) else Nx H3) := by
  intro D hD
  refine lc_it w (fun i H2 => Same H H2 ∧ ∃ us, H2 D = some (.lst us) ∧ DpAll K (rs (· ≠ D) H2) us ((List.range i).filterMap f)) ⟨same_new hD, [], upd_same, .nil⟩ (fun i H2 _ p => hG H2 p.1) ?_ (fun H2 ⟨p1, us, p2, p3⟩ => q D H2 us hD p1 p2 p3)
  rintro i x H2 H' hi ⟨p1, us, p2, p3⟩ y
  refine hs i x D H2 H' _ _ hi hD p1 ⟨_, p2⟩ y (fun y d H4 e s dy => ?_) (fun H3 e s => ?_)
  · have e4 : Same (rs (· ≠ D) H2) (rs (· ≠ D) H4) := rs_same fun a o h1 h2 => ⟨h1, s _ _ h2⟩
    have e5 : Same (rs (· ≠ D) H4) (rs (· ≠ D) (upd H4 D (.lst (us ++ [y])))) := rs_same fun a o h1 h2 => ⟨h1, by rw [upd_ne h1]; exact h2⟩
    refine ⟨us, s _ _ p2, sz_lt (by have := p3.len; have := fm_len' f i; omega), same_mut (p1.trans s) hD, _, upd_same, ?_⟩
    rw [fm_succ', e]
    exact ((p3.same e4).same e5).snoc (dy.same e5)
  · refine ⟨p1.trans s, us, s _ _ p2, ?_⟩
    rw [fm_succ', e, List.append_nil]
    exact p3.same (rs_same fun a o h1 h2 => ⟨h1, s _ _ h2⟩)
end
/-! ### defs that may raise -/
structure MetX (P : Program) (w : World) (K : PySem.W.Frag) (mg : Str → Option Value) (base : Heap) (k : Nat) (C : Addr) (m : Str) (sp : Sp) : Prop where
  ex : ∃ (f : Addr) (fd : FuncData) (ps : List Str), Cls K C ∧ Meth K C m f ∧ FnOk P w K mg base (L2.CX P w) k f fd ps sp ∧ Binds K fd ps []
structure MakX (P : Program) (w : World) (K : PySem.W.Frag) (mg : Str → Option Value) (base : Heap) (k : Nat) (x : Str) (C : Addr) (sp : Sp) : Prop where
  ex : ∃ (f : Addr) (fd : FuncData) (ps : List Str), Mk K C f ∧ FnOk P w K mg base (L2.CX P w) k f fd ps sp ∧ mg x = some (.ref C) ∧ Binds K fd ps []
section
variable {P : Program} {w : World} {K : PySem.W.Frag} {mg : Str → Option Value} {base : Heap}
theorem MethAt.metX {C : Addr} {m qual : Str} {st : Stmt} {N ps : List Str} {k : Nat} {sp : Sp} (c : Cls K C) (d : MethAt K C m qual st ps) (S : FnScope N ps (defScope st)) (len : ∀ vs H Q E, sp vs H Q E → vs.length = ps.length)
    (hbody : ∀ (f : Addr) (cdv : Value) (A : Around) (outer : List Env) (s : Shared) (H : Hp) (vs : List V) (Q : VK) (E : XK), Room k (A.deeper (envOfC qual (defScope st) s.heap.objs.size f cdv)) → sp vs H Q E →
      ∃ t, PSs (cxOf (L2.CX P w) P w K mg base N qual (defScope st) f cdv A outer s H E) (defBody st) t ∧ t { nx := fun _ H' => Q .non H', rt := Q } (start N vs) H) : MetX P w K mg base (k + 1) C m sp := by
  obtain ⟨f, fd, F, hm, b⟩ := d.ex
  exact ⟨f, fd, ps, c, hm, F.okX S len (hbody f), b⟩
theorem InitAt.makX {x : Str} {C : Addr} {qual : Str} {st : Stmt} {N ps : List Str} {k : Nat} {sp : Sp} (hx : mg x = some (.ref C)) (d : InitAt K C qual st ps) (S : FnScope N ps (defScope st)) (len : ∀ vs H Q E, sp vs H Q E → vs.length = ps.length)
    (hbody : ∀ (f : Addr) (cdv : Value) (A : Around) (outer : List Env) (s : Shared) (H : Hp) (vs : List V) (Q : VK) (E : XK), Room k (A.deeper (envOfC qual (defScope st) s.heap.objs.size f cdv)) → sp vs H Q E →
      ∃ t, PSs (cxOf (L2.CX P w) P w K mg base N qual (defScope st) f cdv A outer s H E) (defBody st) t ∧ t { nx := fun _ H' => Q .non H', rt := Q } (start N vs) H) : MakX P w K mg base (k + 1) x C sp := by
  obtain ⟨f, fd, F, hm, b⟩ := d.ex
  exact ⟨f, fd, ps, hm, F.okX S len (hbody f), hx, b⟩
end
/-- where no exception is wanted -/
theorem passN {X : Cx} (σ : L2.St) : PassesAt (L2.CX X.prog X.w) X σ ((fun _ => E0) σ) := fun pins H s e s' I c => passL pins σ H s e s' I c
/-- x.m(..), C(..), where what is raised is wished for at the caller's slots -/
def tMethE (C : Addr) (m : Str) (sp : Sp) (E : L2.St → XK) (ta : TE) (t : TA) : TE := fun σ H Q => ta σ H fun x H1 => ∃ a dx fs, x = .ref a ∧ H1 a = some (.ins C dx fs) ∧ fs.lookup m = none ∧ t σ H1 fun vs H2 => sp (x :: vs) H2 Q (E σ)
def tMakeE (C : Addr) (sp : Sp) (E : L2.St → XK) (t : TA) : TE := fun σ H Q => t σ H fun vs H1 => ∀ x dx, H1 x = none → H1 dx = none → dx ≠ x →
  sp (.ref x :: vs) (upd (upd H1 dx (.own x)) x (.ins C dx [])) (fun v H2 => v = .non ∧ Q (.ref x) H2) (E σ)
section
variable {X : Cx} {CX : CXT} {k j : Nat} {f C : Addr} {fd : FuncData} {ps : List Str} {x m : Str} {sp : Sp} {p pos apos : Pos} {e o : Expr} {es : List Expr} {ta : TE} {t : TA} {E : L2.St → XK}
theorem run_makeS {pins : List (Addr × Obj)} {σ : L2.St} {H : Hp} {s : Shared} {Q : VK} {us : List Value} {vs : List V} (M : Mk X.K C f) (F : FnOk X.prog X.w X.K X.mg X.base CX k f fd ps sp) (hr : Room (k + 1) X.A) (hb : Binds X.K fd ps [])
    (hx : PassesAt CX X σ (E σ)) (I : Inv X pins σ H s) (r : Vals vs us)
    (h : ∀ x dx, H x = none → H dx = none → dx ≠ x → sp (.ref x :: vs) (upd (upd H dx (.own x)) x (.ins C dx [])) (fun v H2 => v = .non ∧ Q (.ref x) H2) (E σ)) :
    wpAny (model X.prog X.w) X.A (call (.ref C) us) (EP X pins σ Q) X.xe s := by
  -- the new object's place, its dict's place
  obtain ⟨dn, hdn⟩ : ∃ dn, dn = s.heap.objs.size := ⟨_, rfl⟩
  have fresh1 : H dn = none := I.hok.fresh (Nat.le_of_eq hdn.symm)
  have fresh2 : H (dn + 1) = none := I.hok.fresh (Nat.le_succ_of_le (Nat.le_of_eq hdn.symm))
  have asked := h (dn + 1) dn fresh2 fresh1 (Nat.ne_of_lt (Nat.lt_succ_self _))
  have J := Inv.made (C := C) I
  rw [← hdn] at J
  have args : Vals (V.ref (dn + 1) :: vs) (Value.ref (dn + 1) :: us) := .cons rfl r
  have many : (Value.ref (dn + 1) :: us).length = ps.length := args.length.symm.trans (F.len _ _ _ _ asked)
  have bound := hb _ (Value.ref (dn + 1) :: us) J.kIn (by rw [List.append_nil]; exact many)
  rw [List.append_nil] at bound
  subst hdn
  refine wpAny_call (make_map (f := f) I.kIn M.makes M.init (beq_iff_eq.mp M.fn) ?_)
  refine codeAny_mono (F.run _ X.stack _ _ ⟨_, []⟩ _ _ _ (E σ) (hr.make C us []) (J.env0.make C us []) bound args asked) fun out s' ho => ?_
  match out, ho with
  | .error e, ho => exact hx pins _ _ e s' J ho
  | .ok (.ret u), ho =>
    obtain ⟨v, H', J', rel, hv, rest⟩ := J.after ho
    cases hv
    exact ⟨rel, .ref (s.heap.objs.size + 1), H', J', rfl, rest⟩
  | .ok .next, ho => exact ho.elim
  | .ok .brk, ho => exact ho.elim
  | .ok .cont, ho => exact ho.elim
theorem pe_xS (c : CalX X.prog X.w X.K X.mg X.base k x sp) (hr : Room j X.A) (hk : k ≤ j) (hg : Gl X x) (hx : ∀ σ, PassesAt (L2.CX X.prog X.w) X σ (E σ)) (ha : PA X (e :: es) t)
    (hdb : (x == ("__debug__" : Str)) = false := by decide) (he : starEach (e :: es) X.env = (false, eval e X.env) :: starEach es X.env := by rfl) (hpl : (backTo pos (starEach es X.env)).any (·.1) = false := by rfl) :
    PE X (.Call (.Name x p) (e :: es) [] pos) (tCallS sp E t) := by
  obtain ⟨f, fd, ps, F, hm, kp, b⟩ := c.ex
  exact pe_callS F (hr.mono hk) hg hm kp b hx ha hdb he hpl
theorem pe_xMk (c : MakX X.prog X.w X.K X.mg X.base k x C sp) (hr : Room j X.A) (hk : k + 1 ≤ j) (hg : Gl X x) (hx : ∀ σ, PassesAt (L2.CX X.prog X.w) X σ (E σ)) (ha : PA X (e :: es) t)
    (hdb : (x == ("__debug__" : Str)) = false := by decide) (he : starEach (e :: es) X.env = (false, eval e X.env) :: starEach es X.env := by rfl) (hpl : (backTo pos (starEach es X.env)).any (·.1) = false := by rfl) :
    PE X (.Call (.Name x p) (e :: es) [] pos) (tMakeE C sp E t) := by
  obtain ⟨f, fd, ps, M, F, hm, hb⟩ := c.ex
  refine ⟨fun pins s σ H Q I h => ?_⟩
  refine wpAny_Call_Name_kw (ld_glob I hg hm ?_ hdb)
  refine PySem.W.callWith_K (h₀ := X.base) I.ok.mod.kin M.kp (thn (ha.run pos pins s σ H _ I h) fun us s1 ⟨vs, H1, I1, r, q⟩ => ⟨I1.kIn, ?_⟩) he hpl
  exact run_makeS M F (hr.mono hk) hb (hx σ) I1 r q
theorem pe_xMt {pl : Sem Bool} (c : MetX X.prog X.w X.K X.mg X.base k C m sp) (hr : Room j X.A) (hk : k ≤ j) (hx : ∀ σ, PassesAt (L2.CX X.prog X.w) X σ (E σ)) (he : PE X o ta) (ha : PA X (e :: es) t)
    (hst : starEach (e :: es) X.env = (false, eval e X.env) :: starEach es X.env := by rfl) (hpl : (backTo pos (starEach es X.env)).any (·.1) = false := by rfl)
    (ht : eval (.Call (.Attribute o m apos) (e :: es) [] pos) X.env = (do
      let ov ← eval o X.env
      standAt apos.atName
      let (f, first) ← holding [ov] (getMethod ov m pl)
      callWith pos f first (backTo pos (starEach (e :: es) X.env)) (backToKw pos (keywordEach [] X.env))) := by rfl) :
    PE X (.Call (.Attribute o m apos) (e :: es) [] pos) (tMethE C m sp E ta t) := by
  obtain ⟨f, fd, ps, hc, hm, F, hb⟩ := c.ex
  refine ⟨fun pins s σ H Q I h => ?_⟩
  refine PySem.W.methodCall_KW (pl := pl) (thn (he.run pins s σ H _ I h) fun u s1 ⟨x, H1, I1, rx, a, dx, fs, ex, ea, l, q⟩ => ?_) ht
  subst ex
  obtain rfl : u = Value.ref a := rx
  refine getmeth_ok I1 ea hc hm l ?_
  refine PySem.W.callWith_K (first := [.ref a]) (h₀ := X.base) I.ok.mod.kin hm.kp (thn (ha.run pos pins s1 σ H1 _ I1 q) fun us s2 ⟨vs, H2, I2, r, q2⟩ => ⟨I2.kIn, ?_⟩) hst hpl
  exact run_fnS (us := .ref a :: us) (vs := .ref a :: vs) F (hr.mono hk) hb (hx σ) I2 (.cons rfl r) q2
theorem pe_xMt0 {pl : Sem Bool} (c : MetX X.prog X.w X.K X.mg X.base k C m sp) (hr : Room j X.A) (hk : k ≤ j) (hx : ∀ σ, PassesAt (L2.CX X.prog X.w) X σ (E σ)) (he : PE X o ta)
    (ht : eval (.Call (.Attribute o m apos) [] [] pos) X.env = (do
      let ov ← eval o X.env
      standAt apos.atName
      let (f, first) ← holding [ov] (getMethod ov m pl)
      callWith pos f first (backTo pos (starEach [] X.env)) (backToKw pos (keywordEach [] X.env))) := by rfl) :
    PE X (.Call (.Attribute o m apos) [] [] pos) (tMethE C m sp E ta tNil) := by
  obtain ⟨f, fd, ps, hc, hm, F, hb⟩ := c.ex
  refine ⟨fun pins s σ H Q I h => ?_⟩
  refine PySem.W.methodCall_KW (pl := pl) (thn (he.run pins s σ H _ I h) fun u s1 ⟨x, H1, I1, rx, a, dx, fs, ex, ea, l, q⟩ => ?_) ht
  subst ex
  obtain rfl : u = Value.ref a := rx
  refine getmeth_ok I1 ea hc hm l ?_
  exact PySem.W.callWith_K0 (first := [.ref a]) I1.kIn hm.kp (run_fnS (us := [.ref a]) (vs := [.ref a]) F (hr.mono hk) hb (hx σ) I1 (.cons rfl .nil) q)
end
/-- an own exception class that is raised; one that is caught -/
structure ExcAt (K : PySem.W.Frag) (C : Addr) : Prop where
  x : PySem.W.excIn K C [.type "ValueError", .type "Exception", .type "BaseException", .type "object"] "ValueError.__new__" = true
  k : PySem.W.keepIn K (.ref C) = true
  b : PySem.W.subIn K (.ref C) (.type "BaseException") = some true
  t : PySem.W.typeIn K (.ref C) = some (.type "type")
structure ExcK (K : PySem.W.Frag) (C : Addr) : Prop where
  b : PySem.W.subIn K (.ref C) (.type "BaseException") = some true
  i : PySem.W.isClsIn K C = true
  t : PySem.W.typeIn K (.ref C) = some (.type "type")
theorem ExcK.exm {K : PySem.W.Frag} {C D : Addr} {r : Bool} (c : ExcK K C) (h : PySem.W.subIn K (.ref D) (.ref C) = some r) : PySem.W.exmOne K (.ref D) (.ref C) = some r := by
  have e1 : (PySem.W.subIn K (.ref C) (.type "BaseException") == some true) = true := by rw [c.b] <;> rfl
  have e2 : ((PySem.W.clsIn K C).isSome && PySem.W.typeIn K (.ref C) == some (.type "type")) = true := by
    have h2' : (PySem.W.clsIn K C).isSome = true := c.i
    rw [h2', c.t] <;> rfl
  show (if (PySem.W.subIn K (.ref C) (.type "BaseException") == some true) = true then (if ((PySem.W.clsIn K C).isSome && PySem.W.typeIn K (.ref C) == some (.type "type")) = true then PySem.W.subIn K (.ref D) (.ref C) else none) else none) = some r
  rw [if_pos e1, if_pos e2]
  exact h
/-- C() -/
theorem pmk_own0 {X : Cx} {C : Addr} {x : Str} {p pos : Pos} (c : ExcAt X.K C) (gC : X.mg x = some (.ref C)) (hg : Gl X x) (hdb : (x == ("__debug__" : Str)) = false := by decide) :
    PMk X (.Call (.Name x p) [] [] pos) (fun _ H Q => Q (.ref C) none H) := by
  intro pins s σ H Q I h
  refine wpAny_Call_Name_kw (ld_glob I hg gC ?_ hdb)
  refine PySem.W.callWith_K0 I.kIn c.k ?_
  obtain ⟨bm, N, nm, qn, bs, hdct, sn, sub, ab, col, dd, k0, k1, k2, k3, k5, mN, hC, hN, hni, T⟩ := exc_obj I.kIn c.x
  refine wpAny_call_exc_subT PySem.F.excBase_ValueError T hC hN hni (fun h' e hm => ?_) (Nat.zero_le _)
  exact mk_of I hm (raises_own c.b c.t) h (I.hok.gone hm.new)
section
variable {K : PySem.W.Frag} {σ : L2.St} {H : Hp} {ta : TE} {tr : TA} {Q : VK} {E : L2.St → XK} {C : Addr} {m : Str} {sp : Sp}
theorem L_callS (h : tr σ H fun vs H1 => sp vs H1 Q (E σ)) : tCallS sp E tr σ H Q := h
theorem L_methE (h : ta σ H fun x H1 => ∃ a dx fs, x = .ref a ∧ H1 a = some (.ins C dx fs) ∧ fs.lookup m = none ∧ tr σ H1 fun vs H2 => sp (x :: vs) H2 Q (E σ)) : tMethE C m sp E ta tr σ H Q := h
theorem L_makeE (h : tr σ H fun vs H1 => MakeP C sp (E σ) vs H1 Q) : tMakeE C sp E tr σ H Q := h
theorem L_meth {E : XK} (h : ta σ H fun x H1 => ∃ a dx fs, x = .ref a ∧ H1 a = some (.ins C dx fs) ∧ fs.lookup m = none ∧ tr σ H1 fun vs H2 => sp (x :: vs) H2 Q E) : tMeth C m sp [] E ta tr σ H Q := by
  unfold tMeth
  simp only [List.append_nil]
  exact h
theorem L_methv {a dx : Addr} {fs : List (Str × V)} {R : Prop} (h : H a = some (.ins C dx fs)) (l : fs.lookup m = none) (q : R) : ∃ a' dx fs, V.ref a = V.ref a' ∧ H a' = some (.ins C dx fs) ∧ fs.lookup m = none ∧ R := ⟨a, dx, fs, rfl, h, l, q⟩
theorem L_only {c : Value} {ts : Addr → Value → Option Addr → TS} {Wout : WX} {D : Ends} {cls : Value} {d : Option Addr} (h : PySem.W.exmOne K cls c = some true) (q : ∀ a, H a = none → ts a cls d D σ H) : wOnly K c ts Wout D cls d σ H := ⟨true, h, fun _ => q, fun z => nomatch z⟩
end
/-- no whole number: another kind of thing, or a truth -/
def NotW (K : PySem.W.Frag) (H : Hp) (v : V) : Prop := (∃ b, v = .bl b) ∨ ∃ a, TyX K H v (.type a) ∧ kitB a "int" = some false
/-- what is_whole denies -/
def BadW (K : PySem.W.Frag) (H : Hp) (v : V) (lo hi : Int) : Prop := NotW K H v ∨ ∃ t, v = .int t ∧ ¬ (lo ≤ t ∧ t ≤ hi)
section
variable {K : PySem.W.Frag} {H : Hp}
theorem notw_non : NotW K H .non := .inr ⟨_, .base .non, by decide +kernel⟩
theorem notw_bl {b : Bool} : NotW K H (.bl b) := .inl ⟨b, rfl⟩
theorem notw_str {z : Str} : NotW K H (.str z) := .inr ⟨_, .base (.str z), by decide +kernel⟩
theorem notw_lst {a : Addr} {xs : List V} (h : H a = some (.lst xs)) : NotW K H (.ref a) := .inr ⟨_, .base (.lst h), by decide +kernel⟩
theorem notw_tup {a : Addr} {xs : List V} (h : H a = some (.tup xs)) : NotW K H (.ref a) := .inr ⟨_, .base (.tup h), by decide +kernel⟩
theorem notw_dK {a : Addr} {xs : List (Key × V)} (h : H a = some (.dK xs)) : NotW K H (.ref a) := .inr ⟨_, .base (.dK h), by decide +kernel⟩
theorem badw_int {t lo hi : Int} (h : ¬ (lo ≤ t ∧ t ≤ hi)) : BadW K H (.int t) lo hi := .inr ⟨t, rfl, h⟩
theorem NotW.bad {v : V} {lo hi : Int} (h : NotW K H v) : BadW K H v lo hi := .inl h
end
section
variable {K : PySem.W.Frag} {H H' : Hp}
theorem tyx_T {a : Addr} {xs : List V} (h : SqT K H a xs) : TyX K H (.ref a) (.type "tuple") := by
  rcases h with (h | ⟨o, h⟩) | ⟨o, _, _, h, c, _⟩
  · exact .base (.tup h)
  · exact .fTuple h
  · exact .kTuple h c
theorem tyx_L {a : Addr} {xs : List V} (h : SqL K H a xs) : TyX K H (.ref a) (.type "list") := by
  rcases h with (h | ⟨o, h⟩) | ⟨o, _, _, h, c, _⟩
  · exact .base (.lst h)
  · exact .base (.frz h)
  · exact .kList h c
variable {σ : L2.St} {Q : VK}
theorem L_sort2 {a : Addr} {x y : Int} (h : SqL K H a [V.int x, V.int y]) (q : ∀ p, H p = none → Q (.ref p) (upd H p (.lst [V.int (min x y), V.int (max x y)]))) : rSorted K [.ref a] H Q := by
  refine ⟨a, [x, y], rfl, h, by simp, fun ns p hp hs hn => ?_⟩
  have hl := hp.length_eq
  match ns, hl with
  | [u, v], _ =>
    have hle : u ≤ v := by simpa using hs
    have hm : (u = x ∧ v = y) ∨ (u = y ∧ v = x) := by
      have h1 : u ∈ [x, y] := hp.mem_iff.mp (by simp)
      have h2 : v ∈ [x, y] := hp.mem_iff.mp (by simp)
      have h3 : x ∈ [u, v] := hp.mem_iff.mpr (by simp)
      have h4 : y ∈ [u, v] := hp.mem_iff.mpr (by simp)
      simp only [List.mem_cons, List.not_mem_nil, or_false] at h1 h2 h3 h4
      rcases h1 with h1 | h1 <;> rcases h2 with h2 | h2 <;> rcases h3 with h3 | h3 <;> rcases h4 with h4 | h4 <;> omega
    have e : [u, v] = [min x y, max x y] := by
      rcases hm with ⟨rfl, rfl⟩ | ⟨rfl, rfl⟩
      · rw [Int.min_eq_left hle, Int.max_eq_right hle]
      · rw [Int.min_eq_right hle, Int.max_eq_left hle]
    rw [e]
    exact q p hn
theorem L_list1 {a : Addr} {xs : List V} (h : SqL K H a xs) (q : ∀ l, H l = none → Q (.ref l) (upd H l (.lst xs))) : aList1 K [.ref a] H Q := ⟨a, xs, rfl, .inl h, q⟩
theorem L_tuple1 {a : Addr} {xs : List V} (h : SqL K H a xs) (q : ∀ l, H l = none → Q (.ref l) (upd H l (.tup xs))) : aTuple1 K [.ref a] H Q := ⟨a, xs, rfl, .inl ⟨h, q⟩⟩
theorem eqv_same {d : PyData} (h : SeqAt.shaped d = true) : PyData.eqv d d = true := SeqAt.eqv_refl d (SeqAt.canLay_of_shaped h)
theorem L_eqR {x y : V} {d : PyData} (hx : Dp K H x d) (hy : Dp K H y d) (s : SeqAt.shaped d = true) (q : Q (.bl true) H) : aEq K x y H Q := L_eqD hx hy s s (by rw [eqv_same s]; exact q)
theorem L_neR {x y : V} {d : PyData} (hx : Dp K H x d) (hy : Dp K H y d) (s : SeqAt.shaped d = true) (q : Q (.bl false) H) : aNe K x y H Q := L_neD hx hy s s (by rw [eqv_same s]; exact q)
theorem L_zipA {a b : Addr} {xs ys : List V} {R : Addr → Addr → Prop} (h1 : SqL K H a xs) (h2 : SqL K H b ys) (q : R a b) : ∃ a' b' xs ys, [V.ref a, V.ref b] = [.ref a', .ref b'] ∧ SqL K H a' xs ∧ SqL K H b' ys ∧ R a' b' := ⟨a, b, xs, ys, rfl, h1, h2, q⟩
end
/-- data that == may be asked of, at most n deep -/
structure Shp (n : Nat) (d : PyData) : Prop where
  c : d.canLay0 = true
  d : d.depth ≤ n
theorem Shp.ok {n : Nat} {d : PyData} (h : Shp n d) (hn : n ≤ 64 := by decide) : SeqAt.shaped d = true := by
  unfold SeqAt.shaped
  rw [h.c, decide_eq_true (Nat.le_trans h.d hn)]; rfl
theorem shp_int {n : Nat} {i : Int} : Shp n (.int i) := ⟨by simp [PyData.canLay0], by simp [PyData.depth]⟩
theorem shp_bl {n : Nat} {i : Bool} : Shp n (.bool i) := ⟨by simp [PyData.canLay0], by simp [PyData.depth]⟩
theorem shp_non {n : Nat} : Shp n .none := ⟨by simp [PyData.canLay0], by simp [PyData.depth]⟩
theorem shp_str {n : Nat} {z : Str} (h : PyData.strOk z = true) : Shp n (.str z) := ⟨by simpa [PyData.canLay0] using h, by simp [PyData.depth]⟩
theorem shp_all {n : Nat} : ∀ {ds : List PyData}, (∀ d ∈ ds, Shp n d) → PyData.canLayAll0 ds = true ∧ PyData.depthAll ds ≤ n
  | [], _ => ⟨by simp [PyData.canLayAll0], by simp [PyData.depthAll]⟩
  | d :: ds, h => by
    have h1 := h d (List.mem_cons_self ..)
    have h2 := shp_all fun x hx => h x (List.mem_cons_of_mem _ hx)
    exact ⟨by simp [PyData.canLayAll0, h1.c, h2.1], by simp only [PyData.depthAll]; exact Nat.max_le.mpr ⟨h1.d, h2.2⟩⟩
theorem shp_lst {n : Nat} {ds : List PyData} (h : ∀ d ∈ ds, Shp n d) : Shp (n + 1) (.list ds) := ⟨by simp only [PyData.canLay0]; exact (shp_all h).1, by simp only [PyData.depth]; have := (shp_all h).2; omega⟩
theorem shp_tup {n : Nat} {ds : List PyData} (h : ∀ d ∈ ds, Shp n d) : Shp (n + 1) (.tuple ds) := ⟨by simp only [PyData.canLay0]; exact (shp_all h).1, by simp only [PyData.depth]; have := (shp_all h).2; omega⟩
theorem shp_nil {n : Nat} : ∀ d ∈ ([] : List PyData), Shp n d := fun _ h => nomatch h
theorem shp_cons {n : Nat} {d : PyData} {ds : List PyData} (h : Shp n d) (t : ∀ d ∈ ds, Shp n d) : ∀ x ∈ d :: ds, Shp n x := fun x hx => by
  rcases List.mem_cons.mp hx with rfl | hx
  · exact h
  · exact t x hx
theorem shp_map {n : Nat} {α : Type} {f : α → PyData} {l : List α} (h : ∀ a ∈ l, Shp n (f a)) : ∀ d ∈ l.map f, Shp n d := fun d hd => by
  obtain ⟨a, ha, rfl⟩ := List.mem_map.mp hd
  exact h a ha
theorem shp_ints {n : Nat} {l : List Int} : Shp (n + 1) (.list (l.map .int)) := shp_lst (shp_map fun _ _ => shp_int)
theorem _root_.L2.Dp.ints {K : PySem.W.Frag} {H : Hp} {a : Addr} {ns : List Int} (h : SqL K H a (ns.map V.int)) : Dp K H (.ref a) (.list (ns.map .int)) := .lst h (dp_ints ns)
section
variable {K : PySem.W.Frag} {H : Hp} {Q : VK}
theorem L_powE {i j n : Int} (h : CPow i j) (e : i ^ j.toNat = n) (q : Q (.int n) H) : rI CPow (fun i j => .int (i ^ j.toNat)) (.int i) (.int j) H Q := ⟨i, j, rfl, rfl, h, by subst e; exact q⟩
/-- one of some ints -/
theorem L_menu {ns : List Int} {p : Addr} {i : Int} (h : SqL K H p (ns.map V.int)) (h0 : 0 ≤ i) (h1 : i < ns.length) (q : ∀ v ∈ ns, Q (.int v) H) : rIx K (.ref p) (.int i) H Q := by
  have hl : i.toNat < ns.length := by omega
  refine L_ixL h (atI_ints h0 h1) (q _ ?_)
  rw [List.getD_eq_getElem?_getD, List.getElem?_eq_getElem hl]
  exact List.getElem_mem hl
/-- an item of a list of ints, some property of all its items kept -/
theorem L_ixP {ns : List Int} {p : Addr} {i : Int} {P : Int → Prop} (h : SqL K H p (ns.map V.int)) (hP : ∀ v ∈ ns, P v) (h0 : 0 ≤ i) (h1 : i < ns.length) (q : ∀ v, P v → Q (.int v) H) : rIx K (.ref p) (.int i) H Q :=
  L_menu h h0 h1 fun v hv => q v (hP v hv)
end
theorem cdiv_lit {i j : Int} (h : 0 < j ∧ j < 1000000000000) : CDivW i j := (bd_64 (by omega)).cdiv h.1
theorem cpow_lit {i j : Int} (h : 0 ≤ j ∧ j ≤ 1000 ∧ -1000000 < i ∧ i < 1000000) : CPow i j := by
  have e : (2 : Nat) ^ 64 = 18446744073709551616 := by decide
  exact ⟨h.1, by omega, by omega⟩
theorem same_newE {H Hn : Hp} {p : Addr} {o : HO} (e : upd H p o = Hn) (h : H p = none) : Same H Hn := e ▸ same_new h
theorem upd_at {H Hn : Hp} {p : Addr} {o : HO} (e : upd H p o = Hn) : Hn p = some o := e ▸ upd_same
section
variable {K : PySem.W.Frag} {H H' : Hp} {p q : Addr} {us xs : List V} {ds : List PyData} {d : PyData} {y : V} {o : HO}
/-- a list grows: its things stand apart from it -/
theorem dp_grow (hdp : DpAll K (rs (· ≠ p) H) us ds) (s : Same H H') (hy : Dp K (rs (· ≠ p) H') y d) : DpAll K (rs (· ≠ p) (upd H' p o)) (us ++ [y]) (ds ++ [d]) :=
  (hdp.same (rs_same fun a u na ha => ⟨na, by rw [upd_ne na]; exact s _ _ ha⟩)).snoc (hy.same (rs_same fun a u na ha => ⟨na, by rw [upd_ne na]; exact ha⟩))
theorem dp_tupN (h : H q = some (.tup xs)) (n : q ≠ p) (ha : DpAll K (rs (· ≠ p) H) xs ds) : Dp K (rs (· ≠ p) H) (.ref q) (.tuple ds) := .tup (.of (rs_at n h)) ha
theorem dp_lstN (h : H q = some (.lst xs)) (n : q ≠ p) (ha : DpAll K (rs (· ≠ p) H) xs ds) : Dp K (rs (· ≠ p) H) (.ref q) (.list ds) := .lst (.of (rs_at n h)) ha
/-- data that stood ahead of p -/
theorem dp_old {H0 : Hp} (h : Dp K H0 y d) (n : H0 p = none) (s : Same H0 H) : Dp K (rs (· ≠ p) H) y d := h.same (rs_all fun a u ha => ⟨fun z => (by rw [z, n] at ha; cases ha), s _ _ ha⟩)
theorem dpA_old {H0 : Hp} (h : DpAll K H0 us ds) (n : H0 p = none) (s : Same H0 H) : DpAll K (rs (· ≠ p) H) us ds := h.same (rs_all fun a u ha => ⟨fun z => (by rw [z, n] at ha; cases ha), s _ _ ha⟩)
theorem dp_whole (h : DpAll K (rs (· ≠ p) H) us ds) (e : H p = some (.lst us)) : Dp K H (.ref p) (.list ds) := .lst (.of e) (h.same rs_sub)
theorem ne_new (h : H p = none) (h' : ∃ o, H q = some o) : p ≠ q := fun z => by
  obtain ⟨o, e⟩ := h'
  rw [z, e] at h; cases h
end
theorem fm_get {α β : Type} (g : α → β) : ∀ (l : List α), (List.range l.length).filterMap (fun i => l[i]?.map g) = l.map g
  | [] => rfl
  | a :: l => by
    have ih := fm_get g l
    rw [List.length_cons, List.range_succ_eq_map]
    simp only [List.filterMap_cons, List.getElem?_cons_zero, Option.map_some, List.filterMap_map, Function.comp_def, List.getElem?_cons_succ, List.map_cons]
    rw [ih]
theorem sum_take {α : Type} {l : List α} {f : α → Int} {i : Nat} {x : α} (h : l[i]? = some x) : ((l.take (i + 1)).map f).sum = ((l.take i).map f).sum + f x := by
  rw [List.take_succ, h]
  simp
theorem sum_takeAll {α : Type} {l : List α} {f : α → Int} {n : Nat} (h : l.length ≤ n) : ((l.take n).map f).sum = (l.map f).sum := by rw [List.take_of_length_le h]
/-! ### loops, the ends told one by one -/
section
variable {K : PySem.W.Frag} {σ : L2.St} {H : Hp} {g : TG} {tb : TS} {N : L2.St → Hp → Prop} {R : VK}
/-- what a for asks behind its iterable -/
abbrev ForT (J : It) (σ : L2.St) (H : Hp) (g : TG) (tb : TS) (N : L2.St → Hp → Prop) (R : VK) : Prop :=
  ∃ W : Nat → Nat → L2.St → Hp → Prop, (∃ m, W 0 m σ H) ∧ ∀ i m σ H, W i m σ H →
      (J.stop i H ∧ N σ H) ∨ (J.go i H ∧ ∃ M : L2.St → Hp → Prop, (∀ σ' H', M σ' H' → ∃ m', m' < m ∧ W (i + 1) m' σ' H') ∧ ∀ x H', J.yld i H x H' → g x σ H' fun σ2 H2 => tb ⟨M, R, N, M⟩ σ2 H2)
theorem f_it {J : It} {n : Nat} {G : Hp → Prop} {Y : Nat → Hp → V → Hp → Prop} (w : L2.Walk J n G Y) (Pv : Nat → L2.St → Hp → Prop) (h0 : Pv 0 σ H) (hG : ∀ i σ H, i ≤ n → Pv i σ H → G H)
    (hs : ∀ i x σ H H', i < n → Pv i σ H → Y i H x H' → g x σ H' fun σ2 H2 => tb ⟨Pv (i + 1), R, N, Pv (i + 1)⟩ σ2 H2) (hd : ∀ σ H, Pv n σ H → N σ H) : ForT J σ H g tb N R :=
  for_it (D := ⟨N, R, N, N⟩) w Pv h0 hG hs hd
theorem f_range {lo : Int} {n : Nat} (Pv : Nat → L2.St → Hp → Prop) (h0 : Pv 0 σ H)
    (hs : ∀ i σ H, i < n → Pv i σ H → g (.int (lo + i)) σ H fun σ2 H2 => tb ⟨Pv (i + 1), R, N, Pv (i + 1)⟩ σ2 H2) (hd : ∀ σ H, Pv n σ H → N σ H) : ForT (Itr lo n) σ H g tb N R :=
  for_range (D := ⟨N, R, N, N⟩) Pv h0 hs hd
theorem f_rangeC {lo c : Int} {n : Nat} (Pv : Nat → L2.St → Hp → Prop) (h0 : Pv 0 σ H)
    (hs : ∀ i σ H, i < n → Pv i σ H → g (.int (lo + (i : Nat) * c)) σ H fun σ2 H2 => tb ⟨Pv (i + 1), R, N, Pv (i + 1)⟩ σ2 H2) (hd : ∀ σ H, Pv n σ H → N σ H) : ForT (Itc lo c n) σ H g tb N R :=
  for_rangeC (D := ⟨N, R, N, N⟩) Pv h0 hs hd
theorem f_dp {a : Addr} {ds : List PyData} (h : Dp K H (.ref a) (.list ds)) (Pv : Nat → L2.St → Hp → Prop) (h0 : Pv 0 σ H) (hG : ∀ i σ' H', i ≤ ds.length → Pv i σ' H' → Same H H')
    (hs : ∀ i d x σ' H', i < ds.length → ds[i]? = some d → Pv i σ' H' → Dp K H' x d → g x σ' H' fun σ2 H2 => tb ⟨Pv (i + 1), R, N, Pv (i + 1)⟩ σ2 H2) (hd : ∀ σ' H', Pv ds.length σ' H' → N σ' H') : ForT (Itl K a) σ H g tb N R :=
  for_dp (D := ⟨N, R, N, N⟩) h Pv h0 hG hs hd
end
section
variable {σ σ' : L2.St} {H : Hp} {i : Nat} {v x : V} {B C : L2.St → Hp → Prop} {N : L2.St → Hp → Prop} {R : VK} {te : TE}
theorem L_gnameE {Q : L2.St → Hp → Prop} (e : σ.set i (some v) = σ') (h : Q σ' H) : gName i v σ H Q := by subst e; exact h
end
section
variable {K : PySem.W.Frag} {H H' : Hp} {σ : L2.St} {Q : VK} {te : TE} {tl th : TO}
theorem TyX_same {v : V} {t : Value} (e : Same H H') (h : TyX K H v t) : TyX K H' v t := by
  cases h with
  | base h =>
    refine .base ?_
    cases h with
    | non => exact .non
    | bl x => exact .bl x
    | int x => exact .int x
    | str x => exact .str x
    | flt x => exact .flt x
    | lst h => exact .lst (e _ _ h)
    | frz h => exact .frz (e _ _ h)
    | tup h => exact .tup (e _ _ h)
    | dK h => exact .dK (e _ _ h)
    | dT h => exact .dT (e _ _ h)
    | ins h cl ha hn htk hm => exact .ins (e _ _ h) cl ha hn htk hm
  | byt b => exact .byt b
  | set h => exact .set (e _ _ h)
  | kList h c => exact .kList h c
  | kTuple h c => exact .kTuple h c
  | kDict h c => exact .kDict h c
  | fTuple h => exact .fTuple (e _ _ h)
  | fDict h => exact .fDict (e _ _ h)
theorem NotW.same {v : V} (h : NotW K H v) (e : Same H H') : NotW K H' v := by
  rcases h with h | ⟨a, h1, h2⟩
  · exact .inl h
  · exact .inr ⟨a, TyX_same e h1, h2⟩
theorem BadW.same {v : V} {lo hi : Int} (h : BadW K H v lo hi) (e : Same H H') : BadW K H' v lo hi := by
  rcases h with h | h
  · exact .inl (h.same e)
  · exact .inr h
theorem L_sl {r : V → Option Int → Option Int → Hp → VK → Prop} (h : te σ H fun x H1 => tl σ H1 fun l H2 => th σ H2 fun u H3 => r x l u H3 Q) : L2.tSl r te tl th σ H Q := h
theorem L_noPart {R : Option Int → Hp → Prop} (h : R none H) : tNoPart σ H R := h
theorem L_part {t : TE} {R : Option Int → Hp → Prop} (h : t σ H fun x H1 => ∃ i, x = .int i ∧ R (some i) H1) : tPart t σ H R := h
theorem L_ki {i : Int} {R : Int → Prop} (h : R i) : ∃ j, V.int i = V.int j ∧ R j := ⟨i, rfl, h⟩
theorem L_slL {a : Addr} {xs : List V} {lo hi : Option Int} (h : SqL K H a xs) (q : ∀ p, H p = none → Q (.ref p) (upd H p (.lst (cutV xs lo hi)))) : rSlL K (.ref a) lo hi H Q := ⟨a, xs, rfl, h, q⟩
end
def cutG {α : Type} (xs : List α) (lo hi : Option Int) : List α := (xs.drop (HT.sIx xs.length 0 lo)).take (HT.sIx xs.length xs.length hi - HT.sIx xs.length 0 lo)
theorem cutV_map {α : Type} (f : α → V) (xs : List α) (lo hi : Option Int) : cutV (xs.map f) lo hi = (cutG xs lo hi).map f := by
  unfold cutV cutG
  rw [List.length_map, List.map_take, List.map_drop]
theorem cutG_mem {α : Type} {xs : List α} {lo hi : Option Int} {x : α} (h : x ∈ cutG xs lo hi) : x ∈ xs := List.mem_of_mem_drop (List.mem_of_mem_take h)
theorem cutG_len {α : Type} (xs : List α) (lo hi : Option Int) : (cutG xs lo hi).length ≤ xs.length := by
  unfold cutG
  rw [List.length_take, List.length_drop]
  omega
section
variable {K : PySem.W.Frag} {H : Hp} {Q : VK}
/-- one of some things -/
theorem L_menuV {xs : List V} {p : Addr} {i : Int} (h : SqL K H p xs) (h0 : 0 ≤ i) (h1 : i < xs.length) (q : ∀ v ∈ xs, Q v H) : rIx K (.ref p) (.int i) H Q := by
  have hl : i.toNat < xs.length := by omega
  exact L_ixL h (atI_int h0 (List.getElem?_eq_getElem hl)) (q _ (List.getElem_mem hl))
end
theorem hpL {K : PySem.W.Frag} {H : Hp} {a : Addr} {xs : List V} (h : H a = some (.lst xs)) : SqL K H a xs := .of h
theorem hpT {K : PySem.W.Frag} {H : Hp} {a : Addr} {xs : List V} (h : H a = some (.tup xs)) : SqT K H a xs := .of h
theorem bd_mod {x n : Int} (h : 0 < n ∧ n < 18446744073709551616) : Bd 64 (x % n) := bd_64 (by
  have h1 := Int.emod_nonneg x (show n ≠ 0 by omega)
  have h2 := Int.emod_lt_of_pos x h.1
  omega)
theorem hp_from {H0 H : Hp} {p : Addr} {o : HO} (h : H0 p = some o) (e : Same H0 H) : H p = some o := e _ _ h
theorem same_via {H H1 H2 : Hp} (b : Same H1 H2) (a : Same H H1) : Same H H2 := a.trans b
theorem same_upd' {H H' : Hp} {a : Addr} {o : HO} (h : H' a = none) (e : Same H H') : Same H (upd H' a o) := same_upd e h
theorem same_mut' {H H' : Hp} {a : Addr} {o : HO} (h : H a = none) (e : Same H H') : Same H (upd H' a o) := same_mut e h
section
variable {K : PySem.W.Frag} {H : Hp} {σ : L2.St} {Q : VK}
theorem L_clear {a : Addr} {xs : List V} (h : H a = some (.lst xs)) (q : Q .non (upd H a (.lst []))) : rClear (.ref a) [] H Q := ⟨a, xs, rfl, rfl, h, q⟩
theorem L_dnew (h : ∀ p, H p = none → Q (.ref p) (upd H p (.dK []))) : tDNewK σ H Q := h
/-- no list -/
def NotL (K : PySem.W.Frag) (H : Hp) (v : V) : Prop := ∃ a, TyX K H v (.type a) ∧ kitB a "list" = some false
theorem notl_tup {a : Addr} {xs : List V} (h : SqT K H a xs) : NotL K H (.ref a) := ⟨_, tyx_T h, by decide +kernel⟩
theorem notl_non : NotL K H .non := ⟨_, .base .non, by decide +kernel⟩
theorem notl_int {i : Int} : NotL K H (.int i) := ⟨_, .base (.int i), by decide +kernel⟩
theorem notl_bl {i : Bool} : NotL K H (.bl i) := ⟨_, .base (.bl i), by decide +kernel⟩
theorem notl_str {i : Str} : NotL K H (.str i) := ⟨_, .base (.str i), by decide +kernel⟩
theorem notl_dK {a : Addr} {xs : List (Key × V)} (h : H a = some (.dK xs)) : NotL K H (.ref a) := ⟨_, .base (.dK h), by decide +kernel⟩
theorem NotL.same {H' : Hp} {v : V} (h : NotL K H v) (e : Same H H') : NotL K H' v := by
  obtain ⟨a, h1, h2⟩ := h
  exact ⟨a, TyX_same e h1, h2⟩
end
theorem rep1 (x : Int) : ∀ n : Nat, (List.replicate n [V.int x]).flatten = (List.replicate n x).map V.int
  | 0 => rfl
  | n + 1 => by rw [List.replicate_succ, List.flatten_cons, rep1 x n]; rfl
section
variable {K : PySem.W.Frag} {H : Hp} {Q : VK}
theorem L_neB {i j : Bool} (q : Q (.bl (!decide (i = j))) H) : aNe K (.bl i) (.bl j) H Q := .inl ⟨rfl, by rw [show decide (V.bl i = V.bl j) = decide (i = j) by simp]; exact q⟩
end
/-! ### for x in xs: check(x) -/
section
variable {K : PySem.W.Frag} {σ : L2.St} {H : Hp} {N : L2.St → Hp → Prop} {R : VK} {a : Addr} {xs : List V} {sp : Sp} {ES : L2.St → XK} {i : Nat} {c : Value}
theorem set_self (σ : L2.St) (i : Nat) (hi : i < σ.length) : ∃ v, σ = σ.set i v := ⟨σ[i], by simp⟩
theorem L_forChk (hL : SqL K H a xs) (hi : i < σ.length) (hok : ∀ x ∈ xs, ∀ Q E, Q .non H → sp [x] H Q E) (q : ∀ v, N (σ.set i v) H) : ForT (Itl K a) σ H (gName i) (tDrop (tCallS sp ES (tCons (tVar i) tNil))) N R := by
  refine f_it walk_list (fun _ σ' H' => H' = H ∧ ∃ v, σ' = σ.set i v) ⟨rfl, set_self σ i hi⟩ (fun _ _ _ _ p => p.1 ▸ hL) ?_ ?_
  · rintro j x σ' H' H'' hj ⟨rfl, v, rfl⟩ ⟨rfl, e⟩
    refine L_gname (L_drop (L_callS (L_cons (L_var (v := x) ?_ (L_nil (hok x (List.mem_of_getElem? e) _ _ ?_))))))
    · simp [hi]
    · exact ⟨rfl, some x, by rw [List.set_set]⟩
  · rintro σ' H' ⟨rfl, v, rfl⟩
    exact q v
theorem L_forChkX (hL : SqL K H a xs) (hi : i < σ.length) (hx : ∀ x ∈ xs, (∀ Q E, Q .non H → sp [x] H Q E) ∨ ∀ Q E, E c none H → sp [x] H Q E) (hb : ∃ x ∈ xs, ∀ Q E, E c none H → sp [x] H Q E) (q : ∀ v, ES (σ.set i v) c none H) :
    ForT (Itl K a) σ H (gName i) (tDrop (tCallS sp ES (tCons (tVar i) tNil))) N R := by
  obtain ⟨x0, hx0, hb0⟩ := hb
  obtain ⟨j0, hj0⟩ := List.mem_iff_getElem?.mp hx0
  refine f_it walk_list (fun j σ' H' => H' = H ∧ (∃ v, σ' = σ.set i v) ∧ ∃ k x, j ≤ k ∧ xs[k]? = some x ∧ ∀ Q E, E c none H → sp [x] H Q E) ⟨rfl, set_self σ i hi, j0, x0, Nat.zero_le _, hj0, hb0⟩ (fun _ _ _ _ p => p.1 ▸ hL) ?_ ?_
  · rintro j x σ' H' H'' hj ⟨rfl, ⟨v, rfl⟩, k, y, hk, hy, hby⟩ ⟨rfl, e⟩
    refine L_gname (L_drop (L_callS (L_cons (L_var (v := x) ?_ (L_nil ?_)))))
    · simp [hi]
    · by_cases hc : ∀ Q E, E c none H'' → sp [x] H'' Q E
      · exact hc _ _ (by rw [List.set_set]; exact q _)
      · refine (hx x (List.mem_of_getElem? e)).resolve_right hc _ _ ⟨rfl, ⟨some x, by rw [List.set_set]⟩, k, y, ?_, hy, hby⟩
        rcases Nat.lt_or_eq_of_le hk with hlt | rfl
        · exact hlt
        · rw [e] at hy
          cases hy
          exact absurd hby hc
  · rintro σ' H' ⟨rfl, ⟨v, rfl⟩, k, y, hk, hy, hby⟩
    have := (List.getElem?_eq_some_iff.mp hy).1
    omega
end
theorem L_bm0 {K : PySem.W.Frag} {σ : L2.St} {H : Hp} {Q : VK} {te : TE} {T : String} {r : V → List V → Hp → VK → Prop} (h : te σ H fun x H1 => tyV K T x H1 ∧ r x [] H1 Q) : tBM0 K T r te σ H Q := h
/-- what an expression's ways have in common -/
theorem L_via {P : VK → Prop} {Q : VK} (R : V → Hp → Prop) (key : ∀ Q : VK, (∀ v H', R v H' → Q v H') → P Q) (q : ∀ v H', R v H' → Q v H') : P Q := key Q q
section
variable {K : PySem.W.Frag} {H : Hp} {σ : L2.St} {Q : VK} {ta tb : TE}
theorem L_disp1 (h : ∀ p, H p = none → ta σ (upd H p (.dK [])) fun k H1 => tb σ H1 fun v H2 => H2 p = some (.dK []) ∧ ∃ kvs : List (Key × V), [(k, v)] = kvs.map (fun kv => (kV kv.1, kv.2)) ∧ kvs.length ≤ 15 ∧ Q (.ref p) (upd H2 p (.dK (mergeK [] kvs)))) : tDisp [(ta, tb)] σ H Q := h
theorem L_dispE1 {p : Addr} {k v : V} (kk : Key) (e : k = kV kk) (h : H p = some (.dK [])) (q : Q (.ref p) (upd H p (.dK [(kk, v)]))) : H p = some (.dK []) ∧ ∃ kvs : List (Key × V), [(k, v)] = kvs.map (fun kv => (kV kv.1, kv.2)) ∧ kvs.length ≤ 15 ∧ Q (.ref p) (upd H p (.dK (mergeK [] kvs))) :=
  ⟨h, [(kk, v)], by rw [e]; rfl, by simp, q⟩
/-- a sign of a text -/
theorem L_ixSany {z : Str} {i : Int} (hz : z.length ≤ 1000000) (h0 : 0 ≤ i) (h1 : i < z.length) (q : ∀ a ∈ z.cps.toList, Q (.str ⟨#[a]⟩) H) : rIx K (.str z) (.int i) H Q := by
  have hl : i.toNat < z.cps.toList.length := by
    have e : z.cps.toList.length = z.length := by rw [Array.length_toList]; rfl
    omega
  have h3 : z.cps.toList[i.toNat]? = some z.cps.toList[i.toNat] := List.getElem?_eq_getElem hl
  refine L_ixS (sz_dec hz) (a := z.cps.toList[i.toNat]) ?_ (q _ (List.getElem_mem hl))
  obtain ⟨j, rfl⟩ : ∃ j : Nat, i = (j : Int) := ⟨i.toNat, by omega⟩
  exact atI_nat h3
theorem L_inR {i lo hi : Int} {a : Addr} (h : H a = some (.rng lo hi)) (q : Q (.bl (decide (lo ≤ i ∧ i < hi))) H) : (∃ i' a' lo hi, V.int i = V.int i' ∧ V.ref a = V.ref a' ∧ H a' = some (.rng lo hi) ∧ Q (.bl (decide (lo ≤ i' ∧ i' < hi))) H) := ⟨i, a, lo, hi, rfl, rfl, h, q⟩
theorem L_rng2 {i j : Int} (q : ∀ p, H p = none → Q (.ref p) (upd H p (.rng i j))) : (∃ i' j', [V.int i, V.int j] = [V.int i', V.int j'] ∧ ∀ p, H p = none → Q (.ref p) (upd H p (.rng i' j'))) := ⟨i, j, rfl, q⟩
/-- no text -/
def NotS (K : PySem.W.Frag) (H : Hp) (v : V) : Prop := ∃ a, TyX K H v (.type a) ∧ kitB a "str" = some false
theorem nots_tup {a : Addr} {xs : List V} (h : SqT K H a xs) : NotS K H (.ref a) := ⟨_, tyx_T h, by decide +kernel⟩
theorem nots_lst {a : Addr} {xs : List V} (h : SqL K H a xs) : NotS K H (.ref a) := ⟨_, tyx_L h, by decide +kernel⟩
theorem nots_non : NotS K H .non := ⟨_, .base .non, by decide +kernel⟩
theorem nots_int {i : Int} : NotS K H (.int i) := ⟨_, .base (.int i), by decide +kernel⟩
theorem nots_bl {i : Bool} : NotS K H (.bl i) := ⟨_, .base (.bl i), by decide +kernel⟩
theorem nots_dK {a : Addr} {xs : List (Key × V)} (h : H a = some (.dK xs)) : NotS K H (.ref a) := ⟨_, .base (.dK h), by decide +kernel⟩
theorem NotS.same {H' : Hp} {v : V} (h : NotS K H v) (e : Same H H') : NotS K H' v := by
  obtain ⟨a, h1, h2⟩ := h
  exact ⟨a, TyX_same e h1, h2⟩
end
theorem len1 (a : Nat) : (⟨#[a]⟩ : Str).length = 1 := rfl
theorem str_len_append (a b : Str) : (a ++ b).length = a.length + b.length := Array.size_append
theorem str_len {z : Str} : z.cps.toList.length = z.length := by rw [Array.length_toList]; rfl
theorem one_lt {c d : Nat} : ([c] : List Nat) < [d] ↔ c < d := by
  rw [List.cons_lt_cons_iff]
  constructor
  · rintro (h | ⟨_, h⟩)
    · exact h
    · exact absurd h (List.not_lt_nil _)
  · exact .inl
theorem str_app_list (a b : Str) : (a ++ b).cps.toList = a.cps.toList ++ b.cps.toList := Array.toList_append
theorem eqv_nil {ds : List PyData} : PyData.eqv (.list ds) (.list []) = ds.isEmpty := by
  cases ds <;> simp [PyData.eqv, PyData.eqvAll]
theorem strOk_of {z : Str} (h : ∀ c ∈ z.cps.toList, c < 1114112) : PyData.strOk z = true := by
  show (z.cps.all (· < 0x110000)) = true
  rw [← Array.all_toList, List.all_eq_true]
  intro c hc
  exact decide_eq_true (h c hc)
theorem L_nnT {A B : Prop} (a : A) : if (!!true) = true then A else B := L_T a
theorem L_nnF {A B : Prop} (b : B) : if (!!false) = true then A else B := L_F b
theorem bd_128 {i : Int} (h : -340282366920938463463374607431768211456 < i ∧ i < 340282366920938463463374607431768211456) : Bd 128 i := by
  unfold Bd
  have : (2 : Nat) ^ 128 = 340282366920938463463374607431768211456 := by decide
  omega
/-! ### an exception that was caught, held by a name beyond the clause -/
/-- an exception of the class cls at a, its own dict d -/
def ExI (cls : Value) (d : Option Addr) (a : Addr) : HO := .ext fun h => ∃ (oe : Obj) (vs : Array Value), h.get? a = some oe ∧ Zc cls d oe ∧ oe.data = .fields vs
section
variable {X : Cx} {pins : List (Addr × Obj)} {σ : L2.St} {H : Hp} {s : Shared}
theorem track {a : Addr} {d : Option Addr} {cls : Value} {oe : Obj} {vs : Array Value} (I : Inv X pins σ H s) (na : H a = none) (he : s.heap.get? a = some oe) (z : Zc cls d oe) (hd : oe.data = .fields vs) (n0 : X.s_0.heap.get? a = none)
    (nL : a ≠ X.env.locals) (np : ∀ p ∈ X.pn ++ pins, p.1 ≠ a) : Inv X pins σ (upd H a (ExI cls d a)) s where
  ok := I.ok
  os := I.os
  bare := I.bare
  base := {
    keep := I.base.keep
    slot := I.base.slot
    free := fun b o e n hx => by
      rw [upd_ne (fun z => by rw [z, n0] at e; cases e)]
      exact I.base.free b o e n hx
    there := I.base.there
    tups := fun b xs q => by
      have t := I.base.tups b xs q
      rw [upd_ne (ne_of_none t na)]; exact t
    frzs := fun b o u q => by
      have t := I.base.frzs b o u q
      rw [upd_ne (ne_of_none t na)]; exact t
    tbls := fun b ps q => by
      obtain ⟨more, t⟩ := I.base.tbls b ps q
      exact ⟨more, by rw [upd_ne (ne_of_none t na)]; exact t⟩ }
  loc := I.loc
  cell := I.cell
  free := by rw [upd_ne nL.symm]; exact I.free
  freeC := fun x c e => by
    obtain ⟨v, o, ho, hc⟩ := I.cell x c e
    rw [upd_ne (fun z => by rw [z, he] at ho; cases ho; rw [hd] at hc; cases hc)]
    exact I.freeC x c e
  pin := fun p hp => by
    obtain ⟨h1, h2, h3⟩ := I.pin p hp
    exact ⟨h1, by rw [upd_ne (np p hp)]; exact h2, h3⟩
  hok := fun b o e => by
    by_cases hb : b = a
    · cases hb
      rw [upd_same] at e
      cases e
      exact ⟨⟨oe, vs, he, z, hd⟩, ⟨oe, he⟩, fun _ _ ⟨o1, v1, q, r⟩ k => ⟨o1, v1, k o1 q, r⟩⟩
    · rw [upd_ne hb] at e
      exact (I.hok b o e).stay (fun _ _ _ q => q) (fun c q => by rw [upd_ne (ne_of_none q na)]; exact q) fun c xs q => by rw [upd_ne (ne_of_none q na)]; exact q
  len := I.len
end
/-- what 'except x as n' wishes of an exception, which is tracked behind the suite -/
def wAsT (K : PySem.W.Frag) (c : Value) (i : Nat) (ts : Addr → Value → Option Addr → TS) (Wout : WX) (D : Ends) : WX := fun cls d σ H =>
  ∃ b, PySem.W.exmOne K cls c = some b ∧
    (b = true → ∀ a, H a = none → ts a cls d ⟨fun σ' H' => H' a = none → D.nx (σ'.set i none) (upd H' a (ExI cls d a)), D.rt, fun σ' H' => D.bk (σ'.set i none) H', fun σ' H' => D.ct (σ'.set i none) H'⟩ (σ.set i (some (.ref a))) H) ∧
    (b = false → Wout cls d σ H)
section
variable {X : Cx} {x n : Str} {c : Value} {i : Nat} {body suite : List Stmt} {b₀ : Stmt} {np pos pos' : Pos} {tb : WX → TS} {ts : Addr → Value → Option Addr → TS} {Wout : WX}
theorem ps_try_asT (hs : X.stack = X.env :: X.outer) (hf : X.env.frame = some X.env.locals) (hN : X.N.Nodup) (hi : X.N[i]? = some n) (hln : X.env.kindOf n = some .local) (hex : X.ex = []) (hc : Names X x c) (tk : Takes X Wout)
    (hb : ∀ (W : WX) (pn : List (Addr × Obj)) (xe : Value → Shared → Prop), Takes (X.tr pn xe) W → PassesOwn (model X.prog X.w) X.A X.env xe → PSs (X.tr pn xe) body (tb W))
    (hsu : ∀ (a : Addr) (oe : Obj) (cls : Value) (d : Option Addr) (pn : List (Addr × Obj)), Zc cls d oe → (∃ vs, oe.data = .fields vs) → PSs (X.suite a ((a, oe) :: pn)) (b₀ :: suite) (ts a cls d)) :
    PS X (.Try body [.ExceptHandler (some (.Name x np)) (some n) (b₀ :: suite) pos'] [] [] pos) (fun D σ H => tb (wAsT X.K c i ts Wout D) D σ H) := by
  constructor
  intro pins s0 σ0 H0 D I0 start
  have okX := I0.ok
  have frames : X.A.frames = some (X.env :: X.outer) := by
    rw [okX.frames, hs]
  apply wpAny_Try_except
  -- what is raised in the body is looked at by the clause
  let look : Value → Shared → Prop := fun e t1 => wpAny (model X.prog X.w) X.A (noteFrame e X.env) (fun _ t2 => wpAny (model X.prog X.w) X.A (setFlight e none)
    (fun _ t3 => wpAny (model X.prog X.w) X.A (handleBy e X.env [.ExceptHandler (some (.Name x np)) (some n) (b₀ :: suite) pos']) (SP X pins D) X.xe t3) X.xe t2) X.xe t1
  have caught : Takes (X.tr (X.pn ++ pins) look) (wAsT X.K c i ts Wout D) := by
    intro u s' air
    obtain ⟨a, B, sI, pins', σ', H', cls, d, rfl, K', nb, up, sky, na, os, ag, b, exm, yes, no⟩ := air
    have K0 : Inv X pins σ' H' sI := K'.ofTry okX
    have sky1 : Sky B (X.env :: X.outer) a (Zc cls d) X.env.locals s'.heap := hs ▸ sky
    show wpAny (model X.prog X.w) X.A (noteFrame (.ref a) X.env) _ _ _
    apply Sky.land Zc.steady frames hf sky1
    intro h3 fl3 up3
    have J3 : Inv X pins σ' H' { s' with heap := h3 } := K0.landed nb fl3.1 (up.trans up3) os ag
    obtain ⟨oe3, vs3, at3, z3, data3⟩ := fl3.there
    have offFrames : a ∉ frs (X.env :: X.outer) := fun hm => by
      obtain ⟨_, o', there', hnf⟩ := fl3.2.2.1.mem hm
      rw [at3] at there'
      cases there'
      exact hnf _ data3
    have nL : a ≠ X.env.locals := fun e => offFrames (List.mem_filterMap.mpr ⟨X.env, List.mem_cons_self, by rw [hf, e]⟩)
    have nF : a ∉ X.fs := fun hm => by
      obtain ⟨e, he, q⟩ := List.mem_filterMap.mp hm
      exact offFrames (List.mem_filterMap.mpr ⟨e, List.mem_cons_of_mem _ he, q⟩)
    -- a is new: it stood neither at the try's entry nor at the def's
    have newB : B.get? a = none := fl3.2.1
    have newI : sI.heap.get? a = none := by
      cases q : sI.heap.get? a with
      | none => rfl
      | some o =>
        have := nb a o q (by rw [hs]; exact offFrames)
        rw [newB] at this
        cases this
    have new0 : X.s_0.heap.get? a = none := by
      cases q : X.s_0.heap.get? a with
      | none => rfl
      | some o =>
        obtain ⟨o', q'⟩ := K0.base.there a o q (by rw [hex]; exact List.not_mem_nil)
        rw [newI] at q'
        cases q'
    have apart : ∀ p ∈ X.pn ++ pins, p.1 ≠ a := fun p hp e => by
      have := (K0.pin p hp).1
      rw [e, newI] at this
      cases this
    have S3 := J3.suite at3 data3 na nL nF
    apply wpAny_handleBy_cons _ (by intro q; cases q)
    apply codeAny_handlers_test
    have tyA : PySem.W.Looks (model X.prog X.w) h3 (typeOf (.ref a)) cls := fun A Q E t k q => wpAny_typeOf_ref (k _ _ at3) (by rw [z3.1]; exact q)
    have matched := PySem.W.exm_one (M := model X.prog X.w) (J3.kIn) tyA exm
    have named : ∀ {Q : Value → Shared → Prop} {E : Value → Shared → Prop}, Q c { s' with heap := h3 } → wpAny (model X.prog X.w) (X.A.mark (some (.ref a))) (eval (.Name x np) X.env) Q E { s' with heap := h3 } := by
      intro Q E q
      obtain ⟨hg, hdbg, hm⟩ := hc
      rcases hm with hm | ⟨hm, hv, hnn⟩
      · exact ld_glob (X := X.suite a ((a, oe3) :: (X.pn ++ pins))) S3 hg hm q hdbg
      · exact ld_blt (X := X.suite a ((a, oe3) :: (X.pn ++ pins))) S3 hg hm hv q hnn hdbg
    apply named
    apply matched.here
    cases b with
    | true =>
      apply codeAny_handlers_suite_as
      apply HandSPX.lands_againZ fl3
      intro h4 fl4 up4
      have J4 : Inv X pins σ' H' { s' with heap := h4 } := K0.landed nb fl4.1 ((up.trans up3).trans up4) os ag
      obtain ⟨oe4, vs4, at4, z4, data4⟩ := fl4.there
      have S4 := J4.suite at4 data4 na nL nF
      refine store_ok (X := X.suite a ((a, oe4) :: (X.pn ++ pins))) (v := .ref a) S4 hN hi (.inl hln) rfl (fun s5 S5 => ?_) (.inr hln)
      refine wpAny_mono ((hsu a oe4 cls d (X.pn ++ pins) z4 ⟨_, data4⟩).run [] s5 _ H' _ S5 (yes rfl a na)) (fun f s6 hsp => ?_) (fun _ _ z => z.elim)
      -- out of the suite, the exception still pinned
      have out : ∀ {σ6 : L2.St} {H6 : Hp} {Q : Shared → Prop}, Inv (X.suite a ((a, oe4) :: (X.pn ++ pins))) [] σ6 H6 s6 → (∀ s7, Inv X pins (σ6.set i none) H6 s7 → H6 a = none → s7.heap.get? a = some oe4 → Q s7) →
          wpAny (model X.prog X.w) X.A (do bindName X.env n .none; unbindBehindTheSuite X.env n pos') (fun _ s7 => Q s7) X.xe s6 := fun {σ6 H6 Q} S6 hq => by
        have P6 : Inv X ((a, oe4) :: pins) σ6 H6 s6 := { S6.unsuite okX with
          pin := fun p hp => S6.pin p (by
            rcases List.mem_append.mp hp with hp | hp
            · exact List.mem_append_left _ (List.mem_cons_of_mem _ (List.mem_append_left _ hp))
            · rcases List.mem_cons.mp hp with e | hp
              · rw [e]; exact List.mem_append_left _ List.mem_cons_self
              · exact List.mem_append_left _ (List.mem_cons_of_mem _ (List.mem_append_right _ hp))) }
        refine gone_ok P6 hN hi hln fun s7 P7 => ?_
        have pinned := P7.pin (a, oe4) (List.mem_append_right _ List.mem_cons_self)
        refine hq s7 { P7 with pin := fun p hp => P7.pin p ?_ } pinned.2.1 pinned.1
        rcases List.mem_append.mp hp with hp | hp
        · exact List.mem_append_left _ hp
        · exact List.mem_append_right _ (List.mem_cons_of_mem _ hp)
      match f, hsp with
      | .next, ⟨σ6, H6, S6, q6⟩ => exact out S6 fun s7 J7 n6 a6 => ⟨_, _, track J7 n6 a6 z4 data4 new0 nL apart, q6 n6⟩
      | .brk, ⟨σ6, H6, S6, q6⟩ => exact out S6 fun s7 J7 _ _ => ⟨_, _, J7, q6⟩
      | .cont, ⟨σ6, H6, S6, q6⟩ => exact out S6 fun s7 J7 _ _ => ⟨_, _, J7, q6⟩
      | .ret u, ⟨v6, σ6, H6, S6, r6, q6⟩ => exact out S6 fun s7 J7 _ _ => ⟨_, _, _, J7, r6, q6⟩
    | false =>
      show wpAny _ X.A (handleBy (.ref a) X.env []) _ _ _
      apply wpAny_handleBy_nil
      obtain ⟨_, _, _, oe, vs, T, oT, ts', he, hz, hd, h1, hr⟩ := id fl3
      unfold PySem.passOn
      refine wpAny_bind (wpAny_field he hd h1 ?_)
      rw [if_neg (show ¬ ((Value.ref T == Value.none) = true) from by simp)]
      have on : wpAny (model X.prog X.w) X.A (setFlight (.ref a) X.env.frame) (fun _ s4 => wpAny (model X.prog X.w) X.A (throw (.ref a) : Sem Flow) (SP X pins D) X.xe s4) X.xe { s' with heap := h3 } := by
        rw [hf]
        apply HandSPX.setFlight_upZ fl3
        intro h4 held4 up4
        apply wpAny_throw
        apply tk
        exact ⟨a, B, sI, pins, σ', H', cls, d, rfl, K0, nb, (up.trans up3).trans up4, .inr (.inr (by rw [hs]; exact held4)), na, os, ag, no rfl⟩
      first
        | exact wpAny_bind (wpAny_pure (wpAny_bind on))
        | exact wpAny_bind on
  refine wpAny_mono ((hb (wAsT X.K c i ts Wout D) (X.pn ++ pins) look caught PassesOwn.looking).run [] s0 σ0 H0 D (I0.toTry _) start) (fun f s1 hsp => ?_) (fun e s1 he => he)
  match f, hsp with
  | .next, ⟨σ1, H1, J1, q⟩ => exact wpAny_execs_nil ⟨σ1, H1, J1.ofTry okX, q⟩
  | .brk, ⟨σ1, H1, J1, q⟩ => exact ⟨σ1, H1, J1.ofTry okX, q⟩
  | .cont, ⟨σ1, H1, J1, q⟩ => exact ⟨σ1, H1, J1.ofTry okX, q⟩
  | .ret u, ⟨v, σ1, H1, J1, r, q⟩ => exact ⟨v, σ1, H1, J1.ofTry okX, r, q⟩
end
/-- isinstance of a caught exception that a name holds -/
def rIsX (K : PySem.W.Frag) : List V → Hp → VK → Prop := fun xs H Q => ∃ (a D : Addr) (c : V) (u : Value) (b : Bool), xs = [.ref a, c] ∧ H a = some (ExI (.ref D) none a) ∧ L2.ExcC K D ∧ ClsV c u ∧ PySem.W.kitOne K (.ref D) u = some b ∧ Q (.bl b) H
def rIsXT (K : PySem.W.Frag) : List V → Hp → VK → Prop := fun xs H Q => ∃ (a D tp : Addr) (cs : List V) (us : List Value) (b : Bool), xs = [.ref a, .ref tp] ∧ H a = some (ExI (.ref D) none a) ∧ L2.ExcC K D ∧ H tp = some (.tup cs) ∧ Paired ClsV cs us ∧ PySem.W.kitAny K (.ref D) us = some b ∧ Q (.bl b) H
section
variable {X : Cx} {pins : List (Addr × Obj)} {σ : L2.St} {H : Hp} {s : Shared}
theorem exI_at {a D : Addr} (I : Inv X pins σ H s) (h : H a = some (ExI (.ref D) none a)) : ∃ oe, PySem.W.InstAt s.heap a oe D none := by
  obtain ⟨⟨oe, vs, q1, ⟨q2, q3⟩, q4⟩, _⟩ := I.hok a _ h
  obtain ⟨oc, od, oda, osl⟩ := oe
  dsimp only at q2 q3 q4
  subst q2 q3 q4
  exact ⟨_, q1, rfl, rfl, trivial⟩
theorem call_isX : CallR X (.builtin "isinstance") (rIsX X.K) := by
  intro pins s σ H xs us Q I r h
  obtain ⟨a, D, c, u, b, rfl, hx, C, k, e, q⟩ := h
  obtain ⟨u1, u2, rfl, r1, r2⟩ := vals2 r
  cases r1
  cases k.eq r2
  obtain ⟨oe, J⟩ := exI_at I hx
  exact PySem.W.kia_one (PySem.W.handS_kitx_exc C.hg C.hk C.hs C.hd C.ha C.hn C.ht C.hm) I.kIn J e (fun z => nomatch z) fun tk => ⟨.bl b, H, I.tok tk, rfl, q⟩
theorem call_isXT : CallR X (.builtin "isinstance") (rIsXT X.K) := by
  intro pins s σ H xs us Q I r h
  obtain ⟨a, D, tp, cs, ws, b, rfl, hx, C, hT, k, e, q⟩ := h
  obtain ⟨u1, u2, rfl, r1, r2⟩ := vals2 r
  cases r1
  cases (show u2 = Value.ref tp from r2)
  obtain ⟨oe, J⟩ := exI_at I hx
  obtain ⟨_, its, rv, o, h1, h2, n, h3⟩ := (show ObjOk X.prog X.w H s.heap tp (.tup cs) from I.hok tp _ hT)
  have e3 := ClsV.all k rv
  subst e3
  obtain ⟨oc, od, dt, sl⟩ := o
  simp only at h2 h3
  subst h2 h3
  exact PySem.W.kia_tup (PySem.W.handS_kitx_exc C.hg C.hk C.hs C.hd C.ha C.hn C.ht C.hm) I.kIn J h1 e (fun z => nomatch z) fun tk => ⟨.bl b, H, I.tok tk, rfl, q⟩
end
section
variable {K : PySem.W.Frag} {H : Hp} {Q : VK} {C D : Addr} {b : Bool}
theorem kit_ref (hD : PySem.W.subIn K (.ref D) (.ref D) = some true) (k : ExcK K C) (h : PySem.W.subIn K (.ref D) (.ref C) = some b) : PySem.W.kitOne K (.ref D) (.ref C) = some b := by
  unfold PySem.W.kitOne
  by_cases e : D = C
  · subst e
    rw [hD] at h
    cases h
    rw [if_pos (by simp)]
  · rw [if_neg (by simpa using e)]
    have h2 : (PySem.W.clsIn K C).isSome = true := k.i
    show (if ((PySem.W.clsIn K C).isSome && PySem.W.typeIn K (.ref C) == some (.type "type")) = true then PySem.W.subIn K (.ref D) (.ref C) else none) = some b
    rw [if_pos (by rw [h2, k.t]; rfl)]
    exact h
theorem kit_typ {T : String} (hm : PySem.W.kitMeta T = true) (h : PySem.W.subIn K (.ref D) (.type T) = some b) : PySem.W.kitOne K (.ref D) (.type T) = some b := by
  unfold PySem.W.kitOne
  rw [if_neg (by simp)]
  show (if PySem.W.kitMeta T = true then PySem.W.subIn K (.ref D) (.type T) else none) = some b
  rw [if_pos hm]
  exact h
theorem L_isX {a : Addr} {c : V} {u : Value} (h : H a = some (ExI (.ref D) none a)) (C : L2.ExcC K D) (k : ClsV c u) (e : PySem.W.kitOne K (.ref D) u = some b) (q : Q (.bl b) H) : rIsX K [.ref a, c] H Q := ⟨a, D, c, u, b, rfl, h, C, k, e, q⟩
theorem L_isXT {a tp : Addr} {cs : List V} {us : List Value} (h : H a = some (ExI (.ref D) none a)) (C : L2.ExcC K D) (hT : H tp = some (.tup cs)) (k : Paired ClsV cs us) (e : PySem.W.kitAny K (.ref D) us = some b) (q : Q (.bl b) H) : rIsXT K [.ref a, .ref tp] H Q := ⟨a, D, tp, cs, us, b, rfl, h, C, hT, k, e, q⟩
theorem kit_none : ∀ {us : List Value}, (∀ u ∈ us, PySem.W.kitOne K (.ref D) u = some false) → PySem.W.kitAny K (.ref D) us = some false
  | [], _ => rfl
  | u :: us, h => by
    unfold PySem.W.kitAny
    rw [h u (List.mem_cons_self ..)]
    exact kit_none fun x hx => h x (List.mem_cons_of_mem _ hx)
theorem L_asT {c : Value} {i : Nat} {ts : Addr → Value → Option Addr → TS} {Wout : WX} {D : Ends} {σ : L2.St} {cls : Value} {d : Option Addr} (h : PySem.W.exmOne K cls c = some true)
    (q : ∀ a, H a = none → ts a cls d ⟨fun σ' H' => H' a = none → D.nx (σ'.set i none) (upd H' a (ExI cls d a)), D.rt, fun σ' H' => D.bk (σ'.set i none) H', fun σ' H' => D.ct (σ'.set i none) H'⟩ (σ.set i (some (.ref a))) H) : wAsT K c i ts Wout D cls d σ H :=
  ⟨true, h, fun _ => q, fun z => nomatch z⟩
end
/-! ### lists of numbers, and what is none -/
def BadNs (K : PySem.W.Frag) (H : Hp) (v : V) (lo hi : Int) : Prop := NotL K H v ∨ ∃ a xs, v = .ref a ∧ SqL K H a xs ∧ (24 < xs.length ∨ ((∀ x ∈ xs, (∃ t, x = .int t ∧ lo ≤ t ∧ t ≤ hi) ∨ BadW K H x lo hi) ∧ ∃ x ∈ xs, BadW K H x lo hi))
def GoodNs (K : PySem.W.Frag) (H : Hp) (v : V) (ts : List Int) (lo hi : Int) : Prop := ∃ a, v = .ref a ∧ SqL K H a (ts.map V.int) ∧ ts.length ≤ 24 ∧ ∀ t ∈ ts, lo ≤ t ∧ t ≤ hi
section
variable {K : PySem.W.Frag} {H H' : Hp} {v : V} {lo hi : Int} {ts : List Int}
theorem BadNs.same (h : BadNs K H v lo hi) (e : Same H H') : BadNs K H' v lo hi := by
  rcases h with h | ⟨a, xs, h1, h2, h3⟩
  · exact .inl (h.same e)
  · refine .inr ⟨a, xs, h1, e.seq h2, ?_⟩
    rcases h3 with h3 | ⟨h3, x, h4, h5⟩
    · exact .inl h3
    · exact .inr ⟨fun x hx => (h3 x hx).imp id fun b => b.same e, x, h4, h5.same e⟩
theorem GoodNs.same (h : GoodNs K H v ts lo hi) (e : Same H H') : GoodNs K H' v ts lo hi := by
  obtain ⟨a, h1, h2, h3, h4⟩ := h
  exact ⟨a, h1, e.seq h2, h3, h4⟩
theorem bad_one {a : Addr} {x : V} (h : H a = some (.lst [x])) (b : BadW K H x lo hi) : BadNs K H (.ref a) lo hi := .inr ⟨a, _, rfl, .of h, .inr ⟨fun y hy => by rw [List.mem_singleton.mp hy]; exact .inr b, x, List.mem_singleton.mpr rfl, b⟩⟩
theorem good_ns {a : Addr} (h : H a = some (.lst (ts.map V.int))) (hl : ts.length ≤ 24) (hb : ∀ t ∈ ts, lo ≤ t ∧ t ≤ hi) : GoodNs K H (.ref a) ts lo hi := ⟨a, rfl, .of h, hl, hb⟩
theorem int_of_mem {x : V} (h : x ∈ ts.map V.int) : ∃ t ∈ ts, x = .int t := by
  obtain ⟨t, h1, h2⟩ := List.mem_map.mp h
  exact ⟨t, h1, h2.symm⟩
theorem getD_of {i : Nat} {t : Int} (h : ts[i]? = some t) : ts.getD i 0 = t := by rw [List.getD_eq_getElem?_getD, h]; rfl
theorem fm_int {f : Nat → Option Int} {n : Nat} : (List.range n).filterMap (fun i => (f i).map V.int) = ((List.range n).filterMap f).map V.int := by
  rw [List.map_filterMap]
end
/-- pairs of ints as data -/
def d2 (r : Int × Int) : PyData := .tuple [.int r.1, .int r.2]
section
variable {K : PySem.W.Frag} {H : Hp} {v : V} {us : List V} {rows : List (Int × Int)}
theorem of_d2 {r : Int × Int} (h : Dp K H v (d2 r)) : ∃ a, v = .ref a ∧ SqT K H a [.int r.1, .int r.2] := by
  obtain ⟨a, x, y, rfl, h1, h2, h3⟩ := of_t2 h
  rw [of_int h2, of_int h3] at h1
  exact ⟨a, rfl, h1⟩
theorem hit2 (hA : DpAll K H us (rows.map d2)) {i : Nat} {x : V} (hx : us[i]? = some x) : ∃ r t, rows[i]? = some r ∧ x = V.ref t ∧ SqT K H t [.int r.1, .int r.2] := by
  obtain ⟨d, h1, h2⟩ := hA.of hx
  rw [List.getElem?_map] at h1
  obtain ⟨r, h3, rfl⟩ := Option.map_eq_some_iff.mp h1
  obtain ⟨t, rfl, h4⟩ := of_d2 h2
  exact ⟨r, t, h3, rfl, h4⟩
theorem shp_d2s : SeqAt.shaped (.list (rows.map d2)) = true := (shp_lst (n := 1) (shp_map fun r _ => shp_tup (n := 0) (shp_cons shp_int (shp_cons shp_int shp_nil)))).ok
end
theorem cutG_take {α : Type} (xs : List α) (n : Nat) : cutG xs none (some (n : Int)) = xs.take n := by
  unfold cutG
  rw [HT.sIx_none, HT.sIx_nat, List.drop_zero, Nat.sub_zero]
  rcases Nat.le_total n xs.length with h | h
  · rw [Nat.min_eq_left h]
  · rw [Nat.min_eq_right h, List.take_of_length_le (Nat.le_refl _), List.take_of_length_le h]
theorem cutG_drop {α : Type} (xs : List α) (n : Nat) : cutG xs (some (n : Int)) none = xs.drop n := by
  unfold cutG
  rw [HT.sIx_none, HT.sIx_nat]
  rcases Nat.le_total n xs.length with h | h
  · rw [Nat.min_eq_left h, List.take_of_length_le (by rw [List.length_drop]; exact Nat.le_refl _)]
  · rw [Nat.min_eq_right h, List.drop_of_length_le (Nat.le_refl _), List.drop_of_length_le h, List.take_nil]
theorem strOk_lit {z : Str} (h : PyData.strOk z = true) : PyData.strOk z = true := h
theorem dpa_app {K : PySem.W.Frag} {H : Hp} : ∀ {ds es : List PyData} {vs us : List V}, DpAll K H (vs ++ us) (ds ++ es) → vs.length = ds.length → DpAll K H vs ds ∧ DpAll K H us es
  | [], _, [], _, h, _ => ⟨.nil, h⟩
  | [], _, _ :: _, _, _, e => by simp at e
  | _ :: _, _, [], _, _, e => by simp at e
  | d :: ds, _, v :: vs, _, h, e => by
    cases h with
    | cons h1 h2 =>
      obtain ⟨a, b⟩ := dpa_app h2 (by simpa using e)
      exact ⟨.cons h1 a, b⟩
theorem nn_ints_or {K : PySem.W.Frag} {H : Hp} {x : V} {ts : List Int} {lo hi : Int} (hb : ∀ t ∈ ts, lo ≤ t ∧ t ≤ hi) (h : x ∈ ts.map V.int) : (∃ t, x = .int t ∧ lo ≤ t ∧ t ≤ hi) ∨ BadW K H x lo hi := by
  obtain ⟨t, ht, e⟩ := int_of_mem h
  exact .inl ⟨t, e, hb t ht⟩
theorem rep_len {α : Type} (xs : List α) : ∀ n : Nat, (List.replicate n xs).flatten.length = n * xs.length
  | 0 => by simp
  | n + 1 => by rw [List.replicate_succ, List.flatten_cons, List.length_append, rep_len xs n, Nat.succ_mul, Nat.add_comm]
/-! ### exceptions whose own __init__ asks their base's by its name -/
/-- S.__init__, S an own class, is ValueError's -/
structure BaseI (K : PySem.W.Frag) (S : Addr) : Prop where
  rd : PySem.W.readsIn K S (.type "type") = true
  ga : PySem.W.specialIn K (.ref S) "__getattribute__" = some (some (.builtin "type.__getattribute__"))
  vi : PySem.W.findCls K (.ref S) (.type "type") "__init__" = some (.val (.builtin "ValueError.__init__"))
structure XIniAt (K : PySem.W.Frag) (C : Addr) (qual : Str) (st : Stmt) (ps : List Str) : Prop where
  ex : ∃ (f : Addr) (fd : FuncData), Fun K "__init__" qual st f fd ∧ PySem.W.findIn K (.ref C) "__init__" = some (some (.ref f)) ∧ PySem.W.isFn K (.ref f) = true ∧ Binds K fd ps []
/-- an exception that may be made by its class's name -/
structure XMak (P : Program) (w : World) (K : PySem.W.Frag) (mg : Str → Option Value) (base : Heap) (k : Nat) (x : Str) (C : Addr) (sp : Sp) : Prop where
  ex : ∃ (f : Addr) (fd : FuncData) (ps : List Str), FnOk P w K mg base CX0 k f fd ps sp ∧ PySem.W.findIn K (.ref C) "__init__" = some (some (.ref f)) ∧ PySem.W.typeIn K (.ref f) = some (.type "function") ∧ mg x = some (.ref C) ∧ Binds K fd ps []
section
variable {P : Program} {w : World} {K : PySem.W.Frag} {mg : Str → Option Value} {base : Heap}
theorem XIniAt.xmak {x : Str} {C : Addr} {qual : Str} {st : Stmt} {N ps : List Str} {k : Nat} {sp : Sp} (hx : mg x = some (.ref C)) (d : XIniAt K C qual st ps) (S : FnScope N ps (defScope st)) (len : ∀ vs H Q E, sp vs H Q E → vs.length = ps.length)
    (hbody : ∀ (f : Addr) (cdv : Value) (A : Around) (outer : List Env) (s : Shared) (H : Hp) (vs : List V) (Q : VK) (E : XK), Room k (A.deeper (envOfC qual (defScope st) s.heap.objs.size f cdv)) → sp vs H Q E →
      ∃ t, PSs (cxOf CX0 P w K mg base N qual (defScope st) f cdv A outer s H E).nox (defBody st) t ∧ t { nx := fun _ H' => Q .non H', rt := Q } (start N vs) H) : XMak P w K mg base (k + 1) x C sp := by
  obtain ⟨f, fd, F, h1, h2, b⟩ := d.ex
  exact ⟨f, fd, ps, F.ok S len (hbody f), h1, beq_iff_eq.mp h2, hx, b⟩
end
section
variable {X : Cx} {k j : Nat} {C S : Addr} {x : Str} {sp : Sp} {p p1 p2 pos : Pos} {e : Expr} {es : List Expr} {ta : TA}
theorem pmk_x (c : XMak X.prog X.w X.K X.mg X.base k x C sp) (T : OexC X.K C) (hr : Room j X.A) (hk : k + 1 ≤ j) (hg : Gl X x) (ha : PA X (e :: es) ta)
    (hdb : (x == ("__debug__" : Str)) = false := by decide) (he : starEach (e :: es) X.env = (false, eval e X.env) :: starEach es X.env := by rfl) (hpl : (backTo pos (starEach es X.env)).any (·.1) = false := by rfl) :
    PMk X (.Call (.Name x p) (e :: es) [] pos) (tMkO C sp [] ta) := by
  obtain ⟨f, fd, ps, F, h1, h2, hm, b⟩ := c.ex
  exact pmk_oex T h1 h2 F (hr.mono hk) b .nil pass0 hg hm ha hdb he hpl
theorem pe_baseI {pl : Sem Bool} (hg : Gl X x) (hm : X.mg x = some (.ref S)) (B : BaseI X.K S) (ha : PA X (e :: es) ta)
    (hc : eval (.Call (.Attribute (.Name x p1) "__init__" p2) (e :: es) [] pos) X.env = (do
      let ov ← eval (.Name x p1) X.env
      standAt p2.atName
      let (f, first) ← holding [ov] (getMethod ov "__init__" pl)
      callWith pos f first (backTo pos (starEach (e :: es) X.env)) (backToKw pos (keywordEach [] X.env))) := by rfl)
    (hdb : (x == ("__debug__" : Str)) = false := by decide) (he : starEach (e :: es) X.env = (false, eval e X.env) :: starEach es X.env := by rfl) (hpl : (backTo pos (starEach es X.env)).any (·.1) = false := by rfl) :
    PE X (.Call (.Attribute (.Name x p1) "__init__" p2) (e :: es) [] pos) (tVeI X.K ta) := by
  constructor
  intro pins s σ H Q I h
  have asked : ∀ s1, Inv X pins σ H s1 → wpAny (model X.prog X.w) X.A (callWith pos (Value.builtin "ValueError.__init__") [] (backTo pos (starEach (e :: es) X.env)) []) (EP X pins σ Q) X.xe s1 := fun s1 I1 =>
    PyProof.Rows.callWith_method1 (thn (ha.run pos pins s1 σ H _ I1 h) fun us s2 ⟨vs, H2, I2, r, a, D, ws, evs, few, T, atA, q⟩ => by
      subst evs
      cases r with
      | @cons _ u0 _ ur r0 rr =>
        obtain rfl : u0 = Value.ref a := r0
        have few' : ur.length ≤ sizeLine := by
          have := Paired.length rr
          have := sizeLine_eq
          omega
        exact oinit_ok T I2 atA few' fun s3 I3 => ⟨.non, H2, I3, rfl, q⟩) he hpl
  refine PySem.W.methodCall_KW (ld_glob I hg hm ?_ hdb) hc
  refine PySem.W.method_cls I.kIn B.ga (PySem.W.cls_value I.kIn B.rd B.vi (by decide +kernel) ?_)
  exact asked _ (I.tok _)
end
section
variable {K : PySem.W.Frag} {σ : L2.St} {H : Hp} {D : Ends} {C a : Addr} {f : Str} {y : V} {ta : TA} {te to : TE}
theorem L_veI {R : Hp → Prop} {ws : List V} (T : OexC K C) (h : H a = some (exo a C none)) (l : ws.length ≤ 1000) (q : R H) : ∃ (a' C : Addr) (ws' : List V), V.ref a :: ws = .ref a' :: ws' ∧ ws'.length ≤ 1000 ∧ OexC K C ∧ H a' = some (exo a' C none) ∧ R H := ⟨a, C, ws, rfl, l, T, h, q⟩
theorem L_tveI {Q : VK} (h : ta σ H fun vs H1 => ∃ (a C : Addr) (ws : List V), vs = .ref a :: ws ∧ ws.length ≤ 1000 ∧ OexC K C ∧ H1 a = some (exo a C none) ∧ Q .non H1) : tVeI K ta σ H Q := h
theorem L_ost (h : te σ H fun y H1 => to σ H1 fun x H2 => ∃ a C : Addr, x = .ref a ∧ OexC K C ∧ PySem.W.findIn K (.ref C) f = some none ∧
  ((H2 a = some (exo a C none) ∧ ∀ dx, H2 dx = none → dx ≠ a → D.nx σ (upd (upd H2 dx (exd dx [(f, y)])) a (exo a C (some dx)))) ∨
    ∃ (dx : Addr) (fs : List (Str × V)), H2 a = some (exo a C (some dx)) ∧ H2 dx = some (exd dx fs) ∧ fs.length ≤ 900 ∧ D.nx σ (upd H2 dx (exd dx ((f, y) :: fs))))) : tOst K f to te D σ H := h
theorem L_ost1 {R : Hp → Prop} (T : OexC K C) (nf : PySem.W.findIn K (.ref C) f = some none) (h : H a = some (exo a C none)) (q : ∀ dx, H dx = none → dx ≠ a → R (upd (upd H dx (exd dx [(f, y)])) a (exo a C (some dx)))) :
    ∃ a' C : Addr, V.ref a = .ref a' ∧ OexC K C ∧ PySem.W.findIn K (.ref C) f = some none ∧
  ((H a' = some (exo a' C none) ∧ ∀ dx, H dx = none → dx ≠ a' → R (upd (upd H dx (exd dx [(f, y)])) a' (exo a' C (some dx)))) ∨
    ∃ (dx : Addr) (fs : List (Str × V)), H a' = some (exo a' C (some dx)) ∧ H dx = some (exd dx fs) ∧ fs.length ≤ 900 ∧ R (upd H dx (exd dx ((f, y) :: fs)))) := ⟨a, C, rfl, T, nf, .inl ⟨h, q⟩⟩
/-- what an __init__ with one field keeps -/
def XIni1 (C : Addr) (f : Str) (a : Addr) (v : V) (H : Hp) (Q : VK) : Prop := H a = some (exo a C none) ∧ ∀ d, H d = none → d ≠ a → Q .non (upd (upd H d (exd d [(f, v)])) a (exo a C (some d)))
/-- C(v) is raised -/
theorem L_mkO1 {sp : Sp} {E : XK} {v : V} (hs : ∀ a H Q E, XIni1 C f a v H Q → sp [.ref a, v] H Q E) (q : ∀ d, H d = none → E (.ref C) (some d) (upd H d (.xd [(f, v)]))) : [v].length ≤ 1000 ∧ ∀ a, H a = none → sp (.ref a :: ([v] ++ [])) (upd H a (exo a C none))
  (fun v H2 => v = .non ∧ ∃ (d : Addr) (fs : List (Str × V)), H2 a = some (exo a C (some d)) ∧ H2 d = some (exd d fs) ∧ H d = none ∧ E (.ref C) (some d) (upd (del H2 a) d (.xd fs))) (fun _ _ _ => False) := by
  refine ⟨by rw [List.length_singleton]; decide, fun a na => hs a _ _ _ ⟨upd_same, fun d nd ne => ⟨rfl, d, [(f, v)], upd_same, ?_, ?_, ?_⟩⟩⟩
  · rw [upd_ne ne, upd_same]
  · rw [upd_ne ne] at nd
    exact nd
  · rw [upd_ne ne] at nd
    have z : upd (del (upd (upd (upd H a (exo a C none)) d (exd d [(f, v)])) a (exo a C (some d))) a) d (.xd [(f, v)]) = upd H d (.xd [(f, v)]) := by
      funext b
      by_cases hb : b = d
      · rw [hb, upd_same, upd_same]
      · rw [upd_ne hb, upd_ne hb]
        by_cases ha : b = a
        · rw [ha, del_same, na]
        · rw [del_ne ha, upd_ne ha, upd_ne hb, upd_ne ha]
    rw [z]
    exact q d nd
theorem L_mkO {sp : Sp} {dvs : List V} {Q : XK} (h : ta σ H fun vs H1 => vs.length ≤ 1000 ∧ ∀ a, H1 a = none → sp (.ref a :: (vs ++ dvs)) (upd H1 a (exo a C none))
  (fun v H2 => v = .non ∧ ∃ (d : Addr) (fs : List (Str × V)), H2 a = some (exo a C (some d)) ∧ H2 d = some (exd d fs) ∧ H1 d = none ∧ Q (.ref C) (some d) (upd (del H2 a) d (.xd fs))) (fun _ _ _ => False)) : tMkO C sp dvs ta σ H Q := h
end
/-- isinstance(e, c) in e's own suite, whatever its dict -/
def rIsS (K : PySem.W.Frag) (a : Addr) (cls : Value) (d : Option Addr) : List V → Hp → VK → Prop := fun xs H Q => ∃ (D : Addr) (c : V) (u : Value) (b : Bool), xs = [.ref a, c] ∧ cls = .ref D ∧ (∀ dd, d = some dd → ∃ fs, H dd = some (.xd fs)) ∧ L2.ExcC K D ∧ ClsV c u ∧ PySem.W.kitOne K (.ref D) u = some b ∧ Q (.bl b) H
theorem call_isS {X : Cx} {a : Addr} {cls : Value} {d : Option Addr} {oe : Obj} {pn : List (Addr × Obj)} (hz : Zc cls d oe) (hf : ∃ vs, oe.data = .fields vs) : CallR (X.suite a ((a, oe) :: pn)) (.builtin "isinstance") (rIsS X.K a cls d) := by
  intro pins s σ H xs us Q I r h
  obtain ⟨D, c, u, b, rfl, rfl, hd, C, k, e, q⟩ := h
  obtain ⟨u1, u2, rfl, r1, r2⟩ := vals2 r
  cases r1
  cases k.eq r2
  obtain ⟨there, _⟩ := I.pin (a, oe) (List.mem_append_left _ List.mem_cons_self)
  obtain ⟨vs, data⟩ := hf
  have J : ∃ od, PySem.W.InstAt s.heap a oe D od := by
    have nc : PySem.W.notCls oe = true := by unfold PySem.W.notCls; rw [data] <;> rfl
    cases d with
    | none => exact ⟨none, there, hz.1, nc, by rw [hz.2]; exact True.intro⟩
    | some dd =>
      obtain ⟨fs, hdd⟩ := hd dd rfl
      obtain ⟨mA, ⟨o, es, ep, ho, _⟩, _⟩ := (show ObjOk X.prog X.w H s.heap dd (.xd fs) from I.hok dd _ hdd)
      exact ⟨some o, there, hz.1, nc, by rw [hz.2]; exact ho⟩
  obtain ⟨od, J⟩ := J
  obtain ⟨cd, hcd, _⟩ := PySem.W.any_some C.hd
  exact PySem.W.kia_one (PySem.W.kitx_exc (show (PySem.W.clsIn _ D).isSome = true by rw [hcd]; rfl) C.hg C.hk C.hs C.ha C.hn C.ht C.hm) I.kIn J e (fun z => nomatch z) fun tk => ⟨.bl b, H, I.tok tk, rfl, q⟩
theorem L_isS {K : PySem.W.Frag} {H : Hp} {Q : VK} {a D : Addr} {d : Option Addr} {c : V} {u : Value} {b : Bool} (hd : ∀ dd, d = some dd → ∃ fs, H dd = some (.xd fs)) (C : L2.ExcC K D) (k : ClsV c u) (e : PySem.W.kitOne K (.ref D) u = some b) (q : Q (.bl b) H) : rIsS K a (.ref D) d [.ref a, c] H Q := ⟨D, c, u, b, rfl, rfl, hd, C, k, e, q⟩
/-- the same, of some classes -/
def rIsST (K : PySem.W.Frag) (a : Addr) (cls : Value) (d : Option Addr) : List V → Hp → VK → Prop := fun xs H Q => ∃ (D tp : Addr) (cs : List V) (ws : List Value) (b : Bool), xs = [.ref a, .ref tp] ∧ cls = .ref D ∧ (∀ dd, d = some dd → ∃ fs, H dd = some (.xd fs)) ∧ L2.ExcC K D ∧ H tp = some (.tup cs) ∧ Paired ClsV cs ws ∧ PySem.W.kitAny K (.ref D) ws = some b ∧ Q (.bl b) H
theorem call_isST {X : Cx} {a : Addr} {cls : Value} {d : Option Addr} {oe : Obj} {pn : List (Addr × Obj)} (hz : Zc cls d oe) (hf : ∃ vs, oe.data = .fields vs) : CallR (X.suite a ((a, oe) :: pn)) (.builtin "isinstance") (rIsST X.K a cls d) := by
  intro pins s σ H xs us Q I r h
  obtain ⟨D, tp, cs, ws, b, rfl, rfl, hd, C, hT, k, e, q⟩ := h
  obtain ⟨u1, u2, rfl, r1, r2⟩ := vals2 r
  cases r1
  cases (show u2 = Value.ref tp from r2)
  obtain ⟨there, _⟩ := I.pin (a, oe) (List.mem_append_left _ List.mem_cons_self)
  obtain ⟨vs, data⟩ := hf
  have J : ∃ od, PySem.W.InstAt s.heap a oe D od := by
    have nc : PySem.W.notCls oe = true := by unfold PySem.W.notCls; rw [data] <;> rfl
    cases d with
    | none => exact ⟨none, there, hz.1, nc, by rw [hz.2]; exact True.intro⟩
    | some dd =>
      obtain ⟨fs, hdd⟩ := hd dd rfl
      obtain ⟨mA, ⟨o, es, ep, ho, _⟩, _⟩ := (show ObjOk X.prog X.w H s.heap dd (.xd fs) from I.hok dd _ hdd)
      exact ⟨some o, there, hz.1, nc, by rw [hz.2]; exact ho⟩
  obtain ⟨od, J⟩ := J
  obtain ⟨_, its, rv, o, h1, h2, n, h3⟩ := (show ObjOk X.prog X.w H s.heap tp (.tup cs) from I.hok tp _ hT)
  have e3 := ClsV.all k rv
  subst e3
  obtain ⟨oc, od2, dt, sl⟩ := o
  simp only at h2 h3
  subst h2 h3
  obtain ⟨cd, hcd, _⟩ := PySem.W.any_some C.hd
  exact PySem.W.kia_tup (PySem.W.kitx_exc (show (PySem.W.clsIn _ D).isSome = true by rw [hcd]; rfl) C.hg C.hk C.hs C.ha C.hn C.ht C.hm) I.kIn J h1 e (fun z => nomatch z) fun tk => ⟨.bl b, H, I.tok tk, rfl, q⟩
theorem L_isST {K : PySem.W.Frag} {H : Hp} {Q : VK} {a D tp : Addr} {d : Option Addr} {cs : List V} {ws : List Value} {b : Bool} (hd : ∀ dd, d = some dd → ∃ fs, H dd = some (.xd fs)) (C : L2.ExcC K D) (hT : H tp = some (.tup cs)) (k : Paired ClsV cs ws) (e : PySem.W.kitAny K (.ref D) ws = some b) (q : Q (.bl b) H) : rIsST K a (.ref D) d [.ref a, .ref tp] H Q := ⟨D, tp, cs, ws, b, rfl, rfl, hd, C, hT, k, e, q⟩
/-- one of two derivations -/
def tOrE (t1 t2 : TE) : TE := fun σ H Q => t1 σ H Q ∨ t2 σ H Q
theorem PE.or {X : Cx} {e : Expr} {t1 t2 : TE} (h1 : PE X e t1) (h2 : PE X e t2) : PE X e (tOrE t1 t2) :=
  ⟨fun pins s σ H Q I h => h.elim (fun h => h1.run pins s σ H Q I h) (fun h => h2.run pins s σ H Q I h)⟩
/-- what isinstance asks of an instance's own class; of the class it is asked of -/
structure InsC (K : PySem.W.Frag) (C : Addr) : Prop where
  ha : PySem.W.findIn K (.ref C) "__class__" = some (some (.builtin "object.__class__"))
  hn : PySem.W.specialIn K (.builtin "object.__class__") "__get__" = some (some (.builtin "getset_descriptor.__get__"))
  ht : PySem.W.takesIn K (.builtin "object.__class__") = some true
  hm : PySem.W.mroIn K C (.type "object") = some true
structure ClsT (K : PySem.W.Frag) (C : Addr) : Prop where
  i : PySem.W.isClsIn K C = true
  t : PySem.W.typeIn K (.ref C) = some (.type "type")
theorem tyx_I {K : PySem.W.Frag} {H : Hp} {a C dx : Addr} {fs : List (Str × V)} (h : H a = some (.ins C dx fs)) (cl : Cls K C) (c : InsC K C) : TyX K H (.ref a) (.ref C) := .base (.ins h cl c.ha c.hn c.ht c.hm)
theorem kit_own {K : PySem.W.Frag} {C D : Addr} {b : Bool} (hD : PySem.W.subIn K (.ref D) (.ref D) = some true) (k : ClsT K C) (h : PySem.W.subIn K (.ref D) (.ref C) = some b) : PySem.W.kitOne K (.ref D) (.ref C) = some b := by
  unfold PySem.W.kitOne
  by_cases e : D = C
  · subst e
    rw [hD] at h
    cases h
    rw [if_pos (by simp)]
  · rw [if_neg (by simpa using e)]
    have h2 : (PySem.W.clsIn K C).isSome = true := k.i
    show (if ((PySem.W.clsIn K C).isSome && PySem.W.typeIn K (.ref C) == some (.type "type")) = true then PySem.W.subIn K (.ref D) (.ref C) else none) = some b
    rw [if_pos (by rw [h2, k.t]; rfl)]
    exact h
theorem kit_not {K : PySem.W.Frag} {T : String} {C : Addr} {b : Bool} (k : ClsT K C) (h : PySem.W.subIn K (.type T) (.ref C) = some b) : PySem.W.kitOne K (.type T) (.ref C) = some b := by
  unfold PySem.W.kitOne
  rw [if_neg (by simp)]
  have h2 : (PySem.W.clsIn K C).isSome = true := k.i
  show (if ((PySem.W.clsIn K C).isSome && PySem.W.typeIn K (.ref C) == some (.type "type")) = true then PySem.W.subIn K (.type T) (.ref C) else none) = some b
  rw [if_pos (by rw [h2, k.t]; rfl)]
  exact h
theorem L_orl {t1 t2 : TE} {σ : L2.St} {H : Hp} {Q : VK} (h : t1 σ H Q) : tOrE t1 t2 σ H Q := .inl h
theorem L_orr {t1 t2 : TE} {σ : L2.St} {H : Hp} {Q : VK} (h : t2 σ H Q) : tOrE t1 t2 σ H Q := .inr h
theorem L_xf {a C : Addr} {cls : Value} {d : Option Addr} {f : Str} {te : TE} {σ : L2.St} {H : Hp} {Q : VK} (h : te σ H fun x H1 => x = .ref a ∧ cls = .ref C ∧ ∃ (dd : Addr) (fs : List (Str × V)) (v : V), d = some dd ∧ H1 dd = some (.xd fs) ∧ fs.lookup f = some v ∧ Q v H1) : tXf a cls d C f te σ H Q := h
theorem ExcC.xf {K : PySem.W.Frag} {C : Addr} (c : L2.ExcC K C) : XfC K C := ⟨c.hg, c.hk, c.hs, c.hd⟩
theorem L_isC {K : PySem.W.Frag} {H : Hp} {Q : VK} {x : V} {T : Value} {C : Addr} {b : Bool} (ty : TyX K H x T) (e : PySem.W.kitOne K T (.ref C) = some b) (q : Q (.bl b) H) : rIsi K [x, .ref C] H Q := ⟨x, .ref C, T, .ref C, b, rfl, .own C, ty, e, q⟩
theorem L_str1 {H : Hp} {Q : VK} {t : Int} (h : 0 ≤ t ∧ t ≤ 1000) (q : Q (.str (toString t)) H) : aStr1 [.int t] H Q := ⟨t, rfl, by have := Nat.log2_le_self t.natAbs; omega, q⟩
theorem str_short : ∀ t : Int, 0 ≤ t → t ≤ 100 → (↑(toString t) : Str).length ≤ 3 := by
  have h : ∀ n ∈ List.range 101, (↑(toString ((n : Nat) : Int)) : Str).length ≤ 3 := by decide +kernel
  intro t h0 h1
  have := h t.toNat (List.mem_range.mpr (by omega))
  rwa [Int.toNat_of_nonneg h0] at this

/-! ### exceptions held as values -/
/-- at a: an exception of the own class D, not raised; fs: its own fields -/
def XVal (H : Hp) (a D : Addr) (fs : List (Str × V)) : Prop := (fs = [] ∧ H a = some (ExI (.ref D) none a)) ∨ ∃ d, H a = some (exo a D (some d)) ∧ H d = some (exd d fs)
theorem XVal.same {H H' : Hp} {a D : Addr} {fs : List (Str × V)} (h : XVal H a D fs) (s : Same H H') : XVal H' a D fs := by
  rcases h with ⟨h1, h2⟩ | ⟨d, h1, h2⟩
  · exact .inl ⟨h1, s _ _ h2⟩
  · exact .inr ⟨d, s _ _ h1, s _ _ h2⟩
theorem xval_inst {X : Cx} {pins : List (Addr × Obj)} {σ : L2.St} {H : Hp} {s : Shared} {a D : Addr} {fs : List (Str × V)} (I : Inv X pins σ H s) (h : XVal H a D fs) : ∃ oe od, PySem.W.InstAt s.heap a oe D od := by
  rcases h with ⟨_, h⟩ | ⟨d, h1, h2⟩
  · obtain ⟨oe, J⟩ := exI_at I h
    exact ⟨oe, none, J⟩
  · obtain ⟨t1, ho⟩ := exo_at I.hok h1
    obtain ⟨mA, ⟨o, _, _, hd, _⟩, _⟩ := exd_at I.hok h2
    exact ⟨_, some o, ho, rfl, rfl, hd⟩
def rIsV (K : PySem.W.Frag) : List V → Hp → VK → Prop := fun xs H Q => ∃ (a D : Addr) (fs : List (Str × V)) (c : V) (u : Value) (b : Bool), xs = [.ref a, c] ∧ XVal H a D fs ∧ L2.ExcC K D ∧ ClsV c u ∧ PySem.W.kitOne K (.ref D) u = some b ∧ Q (.bl b) H
theorem call_isV {X : Cx} : CallR X (.builtin "isinstance") (rIsV X.K) := by
  intro pins s σ H xs us Q I r h
  obtain ⟨a, D, fs, c, u, b, rfl, hx, C, k, e, q⟩ := h
  obtain ⟨u1, u2, rfl, r1, r2⟩ := vals2 r
  cases r1
  cases k.eq r2
  obtain ⟨oe, od, J⟩ := xval_inst I hx
  obtain ⟨cd, hcd, _⟩ := PySem.W.any_some C.hd
  exact PySem.W.kia_one (PySem.W.kitx_exc (show (PySem.W.clsIn _ D).isSome = true by rw [hcd]; rfl) C.hg C.hk C.hs C.ha C.hn C.ht C.hm) I.kIn J e (fun z => nomatch z) fun tk => ⟨.bl b, H, I.tok tk, rfl, q⟩
theorem L_isV {K : PySem.W.Frag} {H : Hp} {Q : VK} {a D : Addr} {fs : List (Str × V)} {c : V} {u : Value} {b : Bool} (h : XVal H a D fs) (C : L2.ExcC K D) (k : ClsV c u) (e : PySem.W.kitOne K (.ref D) u = some b) (q : Q (.bl b) H) : rIsV K [.ref a, c] H Q := ⟨a, D, fs, c, u, b, rfl, h, C, k, e, q⟩
/-- e.f, e such a value -/
def tXv (K : PySem.W.Frag) (f : Str) (te : TE) : TE := fun σ H Q => te σ H fun x H1 => ∃ (a D d : Addr) (fs : List (Str × V)) (v : V), x = .ref a ∧ L2.ExcC K D ∧ PySem.W.findIn K (.ref D) f = some none ∧ H1 a = some (exo a D (some d)) ∧ H1 d = some (exd d fs) ∧ fs.lookup f = some v ∧ Q v H1
theorem L_xv {K : PySem.W.Frag} {f : Str} {te : TE} {σ : L2.St} {H : Hp} {Q : VK} (h : te σ H fun x H1 => ∃ (a D d : Addr) (fs : List (Str × V)) (v : V), x = .ref a ∧ L2.ExcC K D ∧ PySem.W.findIn K (.ref D) f = some none ∧ H1 a = some (exo a D (some d)) ∧ H1 d = some (exd d fs) ∧ fs.lookup f = some v ∧ Q v H1) : tXv K f te σ H Q := h
theorem pe_xv {X : Cx} {e : Expr} {te : TE} {f : Str} {pos : Pos} (he : PE X e te) (hb : attributeBase e f X.env (eval e X.env) = eval e X.env := by rfl) : PE X (.Attribute e f pos) (tXv X.K f te) := by
  constructor
  intro pins s σ H Q I h
  refine attr_of hb (thn (he.run pins s σ H _ I h) fun u s1 ⟨x, H1, I1, rx, a, D, d, fs, v, ex, C, nf, h1, h2, l, q⟩ => ?_)
  subst ex
  cases rx
  obtain ⟨t1, ho⟩ := exo_at I1.hok h1
  obtain ⟨mA, hns, rel⟩ := exd_at I1.hok h2
  obtain ⟨od, hod, hlk⟩ := lookIn_ns hns
  obtain ⟨w, hw, rw'⟩ := RelO.some_of (v := v) (o := mA f) (by rw [← l]; exact rel f)
  have J : PySem.W.InstAt s1.heap a _ D (some od) := ⟨ho, rfl, rfl, hod⟩
  exact HandSPX.exc_get I1.kIn J C.hg C.hk C.hs (PySem.W.findObj_own C.hd nf rfl (by rw [hlk, hw])) (handed_of rw') ⟨v, H1, I1.tok _, rw', q⟩
/-- C(), C without an own __init__ -/
def tMk0V (C : Addr) : TE := fun _ H Q => ∀ a, H a = none → Q (.ref a) (upd H a (ExI (.ref C) none a))
theorem pe_mk0V {X : Cx} {C : Addr} {x : Str} {p pos : Pos} (c : ExcAt X.K C) (gC : X.mg x = some (.ref C)) (hg : Gl X x) (hdb : (x == ("__debug__" : Str)) = false := by decide) : PE X (.Call (.Name x p) [] [] pos) (tMk0V C) := by
  constructor
  intro pins s σ H Q I h
  refine wpAny_Call_Name_kw (ld_glob I hg gC ?_ hdb)
  refine PySem.W.callWith_K0 I.kIn c.k ?_
  obtain ⟨bm, N, nm, qn, bs, hdct, sn, sub, ab, col, dd, k0, k1, k2, k3, k5, mN, hC, hN, hni, T⟩ := exc_obj I.kIn c.x
  refine wpAny_call_exc_subT PySem.F.excBase_ValueError T hC hN hni (fun h' a hm => ?_) (Nat.zero_le _)
  have na : H a = none := I.hok.gone hm.new
  obtain ⟨t, at_, _, _⟩ := hm.there
  refine ⟨.ref a, _, I.laidN (o := ExI (.ref C) none a) hm.keeps hm.new na ⟨⟨_, _, at_, ⟨rfl, rfl⟩, rfl⟩, ⟨_, at_⟩, fun _ _ ⟨o1, v1, z, r⟩ k => ⟨o1, v1, k o1 z, r⟩⟩, rfl, h a na⟩
/-- C(..), C with an own __init__ -/
def tMkV (C : Addr) (sp : Sp) (ta : TA) : TE := fun σ H Q => ta σ H fun vs H1 => vs.length ≤ 1000 ∧ ∀ a, H1 a = none → sp (.ref a :: vs) (upd H1 a (exo a C none)) (fun v H2 => v = .non ∧ Q (.ref a) H2) E0
theorem L_mkV {C : Addr} {sp : Sp} {ta : TA} {σ : L2.St} {H : Hp} {Q : VK} (h : ta σ H fun vs H1 => vs.length ≤ 1000 ∧ ∀ a, H1 a = none → sp (.ref a :: vs) (upd H1 a (exo a C none)) (fun v H2 => v = .non ∧ Q (.ref a) H2) E0) : tMkV C sp ta σ H Q := h
theorem L_mk0V {C : Addr} {σ : L2.St} {H : Hp} {Q : VK} (h : ∀ a, H a = none → Q (.ref a) (upd H a (ExI (.ref C) none a))) : tMk0V C σ H Q := h
theorem pe_mkV {X : Cx} {k j : Nat} {C : Addr} {x : Str} {sp : Sp} {p pos : Pos} {e : Expr} {es : List Expr} {ta : TA} (c : XMak X.prog X.w X.K X.mg X.base k x C sp) (T : OexC X.K C) (hr : Room j X.A) (hk : k + 1 ≤ j) (hg : Gl X x) (ha : PA X (e :: es) ta)
    (hdb : (x == ("__debug__" : Str)) = false := by decide) (he : starEach (e :: es) X.env = (false, eval e X.env) :: starEach es X.env := by rfl) (hpl : (backTo pos (starEach es X.env)).any (·.1) = false := by rfl) :
    PE X (.Call (.Name x p) (e :: es) [] pos) (tMkV C sp ta) := by
  obtain ⟨f, fd, ps, F, iC, tI, hm, hb⟩ := c.ex
  have room := hr.mono hk
  obtain ⟨nm, q, N, bs, bm, sn, sub, ab, col, dd, k0, k1, k2, k3, k5, hC, hbm⟩ := T.cls
  constructor
  intro pins s σ H Q I h
  refine wpAny_Call_Name_kw (ld_glob I hg hm ?_ hdb)
  refine PySem.W.callWith_K (h₀ := X.base) I.ok.mod.kin T.kC (thn (ha.run pos pins s σ H _ I h) fun us s1 ⟨vs, H1, I1, r1, hz, q1⟩ => ⟨I1.kIn, ?_⟩) he hpl
  show wpAny _ _ (call (.ref C) us) _ _ _
  have r1 : Vals vs us := r1
  have few : us.length ≤ sizeLine := by
    have z1 := Paired.length r1
    have z2 := sizeLine_eq
    omega
  obtain ⟨hp, g, dr, tk, os⟩ := s1
  -- the arguments' tuple and the exception's own place
  have old : ∀ b o, hp.get? b = some o → ((hp.push (PySem.W.kdv_tup us)).push (PySem.HandSPX.excO C hp.objs.size)).get? b = some o := fun b o z => Heap.get?_push_of_some _ (Heap.get?_push_of_some _ z)
  have here : ((hp.push (PySem.W.kdv_tup us)).push (PySem.HandSPX.excO C hp.objs.size)).get? (hp.objs.size + 1) = some (PySem.HandSPX.excO C hp.objs.size) := by heap_get
  have free : H1 (hp.objs.size + 1) = none := I1.hok.fresh (Nat.le_succ _)
  have J : Inv X pins σ (upd H1 (hp.objs.size + 1) (exo (hp.objs.size + 1) C none)) ⟨(hp.push (PySem.W.kdv_tup us)).push (PySem.HandSPX.excO C hp.objs.size), g, dr, tk, os⟩ :=
    I1.laid (t' := tk) old (Nat.le_succ _) (exo_ok here)
  have asked := q1 _ free
  have args : Vals (V.ref (hp.objs.size + 1) :: vs) (Value.ref (hp.objs.size + 1) :: us) := .cons rfl r1
  have many : (Value.ref (hp.objs.size + 1) :: us).length = ps.length := args.length.symm.trans (F.len _ _ _ _ asked)
  have bound := hb _ (Value.ref (hp.objs.size + 1) :: us) J.kIn (by rw [List.append_nil]; exact many)
  rw [List.append_nil] at bound
  refine wpAny_call (PySem.HandSPX.call_own PySem.F.excBase_ValueError (fun Y => PySem.HandSPX.refsVE_contains Y bm hbm) (I1.kIn _ _ hC) (PySem.W.looks_findIn I1.kIn iC) (fun self => PySem.W.bind_fn I1.kIn self tI) few ?_)
  refine codeAny_mono (F.run _ X.stack _ _ ⟨_, []⟩ _ _ _ E0 (room.make C us []) (J.env0.make C us []) bound args asked) fun out s' ho => ?_
  match out, ho with
  | .error e, ho => exact pass0 pins σ _ _ e s' J ho
  | .ok (.ret u), ho =>
    obtain ⟨v, H', J', rel, hv, rest⟩ := J.after ho
    cases hv
    exact ⟨rel, .ref (hp.objs.size + 1), H', J', rfl, rest⟩
  | .ok .next, ho => exact ho.elim
  | .ok .brk, ho => exact ho.elim
  | .ok .cont, ho => exact ho.elim
theorem L_dsetd {td ty tx : TE} {σ : L2.St} {H : Hp} {Q : VK} (h : td σ H fun x H1 => ∃ a, x = .ref a ∧ IsD H1 a ∧ ty σ H1 fun y H2 => tx σ H2 fun z H3 => ∃ (kvs : List (Key × V)) (k : Key), H3 a = some (.dK kvs) ∧ y = kV k ∧ kvs.length < sizeLine ∧
  (∀ v, valV kvs k = some v → Q v H3) ∧ (valV kvs k = none → Q z (upd H3 a (.dK (putK kvs k z))))) : tDSetd td ty tx σ H Q := h
/-! ### the tuples of a heap; fields changed by += -/
noncomputable def tp (H : Hp) : Hp := rs (fun b => ∃ xs, H b = some (.tup xs)) H
theorem tp_same {H H' : Hp} (h : ∀ b xs, H b = some (.tup xs) → H' b = some (.tup xs)) : Same (tp H) (tp H') := rs_same fun b o ⟨xs, e⟩ z => ⟨⟨xs, h b xs e⟩, by rw [e] at z; cases z; exact h b xs e⟩
theorem tp_upd {H : Hp} {a : Addr} {o : HO} (h : ∀ xs, H a ≠ some (.tup xs)) : Same (tp H) (tp (upd H a o)) := tp_same fun b xs e => by rw [upd_ne fun z => h xs (by rw [← z]; exact e)]; exact e
theorem tp_at {H : Hp} {b : Addr} {xs : List V} (h : H b = some (.tup xs)) : tp H b = some (.tup xs) := rs_at ⟨xs, h⟩ h
theorem tp_of {H H' : Hp} (e : Same H H') : Same (tp H) (tp H') := tp_same fun b xs z => e _ _ z
theorem L_fldaug {K : PySem.W.Frag} {σ : L2.St} {H : Hp} {N B C' : L2.St → Hp → Prop} {R : VK} {f : Str} {ta tv : TE} {rd : V → V → Hp → VK → Prop} (h : ta σ H fun x H1 => ∃ a C dx fs v, x = .ref a ∧ H1 a = some (.ins C dx fs) ∧ Cls K C ∧ NoAttr K C f ∧ fs.lookup f = some v ∧
  tv σ H1 fun y H2 => rd v y H2 fun z H3 => ∃ dx' fs', H3 a = some (.ins C dx' fs') ∧ fs'.length < 1000 ∧ N σ (upd H3 a (.ins C dx' (putF f z fs')))) : sFldAug K ta tv rd f ⟨N, R, B, C'⟩ σ H := h
theorem L_rAdd {H : Hp} {Q : VK} {i j : Int} (h : Q (.int (i + j)) H) : rAdd (.int i) (.int j) H Q := ⟨i, j, rfl, rfl, h⟩
theorem fm_flt {α β : Type} (c : α → Bool) (g : α → β) : ∀ l : List α, (List.range l.length).filterMap (fun i => (l[i]?).bind fun x => if c x = true then some (g x) else none) = (l.filter c).map g
  | [] => rfl
  | a :: l => by
    have ih := fm_flt c g l
    rw [List.length_cons, List.range_succ_eq_map]
    simp only [List.filterMap_cons, List.getElem?_cons_zero, Option.bind_some, List.filterMap_map, Function.comp_def, List.getElem?_cons_succ]
    rw [ih]
    cases h : c a
    · rw [List.filter_cons_of_neg (by simp [h])]; simp
    · rw [List.filter_cons_of_pos h]; simp
/-- t * n, t a text -/
def rRepS : R2 := fun x y H Q => ∃ (z : Str) (k : Int), x = .str z ∧ y = .int k ∧ MulOk z k ∧ Q (.str (Txt.mul z k)) H
theorem op_repS {X : Cx} : OpR X (binaryOp .Mult) rRepS := by
  intro pins s σ H x y v u Q I rx ry h
  obtain ⟨z, k, rfl, rfl, hz, q⟩ := h
  obtain ⟨t, rfl⟩ := rx
  obtain ⟨t', rfl⟩ := ry
  exact SB.mul hz fun t' tk => ⟨.str (Txt.mul z k), H, I.tok _, ⟨_, rfl⟩, q⟩
theorem L_repS0 {H : Hp} {Q : VK} {z : Str} {k : Int} (h : k = 0) (q : Q (.str Str.empty) H) : rRepS (.str z) (.int k) H Q := by
  subst h
  exact ⟨z, 0, rfl, rfl, ⟨by decide, fun h => absurd (by decide) h, fun h => absurd (by decide) h⟩, q⟩
theorem sqT_upd {K : PySem.W.Frag} {H : Hp} {p a : Addr} {us xs : List V} {o : HO} (hp : H p = some (.lst us)) (h : SqT K H a xs) : SqT K (upd H p o) a xs := by
  rcases h with (h | ⟨o', h⟩) | h
  · exact .inl (.inl (by rw [upd_ne fun z => by rw [z, hp] at h; cases h]; exact h))
  · exact .inl (.inr ⟨o', by rw [upd_ne fun z => by rw [z, hp] at h; cases h]; exact h⟩)
  · exact .inr h
theorem rep_map {α : Type} (f : α → V) (xs : List α) (n : Nat) : (List.replicate n (xs.map f)).flatten = ((List.replicate n xs).flatten).map f := by
  induction n with
  | zero => rfl
  | succ n ih => rw [List.replicate_succ, List.flatten_cons, List.replicate_succ, List.flatten_cons, List.map_append, ih]
theorem cutG_both {α : Type} (xs : List α) {a b : Nat} (h1 : a ≤ b) (h2 : b ≤ xs.length) : cutG xs (some (a : Int)) (some (b : Int)) = (xs.drop a).take (b - a) := by
  unfold cutG
  rw [HT.sIx_nat, HT.sIx_nat, Nat.min_eq_left h2, Nat.min_eq_left (Nat.le_trans h1 h2)]
/-! ### looks at a question's form, ahead of steps that show something -/
section
variable {K : PySem.W.Frag} {σ : L2.St} {H : Hp} {Q : VK} {x y v : V}
theorem G_mul (h : aMul x y H Q) : aMul x y H Q := h
theorem G_mod {g : Int → Int → V} (h : rI (fun _ j => 0 < j) g x y H Q) : rI (fun _ j => 0 < j) g x y H Q := h
theorem G_div {g : Int → Int → V} (h : rI CDivW g x y H Q) : rI CDivW g x y H Q := h
theorem G_pow {g : Int → Int → V} (h : rI CPow g x y H Q) : rI CPow g x y H Q := h
theorem G_ix {p : Addr} {i : Int} (h : rIx K (.ref p) (.int i) H Q) : rIx K (.ref p) (.int i) H Q := h
theorem G_len {p : Addr} (h : aLen K [.ref p] H Q) : aLen K [.ref p] H Q := h
theorem G_meth {a : Addr} {C : Addr} {m : Str} {R : Addr → Addr → List (Str × V) → Prop} (h : ∃ a' dx fs, V.ref a = V.ref a' ∧ H a' = some (.ins C dx fs) ∧ fs.lookup m = none ∧ R a' dx fs) : ∃ a' dx fs, V.ref a = V.ref a' ∧ H a' = some (.ins C dx fs) ∧ fs.lookup m = none ∧ R a' dx fs := h
theorem G_isi {i : Int} {n : String} (h : rIsi K [.int i, .ty n] H Q) : rIsi K [.int i, .ty n] H Q := h
theorem G_d {p : Prop} [Decidable p] {A B : Prop} (h : if decide p = true then A else B) : if decide p = true then A else B := h
theorem G_nd {p : Prop} [Decidable p] {A B : Prop} (h : if (!decide p) = true then A else B) : if (!decide p) = true then A else B := h
theorem G_gn {i : Nat} {N : L2.St → Hp → Prop} (h : gName i v σ H N) : gName i v σ H N := h
end
theorem inV_strs (n : Str) : ∀ ns : List Str, inV (.str n) (ns.map V.str) = decide (n ∈ ns)
  | [] => by simp [inV]
  | k :: ns => by
    have ih := inV_strs n ns
    unfold inV at ih ⊢
    rw [List.map_cons, List.any_cons, ih]
    by_cases e : n = k
    · subst e
      simp [eqV]
    · have e' : ¬ k = n := fun z => e z.symm
      simp [eqV, e, e']
theorem flat_strs : ∀ ns : List Str, (ns.map V.str).all flatV = true
  | [] => rfl
  | _ :: ns => by rw [List.map_cons, List.all_cons, flat_strs ns]; rfl
section
variable {K : PySem.W.Frag} {H : Hp} {Q : VK} {p : Addr} {z : Str} {ns : List Str}
theorem L_notInSs (h : SqL K H p (ns.map V.str)) (q : Q (.bl (!decide (z ∈ ns))) H) : aNotIn K (.str z) (.ref p) H Q := .inr ⟨p, _, rfl, .inl h, rfl, flat_strs _, by rw [if_pos rfl, inV_strs]; exact q⟩
theorem L_inSs (h : SqL K H p (ns.map V.str)) (q : Q (.bl (decide (z ∈ ns))) H) : aIn K (.str z) (.ref p) H Q := .inr ⟨p, _, rfl, .inl h, rfl, flat_strs _, by rw [if_neg (by decide), inV_strs]; exact q⟩
end
/-! ### dicts: in, not in, d[k] = v -/
section
variable {K : PySem.W.Frag} {σ : L2.St} {H : Hp} {Q : VK} {ty td tv : TE} {y v : V} {a : Addr} {k : Key} {kvs : List (Key × V)}
theorem L_din (h : ty σ H fun y H1 => td σ H1 fun x H2 => ∃ a o, x = .ref a ∧ DGet H2 a y o ∧ Q (.bl o.isSome) H2) : tDIn ty td σ H Q := h
theorem L_dnin (h : ty σ H fun y H1 => td σ H1 fun x H2 => ∃ a o, x = .ref a ∧ DGet H2 a y o ∧ Q (.bl (!o.isSome)) H2) : tDNotIn ty td σ H Q := h
theorem L_dget (h : td σ H fun x H1 => ty σ H1 fun y H2 => ∃ a v, x = .ref a ∧ DGet H2 a y (some v) ∧ Q v H2) : tDGet td ty σ H Q := h
theorem L_dinv {R : Option V → Prop} (e : y = kV k) (h : H a = some (.dK kvs)) (q : R (valV kvs k)) : ∃ a' o, V.ref a = .ref a' ∧ DGet H a' y o ∧ R o := ⟨a, _, rfl, by rw [e]; exact DGet.k h, q⟩
theorem L_dgetv {R : V → Prop} (e : y = kV k) (h : H a = some (.dK kvs)) (hv : valV kvs k = some v) (q : R v) : ∃ a' v, V.ref a = .ref a' ∧ DGet H a' y (some v) ∧ R v := ⟨a, v, rfl, by rw [e, ← hv]; exact DGet.k h, q⟩
theorem L_dput {N B C : L2.St → Hp → Prop} {R : VK} (h : tv σ H fun v H1 => td σ H1 fun x H2 => ty σ H2 fun y H3 => ∃ a H4, x = .ref a ∧ DPut H3 a y v H4 ∧ N σ H4) : sDPut td ty tv ⟨N, R, B, C⟩ σ H := h
theorem L_dputv {R : Hp → Prop} (e : y = kV k) (h : H a = some (.dK kvs)) (hl : kvs.length < 1000000) (q : R (upd H a (.dK (putK kvs k v)))) : ∃ a' H4, V.ref a = .ref a' ∧ DPut H a' y v H4 ∧ R H4 := ⟨a, _, rfl, by rw [e]; exact DPut.k h (sz_lt hl), q⟩
end
theorem putK_len {kvs : List (Key × V)} {k : Key} {v : V} : (putK kvs k v).length ≤ kvs.length + 1 := by
  unfold putK
  split
  · rw [List.length_map]; omega
  · rw [List.length_append, List.length_singleton]; omega
/-! ### a comprehension of new pairs of ints -/
def T2 (H : Hp) (v : V) (p : Int × Int) : Prop := ∃ t, v = .ref t ∧ H t = some (.tup [.int p.1, .int p.2])
theorem paired_imp2 {α β : Type} {F G : α → β → Prop} (h : ∀ a b, F a b → G a b) : ∀ {xs : List α} {ys : List β}, Paired F xs ys → Paired G xs ys
  | [], _, p => by cases p; exact .nil
  | x :: xs, _, p => by cases p with | cons h1 h2 => exact .cons (h _ _ h1) (paired_imp2 h h2)
theorem paired_app {α β : Type} {F : α → β → Prop} : ∀ {xs us : List α} {ys ws : List β}, Paired F xs ys → Paired F us ws → Paired F (xs ++ us) (ys ++ ws)
  | [], _, _, _, p, q => by cases p; exact q
  | x :: xs, _, _, _, p, q => by cases p with | cons h1 h2 => exact .cons h1 (paired_app h2 q)
section
variable {σ : L2.St} {H : Hp} {g : TG} {tt : TT} {te : TE}
theorem lc_pr {J : It} {n : Nat} {G : Hp → Prop} {Y : Nat → Hp → V → Hp → Prop} (w : L2.Walk J n G Y) {vs : List Nat} {Qd : Addr → Hp → Prop} (f : Nat → Option (Int × Int)) (hn : n ≤ 1000000) (hG : ∀ H', Same H H' → G H')
    (hs : ∀ i x H2 H' (R : V → Hp → Prop) (R' : Hp → Prop), i < n → Same H H2 → Y i H2 x H' → (∀ t p H4, f i = some p → Same H2 H4 → H4 t = some (.tup [.int p.1, .int p.2]) → R (.ref t) H4) → (∀ H3, f i = none → Same H2 H3 → R' H3) →
      g x (wipe σ vs) H' fun σ2 H2 => wipe σ2 vs = wipe σ vs ∧ tt σ2 H2 fun b H3 => if b = true then te σ2 H3 R else R' H3)
    (q : ∀ p H' vs, H p = none → Same H H' → H' p = some (.lst vs) → Paired (T2 H') vs ((List.range n).filterMap f) → Qd p H') :
    ∀ D, H D = none → ∃ W : Nat → Nat → Hp → Prop, (∃ m, W 0 m (upd H D (.lst []))) ∧ ∀ i m H, W i m H →
      (J.stop i H ∧ Qd D H) ∨ (J.go i H ∧ ∃ Nx : Hp → Prop, (∀ H', Nx H' → ∃ m', m' < m ∧ W (i + 1) m' H') ∧ ∀ x H', J.yld i H x H' → g x (wipe σ vs) H' fun σ2 H2 => wipe σ2 vs = wipe σ vs ∧ tt σ2 H2 fun b H3 =>
        if b = true then te σ2 H3 fun y H4 => ∃ acc, H4 D = some (.lst acc) ∧ acc.length < sizeLine ∧ Nx (upd H4 D (.lst (acc ++ [y]))) else Nx H3) := by
  intro D hD
  refine lc_it w (fun i H2 => Same H H2 ∧ ∃ us, H2 D = some (.lst us) ∧ Paired (T2 H2) us ((List.range i).filterMap f)) ⟨same_new hD, [], upd_same, .nil⟩ (fun i H2 _ p => hG H2 p.1) ?_ (fun H2 ⟨p1, us, p2, p3⟩ => q D H2 us hD p1 p2 p3)
  rintro i x H2 H' hi ⟨p1, us, p2, p3⟩ y
  refine hs i x H2 H' _ _ hi p1 y (fun t d H4 e s et => ?_) (fun H3 e s => ?_)
  · have e4 := s _ _ p2
    have ne : ∀ t o, H4 t = some o → (∀ l, o ≠ .lst l) → t ≠ D := fun t o h h' z => by rw [z, e4] at h; injection h with h; exact h' _ h.symm
    refine ⟨us, e4, sz_lt (by have := Paired.length p3; have := fm_len' f i; omega), same_mut (p1.trans s) hD, _, upd_same, ?_⟩
    rw [fm_succ', e]
    have up : ∀ v p, T2 H4 v p → T2 (upd H4 D (.lst (us ++ [.ref t]))) v p := fun v p h => by
      obtain ⟨t', h1, h2⟩ := h
      exact ⟨t', h1, by rw [upd_ne (ne t' _ h2 (fun _ z => by cases z))]; exact h2⟩
    exact paired_app (paired_imp2 (fun v p h => up v p (by obtain ⟨t', h1, h2⟩ := h; exact ⟨t', h1, s _ _ h2⟩)) p3) (.cons (up _ _ ⟨t, rfl, et⟩) .nil)
  · refine ⟨p1.trans s, us, s _ _ p2, ?_⟩
    rw [fm_succ', e, List.append_nil]
    exact paired_imp2 (fun v p ⟨t, h1, h2⟩ => ⟨t, h1, s _ _ h2⟩) p3
end
/-! ### methods with defaults -/
structure MethD (K : PySem.W.Frag) (C : Addr) (m qual : Str) (st : Stmt) (ps : List Str) (dvs : List V) : Prop where
  ex : ∃ (f : Addr) (fd : FuncData), FunD K m qual (defArgs st) (defBody st) (defScope st) dvs [] f fd ∧ Meth K C m f ∧ Binds K fd ps [] ∧ ∃ ds, Vals dvs ds ∧ Binds K fd ps ds
theorem binds_full {K : PySem.W.Frag} {fd : FuncData} {ps : List Str} {dvs : List V} {j : Nat} (h : ∃ ds, Vals (dvs.drop j) ds ∧ Binds K fd ps ds) (hj : dvs.length ≤ j := by decide) : Binds K fd ps [] := by
  obtain ⟨ds, r, b⟩ := h
  rw [List.drop_eq_nil_of_le hj] at r
  cases r
  exact b
structure MetXD (P : Program) (w : World) (K : PySem.W.Frag) (mg : Str → Option Value) (base : Heap) (k : Nat) (C : Addr) (m : Str) (sp : Sp) (dvs : List V) : Prop where
  ex : ∃ (f : Addr) (fd : FuncData) (ps : List Str) (ds : List Value), Cls K C ∧ Meth K C m f ∧ FnOk P w K mg base (L2.CX P w) k f fd ps sp ∧ Binds K fd ps [] ∧ Vals dvs ds ∧ Binds K fd ps ds
section
variable {P : Program} {w : World} {K : PySem.W.Frag} {mg : Str → Option Value} {base : Heap}
theorem MethD.metXD {C : Addr} {m qual : Str} {st : Stmt} {N ps : List Str} {k : Nat} {sp : Sp} {dvs : List V} (c : Cls K C) (d : MethD K C m qual st ps dvs) (S : FnScope N ps (defScope st)) (len : ∀ vs H Q E, sp vs H Q E → vs.length = ps.length)
    (hbody : ∀ (f : Addr) (cdv : Value) (A : Around) (outer : List Env) (s : Shared) (H : Hp) (vs : List V) (Q : VK) (E : XK), Room k (A.deeper (envOfC qual (defScope st) s.heap.objs.size f cdv)) → sp vs H Q E →
      ∃ t, PSs (cxOf (L2.CX P w) P w K mg base N qual (defScope st) f cdv A outer s H E) (defBody st) t ∧ t { nx := fun _ H' => Q .non H', rt := Q } (start N vs) H) : MetXD P w K mg base (k + 1) C m sp dvs := by
  obtain ⟨f, fd, F, hm, b, ds, r, b2⟩ := d.ex
  exact ⟨f, fd, ps, ds, c, hm, F.ok S len (hbody f), b, r, b2⟩
theorem MetXD.m {k : Nat} {C : Addr} {m : Str} {sp : Sp} {dvs : List V} (c : MetXD P w K mg base k C m sp dvs) : MetX P w K mg base k C m sp := by
  obtain ⟨f, fd, ps, ds, hc, hm, F, b, r, b2⟩ := c.ex
  exact ⟨f, fd, ps, hc, hm, F, b⟩
end
def tMethDE (C : Addr) (m : Str) (sp : Sp) (dvs : List V) (E : L2.St → XK) (ta : TE) (t : TA) : TE := fun σ H Q => ta σ H fun x H1 => ∃ a dx fs, x = .ref a ∧ H1 a = some (.ins C dx fs) ∧ fs.lookup m = none ∧ t σ H1 fun vs H2 => sp (x :: vs ++ dvs) H2 Q (E σ)
section
variable {X : Cx} {CX : CXT} {k j : Nat} {f C : Addr} {fd : FuncData} {ps : List Str} {x m : Str} {sp : Sp} {p pos apos : Pos} {e o : Expr} {es : List Expr} {ta : TE} {t : TA} {E : L2.St → XK} {dvs : List V}
theorem L_methD {σ : L2.St} {H : Hp} {Q : VK} (h : ta σ H fun x H1 => ∃ a dx fs, x = .ref a ∧ H1 a = some (.ins C dx fs) ∧ fs.lookup m = none ∧ t σ H1 fun vs H2 => sp (x :: vs ++ dvs) H2 Q (E σ)) : tMethDE C m sp dvs E ta t σ H Q := h
theorem pe_xMtD {pl : Sem Bool} (c : MetXD X.prog X.w X.K X.mg X.base k C m sp dvs) (hr : Room j X.A) (hk : k ≤ j) (hx : ∀ σ, PassesAt (L2.CX X.prog X.w) X σ (E σ)) (he : PE X o ta) (ha : PA X (e :: es) t)
    (hst : starEach (e :: es) X.env = (false, eval e X.env) :: starEach es X.env := by rfl) (hpl : (backTo pos (starEach es X.env)).any (·.1) = false := by rfl)
    (ht : eval (.Call (.Attribute o m apos) (e :: es) [] pos) X.env = (do
      let ov ← eval o X.env
      standAt apos.atName
      let (f, first) ← holding [ov] (getMethod ov m pl)
      callWith pos f first (backTo pos (starEach (e :: es) X.env)) (backToKw pos (keywordEach [] X.env))) := by rfl) :
    PE X (.Call (.Attribute o m apos) (e :: es) [] pos) (tMethDE C m sp dvs E ta t) := by
  obtain ⟨f, fd, ps, ds, hc, hm, F, _, hd, hb⟩ := c.ex
  refine ⟨fun pins s σ H Q I h => ?_⟩
  refine PySem.W.methodCall_KW (pl := pl) (thn (he.run pins s σ H _ I h) fun u s1 ⟨x, H1, I1, rx, a, dx, fs, ex, ea, l, q⟩ => ?_) ht
  subst ex
  obtain rfl : u = Value.ref a := rx
  refine getmeth_ok I1 ea hc hm l ?_
  refine PySem.W.callWith_K (first := [.ref a]) (h₀ := X.base) I.ok.mod.kin hm.kp (thn (ha.run pos pins s1 σ H1 _ I1 q) fun us s2 ⟨vs, H2, I2, r, q2⟩ => ⟨I2.kIn, ?_⟩) hst hpl
  exact run_fnSD (us := .ref a :: us) (vs := .ref a :: vs) F (hr.mono hk) hb hd (hx σ) I2 (.cons rfl r) q2
end
/-! ### dicts with ints as keys -/
def rSortDI : List V → Hp → VK → Prop := fun xs H Q => ∃ (a : Addr) (kvs : List (Key × V)) (ks : List Int), xs = [.ref a] ∧ Rd H a (.dK kvs) ∧ kvs.map (·.1) = ks.map Sum.inl ∧ ks.length < 64 ∧
    ∀ (ys : List Int) (p : Addr), ys.Perm ks → ys.Pairwise (· ≤ ·) → H p = none → Q (.ref p) (upd H p (.lst (ys.map V.int)))
theorem cr_sortDI {X : Cx} (hc : X.calm = true) : CallR X (.builtin "sorted") rSortDI := call_sortedDI hc
/-- the dict kvs is the function g: a key stands where g is not nought -/
def DGr (kvs : List (Key × V)) (g : Int → Int) : Prop := ∃ ks : List Int, kvs.map (·.1) = ks.map Sum.inl ∧ ks.Nodup ∧ (∀ f, f ∈ ks ↔ g f ≠ 0) ∧ ∀ f, g f ≠ 0 → valV kvs (Sum.inl f : Key) = some (.int (g f))
theorem DGr.none {kvs : List (Key × V)} {g : Int → Int} (h : DGr kvs g) {f : Int} (hf : g f = 0) : valV kvs (Sum.inl f : Key) = none := by
  obtain ⟨ks, h1, h2, h3, h4⟩ := h
  cases e : valV kvs (Sum.inl f : Key) with
  | none => rfl
  | some v =>
    obtain ⟨kv, hk, _⟩ := Option.map_eq_some_iff.mp e
    have hm := List.mem_of_find?_eq_some hk
    have he : kv.1 = (Sum.inl f : Key) := of_decide_eq_true (List.find?_some (p := fun kv : Key × V => decide (kv.1 = (Sum.inl f : Key))) hk)
    have : (Sum.inl f : Key) ∈ ks.map Sum.inl := by rw [← h1, ← he]; exact List.mem_map_of_mem hm
    obtain ⟨f', hf', e'⟩ := List.mem_map.mp this
    cases e'
    exact absurd hf ((h3 f).mp hf')
theorem DGr.getD {kvs : List (Key × V)} {g : Int → Int} (h : DGr kvs g) (f : Int) : (valV kvs (Sum.inl f : Key)).getD (.int 0) = .int (g f) := by
  by_cases hf : g f = 0
  · rw [h.none hf, hf]; rfl
  · obtain ⟨ks, h1, h2, h3, h4⟩ := h
    rw [h4 f hf]; rfl
theorem DGr.nil : DGr [] (fun _ => 0) := ⟨[], rfl, .nil, fun f => by simp, fun f h => absurd rfl h⟩
theorem DGr.one {k v : Int} (hv : v ≠ 0) : DGr [(Sum.inl k, .int v)] (fun f => if f = k then v else 0) := ⟨[k], rfl, by simp, fun f => by
  rw [List.mem_singleton]
  by_cases h : f = k
  · simp [h, hv]
  · simp [h], fun f h => by
  by_cases e : f = k
  · subst e; simp [valV]
  · simp [e] at h⟩
theorem DGr.put {kvs : List (Key × V)} {g : Int → Int} (h : DGr kvs g) (k v : Int) (hv : v ≠ 0) : DGr (putK kvs (Sum.inl k) (.int v)) (fun f => if f = k then v else g f) := by
  have hval : ∀ f, (if f = k then v else g f) ≠ 0 → valV (putK kvs (Sum.inl k : Key) (.int v)) (Sum.inl f) = some (.int (if f = k then v else g f)) := fun f hf => by
    rw [L2.valV_put]
    by_cases e : f = k
    · rw [if_pos e, if_pos (by rw [e])]
    · rw [if_neg e] at hf ⊢
      rw [if_neg (fun z => e (Sum.inl.inj z))]
      obtain ⟨ks, h1, h2, h3, h4⟩ := h
      exact h4 f hf
  by_cases hk : g k = 0
  · have hn := h.none hk
    obtain ⟨ks, h1, h2, h3, h4⟩ := h
    have e : putK kvs (Sum.inl k : Key) (.int v) = kvs ++ [(Sum.inl k, .int v)] := L2.putK_new (.int v) hn
    refine ⟨ks ++ [k], by rw [e, List.map_append, List.map_append, h1]; rfl, ?_, fun f => ?_, hval⟩
    · rw [List.nodup_append]
      refine ⟨h2, by simp, fun a ha b hb => ?_⟩
      rw [List.mem_singleton] at hb
      rintro rfl
      subst hb
      exact (h3 _).mp ha hk
    · rw [List.mem_append, List.mem_singleton, h3]
      by_cases e : f = k
      · simp [e, hv]
      · simp [e]
  · obtain ⟨ks, h1, h2, h3, h4⟩ := h
    have hany : (kvs.any fun kv => decide (kv.1 = (Sum.inl k : Key))) = true := by
      rw [List.any_eq_true]
      have : (Sum.inl k : Key) ∈ kvs.map (·.1) := by rw [h1]; exact List.mem_map_of_mem ((h3 k).mpr hk)
      obtain ⟨kv, hm, e⟩ := List.mem_map.mp this
      exact ⟨kv, hm, decide_eq_true e⟩
    refine ⟨ks, ?_, h2, fun f => ?_, hval⟩
    · unfold putK
      rw [if_pos hany, List.map_map, ← h1]
      refine List.map_congr_left fun kv _ => ?_
      show (if kv.1 = Sum.inl k then (kv.1, V.int v) else kv).1 = kv.1
      split <;> rfl
    · rw [h3]
      by_cases e : f = k
      · simp [e, hv, hk]
      · simp [e]
theorem DGr.congr {kvs : List (Key × V)} {g g' : Int → Int} (h : DGr kvs g) (e : ∀ f, g f = g' f) : DGr kvs g' := by
  rw [show g' = g from funext fun f => (e f).symm]; exact h
/-- a rising list of whole numbers from 0 to n - 1 is known by its members -/
def upN (n : Nat) : List Int := (List.range n).map fun i : Nat => (i : Int)
def keysOf (n : Nat) (h : Int → Int) : List Int := (upN n).filter fun f => decide (h f ≠ 0)
theorem upN_mem {n : Nat} {f : Int} : f ∈ upN n ↔ 0 ≤ f ∧ f < n := by
  unfold upN
  rw [List.mem_map]
  constructor
  · rintro ⟨i, hi, rfl⟩
    have := List.mem_range.mp hi
    omega
  · rintro ⟨h0, h1⟩
    exact ⟨f.toNat, List.mem_range.mpr (by omega), by omega⟩
theorem upN_lt (n : Nat) : (upN n).Pairwise (· < ·) := by
  unfold upN
  rw [List.pairwise_map]
  exact List.pairwise_lt_range.imp fun h => by omega
theorem lt_perm : ∀ {l l' : List Int}, l.Pairwise (· < ·) → l'.Pairwise (· < ·) → (∀ x, x ∈ l ↔ x ∈ l') → l = l'
  | [], [], _, _, _ => rfl
  | [], b :: l', _, _, h => absurd ((h b).mpr (List.mem_cons_self ..)) (by simp)
  | a :: l, [], _, _, h => absurd ((h a).mp (List.mem_cons_self ..)) (by simp)
  | a :: l, b :: l', h1, h2, h => by
    rw [List.pairwise_cons] at h1 h2
    have hab : a = b := by
      have ha := (h a).mp (List.mem_cons_self ..)
      have hb := (h b).mpr (List.mem_cons_self ..)
      rcases List.mem_cons.mp ha with e | e
      · exact e
      · rcases List.mem_cons.mp hb with e' | e'
        · exact e'.symm
        · have := h1.1 b e'
          have := h2.1 a e
          omega
    subst hab
    rw [lt_perm h1.2 h2.2 fun x => ?_]
    constructor
    · intro hx
      have := h1.1 x hx
      rcases List.mem_cons.mp ((h x).mp (List.mem_cons_of_mem _ hx)) with e | e
      · omega
      · exact e
    · intro hx
      have := h2.1 x hx
      rcases List.mem_cons.mp ((h x).mpr (List.mem_cons_of_mem _ hx)) with e | e
      · omega
      · exact e
theorem L_sortDI {H : Hp} {Q : VK} {a : Addr} {kvs : List (Key × V)} {g : Int → Int} {n : Nat} (hn : n < 64) (h : H a = some (.dK kvs)) (hg : DGr kvs g) (hb : ∀ f, g f ≠ 0 → 0 ≤ f ∧ f < n) (q : ∀ p, H p = none → Q (.ref p) (upd H p (.lst ((keysOf n g).map V.int)))) : rSortDI [.ref a] H Q := by
  obtain ⟨ks, h1, h2, h3, h4⟩ := hg
  have key : ∀ ys : List Int, ys.Perm ks → ys.Pairwise (· ≤ ·) → ys = keysOf n g := fun ys hp hs => by
    refine lt_perm ?_ ((upN_lt n).filter _) fun x => ?_
    · have nd := hp.nodup_iff.mpr h2
      exact (hs.and nd).imp fun ⟨h1, h2⟩ => by omega
    · rw [hp.mem_iff, h3]
      unfold keysOf
      rw [List.mem_filter, upN_mem, decide_eq_true_eq]
      exact ⟨fun z => ⟨hb x z, z⟩, fun z => z.2⟩
  refine ⟨a, kvs, ks, rfl, .inl h, h1, ?_, fun ys p hp hs hf => ?_⟩
  · have : ks.Perm (keysOf n g) := (List.perm_ext_iff_of_nodup h2 ((upN_lt n).imp (fun h => by omega) |>.filter _)).mpr fun x => by
      rw [h3]
      rw [List.mem_filter, upN_mem, decide_eq_true_eq]
      exact ⟨fun z => ⟨hb x z, z⟩, fun z => z.2⟩
    rw [this.length_eq]
    refine Nat.lt_of_le_of_lt (List.length_filter_le ..) ?_
    unfold upN
    rw [List.length_map, List.length_range]
    exact hn
  · rw [key ys hp hs]
    exact q p hf
theorem L_dget2 {σ : L2.St} {H : Hp} {Q : VK} {td ty tx : TE} (h : td σ H fun x H1 => ∃ a, x = .ref a ∧ IsD H1 a ∧ ty σ H1 fun y H2 => tx σ H2 fun z H3 => ∃ o, DGet H3 a y o ∧ Q (o.getD z) H3) : tDGet2 td ty tx σ H Q := h
theorem isD_at' {H : Hp} {a : Addr} {kvs : List (Key × V)} (h : H a = some (.dK kvs)) : IsD H a := .inl ⟨kvs, .inl h⟩
/-! ### a chain of three comparisons -/
def tChain3 (r r' r'' : R2) (ta tb tc td : TE) : TE := fun σ H Q => ta σ H fun x H1 => tb σ H1 fun y H2 => r x y H2 fun z H3 => ∃ k, z = .bl k ∧
  (if k = true then tc σ H3 fun w' H4 => r' y w' H4 fun z2 H5 => ∃ k2, z2 = .bl k2 ∧ (if k2 = true then td σ H5 fun u' H6 => r'' w' u' H6 Q else Q (.bl false) H5) else Q (.bl false) H3)
section
variable {X : Cx} {a b c d : Expr} {ta tb tc td : TE} {pos : Pos}
theorem pe_chain3 {op op' op'' : CmpOp} {r r' r'' : R2} (ho : OpR X (compareOp op) r) (ho' : OpR X (compareOp op') r') (ho'' : OpR X (compareOp op'') r'') (ha : PE X a ta) (hb : PE X b tb) (hc : PE X c tc) (hd : PE X d td)
    (hm : lastMarks [op, op', op''] [b, c, d] = false := by with_unfolding_all rfl) : PE X (.Compare a [op, op', op''] [b, c, d] pos) (tChain3 r r' r'' ta tb tc td) := by
  refine ⟨fun pins s σ H Q I h => ?_⟩
  refine Compare_chain (thn (ha.run pins s σ H _ I h) fun v s1 ⟨x, H1, I1, r1, q1⟩ => chain_link (thn (hb.run pins s1 σ H1 _ I1 q1) fun u s2 ⟨y, H2, I2, r2, q2⟩ =>
    thn (ho pins s2 σ H2 x y v u _ I2 r1 r2 q2) fun d s3 ⟨z, H3, I3, r3, k, e, q3⟩ => ?_)) hm
  subst e
  cases r3
  refine wpAny_truthy_bool ?_
  cases k with
  | false => exact ite_ff ⟨.bl false, H3, I3, rfl, q3⟩
  | true =>
    refine ite_tt (chain_link (thn (hc.run pins s3 σ H3 _ I3 q3) fun w' s4 ⟨z', H4, I4, r4, q4⟩ => thn (ho' pins s4 σ H4 y z' u w' _ I4 r2 r4 q4) fun d2 s5 ⟨z2, H5, I5, r5, k2, e2, q5⟩ => ?_))
    subst e2
    cases r5
    refine wpAny_truthy_bool ?_
    cases k2 with
    | false => exact ite_ff ⟨.bl false, H5, I5, rfl, q5⟩
    | true => exact ite_tt (chain_last (thn (hd.run pins s5 σ H5 _ I5 q5) fun u' s6 ⟨z3, H6, I6, r6, q6⟩ => ho'' pins s6 σ H6 z' z3 w' u' Q I6 r4 r6 q6))
theorem L_chain3 {r r' r'' : R2} {σ : L2.St} {H : Hp} {Q : VK} (h : ta σ H fun x H1 => tb σ H1 fun y H2 => r x y H2 fun z H3 => ∃ k, z = .bl k ∧
  (if k = true then tc σ H3 fun w' H4 => r' y w' H4 fun z2 H5 => ∃ k2, z2 = .bl k2 ∧ (if k2 = true then td σ H5 fun u' H6 => r'' w' u' H6 Q else Q (.bl false) H5) else Q (.bl false) H3)) : tChain3 r r' r'' ta tb tc td σ H Q := h
end
/-- the chain's test, as a value's -/
theorem L_catA {K : PySem.W.Frag} {H : Hp} {a b : Addr} {xs ys : List V} {Q : VK} (h1 : SqT K H a xs) (h2 : SqT K H b ys) (n1 : xs ≠ []) (n2 : ys ≠ []) (hl : xs.length + ys.length ≤ sizeLine) (q : ∀ p, H p = none → Q (.ref p) (upd H p (.tup (xs ++ ys)))) : aAdd K (.ref a) (.ref b) H Q :=
  .inr (.inr (.inr ⟨a, b, xs, ys, rfl, rfl, h1, h2, hl, fun e => absurd e n1, fun _ e => absurd e n2, fun _ _ => q⟩))
/-! ### several except clauses, some of them with a name -/
abbrev HdA := Value × Option Nat × (Addr → Value → Option Addr → TS)
def wManyA (K : PySem.W.Frag) (Wout : WX) (D : Ends) : List HdA → WX
  | [] => Wout
  | (c, none, ts) :: r => fun cls d σ H => ∃ b, PySem.W.exmOne K cls c = some b ∧ (b = true → ∀ a, H a = none → ts a cls d D σ H) ∧ (b = false → wManyA K Wout D r cls d σ H)
  | (c, some i, ts) :: r => fun cls d σ H => ∃ b, PySem.W.exmOne K cls c = some b ∧
    (b = true → ∀ a, H a = none → ts a cls d ⟨fun σ' H' => H' a = none → D.nx (σ'.set i none) (upd H' a (ExI cls d a)), D.rt, fun σ' H' => D.bk (σ'.set i none) H', fun σ' H' => D.ct (σ'.set i none) H'⟩ (σ.set i (some (.ref a))) H) ∧
    (b = false → wManyA K Wout D r cls d σ H)
inductive HdsA (X : Cx) : List ExceptHandler → List HdA → Prop
  | nil : HdsA X [] []
  | cons {x : Str} {c : Value} {ts : Addr → Value → Option Addr → TS} {b₀ : Stmt} {suite : List Stmt} {np pos' : Pos} {hds : List ExceptHandler} {l : List HdA} (hc : Names X x c)
      (hsu : ∀ (a : Addr) (oe : Obj) (cls : Value) (d : Option Addr) (pn : List (Addr × Obj)), Zc cls d oe → (∃ vs, oe.data = .fields vs) → PSs (X.suite a ((a, oe) :: pn)) (b₀ :: suite) (ts a cls d)) (r : HdsA X hds l) :
      HdsA X (.ExceptHandler (some (.Name x np)) none (b₀ :: suite) pos' :: hds) ((c, none, ts) :: l)
  | consA {x n : Str} {c : Value} {i : Nat} {ts : Addr → Value → Option Addr → TS} {b₀ : Stmt} {suite : List Stmt} {np pos' : Pos} {hds : List ExceptHandler} {l : List HdA} (hi : X.N[i]? = some n) (hln : X.env.kindOf n = some .local) (hc : Names X x c)
      (hsu : ∀ (a : Addr) (oe : Obj) (cls : Value) (d : Option Addr) (pn : List (Addr × Obj)), Zc cls d oe → (∃ vs, oe.data = .fields vs) → PSs (X.suite a ((a, oe) :: pn)) (b₀ :: suite) (ts a cls d)) (r : HdsA X hds l) :
      HdsA X (.ExceptHandler (some (.Name x np)) (some n) (b₀ :: suite) pos' :: hds) ((c, some i, ts) :: l)
section
variable {X : Cx} {body : List Stmt} {h₀ : ExceptHandler} {hds : List ExceptHandler} {l : List HdA} {pos : Pos} {tb : WX → TS} {Wout : WX}
theorem ps_try_manyA (hs : X.stack = X.env :: X.outer) (hf : X.env.frame = some X.env.locals) (hN : X.N.Nodup) (hex : X.ex = []) (tk : Takes X Wout)
    (hb : ∀ (W : WX) (pn : List (Addr × Obj)) (xe : Value → Shared → Prop), Takes (X.tr pn xe) W → PassesOwn (model X.prog X.w) X.A X.env xe → PSs (X.tr pn xe) body (tb W))
    (hh : HdsA X (h₀ :: hds) l) : PS X (.Try body (h₀ :: hds) [] [] pos) (fun D σ H => tb (wManyA X.K Wout D l) D σ H) := by
  constructor
  intro pins s0 σ0 H0 D I0 start
  have okX := I0.ok
  have frames : X.A.frames = some (X.env :: X.outer) := by
    rw [okX.frames, hs]
  apply wpAny_Try_except
  let look : Value → Shared → Prop := fun e t1 => wpAny (model X.prog X.w) X.A (noteFrame e X.env) (fun _ t2 => wpAny (model X.prog X.w) X.A (setFlight e none)
    (fun _ t3 => wpAny (model X.prog X.w) X.A (handleBy e X.env (h₀ :: hds)) (SP X pins D) X.xe t3) X.xe t2) X.xe t1
  have caught : Takes (X.tr (X.pn ++ pins) look) (wManyA X.K Wout D l) := by
    intro u s' air
    obtain ⟨a, B, sI, pins', σ', H', cls, d, rfl, K', nb, up, sky, na, os, ag, w⟩ := air
    have K0 : Inv X pins σ' H' sI := K'.ofTry okX
    have sky1 : Sky B (X.env :: X.outer) a (Zc cls d) X.env.locals s'.heap := hs ▸ sky
    show wpAny (model X.prog X.w) X.A (noteFrame (.ref a) X.env) _ _ _
    apply Sky.land Zc.steady frames hf sky1
    intro h3 fl3 up3
    have J3 : Inv X pins σ' H' { s' with heap := h3 } := K0.landed nb fl3.1 (up.trans up3) os ag
    obtain ⟨oe3, vs3, at3, z3, data3⟩ := fl3.there
    have offFrames : a ∉ frs (X.env :: X.outer) := fun hm => by
      obtain ⟨_, o', there', hnf⟩ := fl3.2.2.1.mem hm
      rw [at3] at there'
      cases there'
      exact hnf _ data3
    have nL : a ≠ X.env.locals := fun e => offFrames (List.mem_filterMap.mpr ⟨X.env, List.mem_cons_self, by rw [hf, e]⟩)
    have nF : a ∉ X.fs := fun hm => by
      obtain ⟨e, he, q⟩ := List.mem_filterMap.mp hm
      exact offFrames (List.mem_filterMap.mpr ⟨e, List.mem_cons_of_mem _ he, q⟩)
    -- a is new: it stood neither at the try's entry nor at the def's
    have newB : B.get? a = none := fl3.2.1
    have newI : sI.heap.get? a = none := by
      cases q : sI.heap.get? a with
      | none => rfl
      | some o =>
        have := nb a o q (by rw [hs]; exact offFrames)
        rw [newB] at this
        cases this
    have new0 : X.s_0.heap.get? a = none := by
      cases q : X.s_0.heap.get? a with
      | none => rfl
      | some o =>
        obtain ⟨o', q'⟩ := K0.base.there a o q (by rw [hex]; exact List.not_mem_nil)
        rw [newI] at q'
        cases q'
    have apart : ∀ p ∈ X.pn ++ pins, p.1 ≠ a := fun p hp e => by
      have := (K0.pin p hp).1
      rw [e, newI] at this
      cases this
    have S3 := J3.suite at3 data3 na nL nF
    have go : ∀ {hds' : List ExceptHandler} {l' : List HdA}, HdsA X hds' l' → wManyA X.K Wout D l' cls d σ' H' →
        wpAny (model X.prog X.w) X.A (handleBy (.ref a) X.env hds') (SP X pins D) X.xe { s' with heap := h3 } := by
      intro hds' l' hk
      induction hk with
      | nil =>
        intro no
        apply wpAny_handleBy_nil
        obtain ⟨_, _, _, oe, vs, T, oT, ts', he, hz, hd, h1, hr⟩ := id fl3
        unfold PySem.passOn
        refine wpAny_bind (wpAny_field he hd h1 ?_)
        rw [if_neg (show ¬ ((Value.ref T == Value.none) = true) from by simp)]
        have on : wpAny (model X.prog X.w) X.A (setFlight (.ref a) X.env.frame) (fun _ s4 => wpAny (model X.prog X.w) X.A (throw (.ref a) : Sem Flow) (SP X pins D) X.xe s4) X.xe { s' with heap := h3 } := by
          rw [hf]
          apply HandSPX.setFlight_upZ fl3
          intro h4 held4 up4
          apply wpAny_throw
          apply tk
          exact ⟨a, B, sI, pins, σ', H', cls, d, rfl, K0, nb, (up.trans up3).trans up4, .inr (.inr (by rw [hs]; exact held4)), na, os, ag, no⟩
        first
          | exact wpAny_bind (wpAny_pure (wpAny_bind on))
          | exact wpAny_bind on

      | @cons x c ts b₀ suite np pos' hds2 l2 hc hsu r ih =>
        intro w
        obtain ⟨b, exm, yes, no⟩ := w
        refine wpAny_handleBy_cons (codeAny_handlers_test ?_) (by intro q; cases q)
        have tyA : PySem.W.Looks (model X.prog X.w) h3 (typeOf (.ref a)) cls := fun A Q E t k q => wpAny_typeOf_ref (k _ _ at3) (by rw [z3.1]; exact q)
        have matched := PySem.W.exm_one (M := model X.prog X.w) (J3.kIn) tyA exm
        have named : ∀ {Q : Value → Shared → Prop} {E : Value → Shared → Prop}, Q c { s' with heap := h3 } → wpAny (model X.prog X.w) (X.A.mark (some (.ref a))) (eval (.Name x np) X.env) Q E { s' with heap := h3 } := by
          intro Q E q
          obtain ⟨hg, hdbg, hm⟩ := hc
          rcases hm with hm | ⟨hm, hv, hnn⟩
          · exact ld_glob (X := X.suite a ((a, oe3) :: (X.pn ++ pins))) S3 hg hm q hdbg
          · exact ld_blt (X := X.suite a ((a, oe3) :: (X.pn ++ pins))) S3 hg hm hv q hnn hdbg
        apply named
        apply matched.here
        cases b with
        | true =>
          refine codeAny_handlers_suite ?_
          refine HandSPX.lands_againZ fl3 fun h4 fl4 up4 => ?_
          have J4 : Inv X pins σ' H' { s' with heap := h4 } := K0.landed nb fl4.1 ((up.trans up3).trans up4) os ag
          obtain ⟨oe4, vs4, he4, hz4, hd4⟩ := fl4.there
          have S4 := J4.suite he4 hd4 na nL nF
          refine wpAny_mono ((hsu a oe4 cls d (X.pn ++ pins) hz4 ⟨_, hd4⟩).run [] _ _ H' _ S4 (yes rfl a na)) (fun f s6 hsp => ?_) (fun _ _ z => False.elim z)
          cases f with
          | next =>
            obtain ⟨σ6, H6, S6, q6⟩ := hsp
            exact ⟨_, _, S6.unsuite okX, q6⟩
          | brk =>
            obtain ⟨σ6, H6, S6, q6⟩ := hsp
            exact ⟨_, _, S6.unsuite okX, q6⟩
          | cont =>
            obtain ⟨σ6, H6, S6, q6⟩ := hsp
            exact ⟨_, _, S6.unsuite okX, q6⟩
          | ret u =>
            obtain ⟨v6, σ6, H6, S6, r6, q6⟩ := hsp
            exact ⟨_, _, _, S6.unsuite okX, r6, q6⟩
        | false =>
          show wpAny _ X.A (handleBy (.ref a) X.env hds2) _ _ _
          exact ih (no rfl)
      | @consA x n c i ts b₀ suite np pos' hds2 l2 hi hln hc hsu r ih =>
        intro w
        obtain ⟨b, exm, yes, no⟩ := w
        refine wpAny_handleBy_cons (codeAny_handlers_test ?_) (by intro q; cases q)
        have tyA : PySem.W.Looks (model X.prog X.w) h3 (typeOf (.ref a)) cls := fun A Q E t k q => wpAny_typeOf_ref (k _ _ at3) (by rw [z3.1]; exact q)
        have matched := PySem.W.exm_one (M := model X.prog X.w) (J3.kIn) tyA exm
        have named : ∀ {Q : Value → Shared → Prop} {E : Value → Shared → Prop}, Q c { s' with heap := h3 } → wpAny (model X.prog X.w) (X.A.mark (some (.ref a))) (eval (.Name x np) X.env) Q E { s' with heap := h3 } := by
          intro Q E q
          obtain ⟨hg, hdbg, hm⟩ := hc
          rcases hm with hm | ⟨hm, hv, hnn⟩
          · exact ld_glob (X := X.suite a ((a, oe3) :: (X.pn ++ pins))) S3 hg hm q hdbg
          · exact ld_blt (X := X.suite a ((a, oe3) :: (X.pn ++ pins))) S3 hg hm hv q hnn hdbg
        apply named
        apply matched.here
        cases b with
        | true =>
          apply codeAny_handlers_suite_as
          apply HandSPX.lands_againZ fl3
          intro h4 fl4 up4
          have J4 : Inv X pins σ' H' { s' with heap := h4 } := K0.landed nb fl4.1 ((up.trans up3).trans up4) os ag
          obtain ⟨oe4, vs4, at4, z4, data4⟩ := fl4.there
          have S4 := J4.suite at4 data4 na nL nF
          refine store_ok (X := X.suite a ((a, oe4) :: (X.pn ++ pins))) (v := .ref a) S4 hN hi (.inl hln) rfl (fun s5 S5 => ?_) (.inr hln)
          refine wpAny_mono ((hsu a oe4 cls d (X.pn ++ pins) z4 ⟨_, data4⟩).run [] s5 _ H' _ S5 (yes rfl a na)) (fun f s6 hsp => ?_) (fun _ _ z => z.elim)
          -- out of the suite, the exception still pinned
          have out : ∀ {σ6 : L2.St} {H6 : Hp} {Q : Shared → Prop}, Inv (X.suite a ((a, oe4) :: (X.pn ++ pins))) [] σ6 H6 s6 → (∀ s7, Inv X pins (σ6.set i none) H6 s7 → H6 a = none → s7.heap.get? a = some oe4 → Q s7) →
              wpAny (model X.prog X.w) X.A (do bindName X.env n .none; unbindBehindTheSuite X.env n pos') (fun _ s7 => Q s7) X.xe s6 := fun {σ6 H6 Q} S6 hq => by
            have P6 : Inv X ((a, oe4) :: pins) σ6 H6 s6 := { S6.unsuite okX with
              pin := fun p hp => S6.pin p (by
                rcases List.mem_append.mp hp with hp | hp
                · exact List.mem_append_left _ (List.mem_cons_of_mem _ (List.mem_append_left _ hp))
                · rcases List.mem_cons.mp hp with e | hp
                  · rw [e]; exact List.mem_append_left _ List.mem_cons_self
                  · exact List.mem_append_left _ (List.mem_cons_of_mem _ (List.mem_append_right _ hp))) }
            refine gone_ok P6 hN hi hln fun s7 P7 => ?_
            have pinned := P7.pin (a, oe4) (List.mem_append_right _ List.mem_cons_self)
            refine hq s7 { P7 with pin := fun p hp => P7.pin p ?_ } pinned.2.1 pinned.1
            rcases List.mem_append.mp hp with hp | hp
            · exact List.mem_append_left _ hp
            · exact List.mem_append_right _ (List.mem_cons_of_mem _ hp)
          match f, hsp with
          | .next, ⟨σ6, H6, S6, q6⟩ => exact out S6 fun s7 J7 n6 a6 => ⟨_, _, track J7 n6 a6 z4 data4 new0 nL apart, q6 n6⟩
          | .brk, ⟨σ6, H6, S6, q6⟩ => exact out S6 fun s7 J7 _ _ => ⟨_, _, J7, q6⟩
          | .cont, ⟨σ6, H6, S6, q6⟩ => exact out S6 fun s7 J7 _ _ => ⟨_, _, J7, q6⟩
          | .ret u, ⟨v6, σ6, H6, S6, r6, q6⟩ => exact out S6 fun s7 J7 _ _ => ⟨_, _, _, J7, r6, q6⟩
        | false =>
          show wpAny _ X.A (handleBy (.ref a) X.env hds2) _ _ _
          exact ih (no rfl)
    exact go hh w
  refine wpAny_mono ((hb (wManyA X.K Wout D l) (X.pn ++ pins) look caught PassesOwn.looking).run [] s0 σ0 H0 D (I0.toTry _) start) (fun f s1 hsp => ?_) (fun e s1 he => he)
  match f, hsp with
  | .next, ⟨σ1, H1, J1, q⟩ => exact wpAny_execs_nil ⟨σ1, H1, J1.ofTry okX, q⟩
  | .brk, ⟨σ1, H1, J1, q⟩ => exact ⟨σ1, H1, J1.ofTry okX, q⟩
  | .cont, ⟨σ1, H1, J1, q⟩ => exact ⟨σ1, H1, J1.ofTry okX, q⟩
  | .ret u, ⟨v, σ1, H1, J1, r, q⟩ => exact ⟨v, σ1, H1, J1.ofTry okX, r, q⟩
end
theorem L_many {K : PySem.W.Frag} {H : Hp} {c : Value} {ts : Addr → Value → Option Addr → TS} {r : List HdA} {Wout : WX} {D : Ends} {σ : L2.St} {cls : Value} {d : Option Addr} (h : PySem.W.exmOne K cls c = some true)
    (q : ∀ a, H a = none → ts a cls d D σ H) : wManyA K Wout D ((c, none, ts) :: r) cls d σ H := ⟨true, h, fun _ => q, fun z => nomatch z⟩
theorem L_manyA {K : PySem.W.Frag} {H : Hp} {c : Value} {i : Nat} {ts : Addr → Value → Option Addr → TS} {r : List HdA} {Wout : WX} {D : Ends} {σ : L2.St} {cls : Value} {d : Option Addr} (h : PySem.W.exmOne K cls c = some true)
    (q : ∀ a, H a = none → ts a cls d ⟨fun σ' H' => H' a = none → D.nx (σ'.set i none) (upd H' a (ExI cls d a)), D.rt, fun σ' H' => D.bk (σ'.set i none) H', fun σ' H' => D.ct (σ'.set i none) H'⟩ (σ.set i (some (.ref a))) H) : wManyA K Wout D ((c, some i, ts) :: r) cls d σ H := ⟨true, h, fun _ => q, fun z => nomatch z⟩
theorem L_manyN {K : PySem.W.Frag} {H : Hp} {c : Value} {ts : Addr → Value → Option Addr → TS} {r : List HdA} {Wout : WX} {D : Ends} {σ : L2.St} {cls : Value} {d : Option Addr} (h : PySem.W.exmOne K cls c = some false)
    (q : wManyA K Wout D r cls d σ H) : wManyA K Wout D ((c, none, ts) :: r) cls d σ H := ⟨false, h, (fun z => nomatch z), fun _ => q⟩
/-! ### a != b of two lists of the same objects; xs[i] op= e; any of ints -/
def rNeRefs (K : PySem.W.Frag) : R2 := fun x y H Q => ∃ (a b : Addr) (os : List Addr), x = .ref a ∧ y = .ref b ∧ SqL K H a (os.map V.ref) ∧ SqL K H b (os.map V.ref) ∧ Q (.bl false) H
theorem vals_refs : ∀ {os : List Addr} {us : List Value}, Vals (os.map V.ref) us → us = os.map Value.ref
  | [], _, r => by cases r; rfl
  | o :: os, _, r => by
    cases r with
    | cons h t =>
      rw [show _ = Value.ref o from h, vals_refs t]
      rfl
theorem op_neRefs {X : Cx} (hu : X.A.units < cLine) : OpR X (compareOp .NotEq) (rNeRefs X.K) := by
  intro pins s σ H x y v u Q I rx ry h
  obtain ⟨a, b, os, rfl, rfl, ha, hb, q⟩ := h
  cases (show v = Value.ref a from rx)
  cases (show u = Value.ref b from ry)
  obtain ⟨us, r1, p1, _⟩ := I.list ha
  obtain ⟨ws, r2, p2, _⟩ := I.list hb
  obtain rfl := vals_refs r1
  obtain rfl := vals_refs r2
  refine SeqAt.RcNeAt.lists (e := fun _ => true) p1.isList p2.isList rfl hu (fun j h1 h2 => SeqAt.EqAt.same _) X.prog X.w _ _ ?_
  exact ⟨.bl false, H, I, by
    show Value.bool _ = Value.bool _
    rw [show ((List.range _).all fun _ => true) = true from List.all_eq_true.mpr fun _ _ => rfl]
    rfl, q⟩
def rGetL (K : PySem.W.Frag) : V → V → Hp → VK → Prop := fun o i H Q => ∃ (p : Addr) (xs : List V) (k : Int) (v : V), o = .ref p ∧ i = .int k ∧ SqL K H p xs ∧ 0 ≤ k ∧ xs[k.toNat]? = some v ∧ Q v H
theorem pget_list {X : Cx} : PGet X (rGetL X.K) := by
  intro pins s σ H o i ov iv Q I ro ri h
  obtain ⟨p, xs, k, v, rfl, rfl, hL, h0, hv, q⟩ := h
  cases (show ov = Value.ref p from ro)
  obtain ⟨t, rfl⟩ := ri
  obtain ⟨its, r, pl, hz⟩ := I.list hL
  obtain ⟨u, eu, ru⟩ := r.get hv
  have hl := r.length
  have hn := line63
  have lt := (List.getElem?_eq_some_iff.mp hv).1
  exact wpAny_getItem_list pl.isList h0 (by omega) (by simpa using eu) ⟨v, H, I, ru, q⟩
theorem L_augS {σ : L2.St} {H : Hp} {to ti te : TE} {tget : V → V → Hp → VK → Prop} {tip : TIp} {tset : TSet} {N B C : L2.St → Hp → Prop} {R : VK} (h : to σ H fun o H1 => ti σ H1 fun i H2 => tget o i H2 fun x H3 => te σ H3 fun y H4 => tip x y H4 fun z H5 => tset o i z H5 fun H6 => N σ H6) : tAugS to ti te tget tip tset ⟨N, R, B, C⟩ σ H := h
theorem L_getL {K : PySem.W.Frag} {H : Hp} {Q : VK} {p : Addr} {xs : List V} {k : Int} {v : V} (h : SqL K H p xs) (h0 : 0 ≤ k) (hv : xs[k.toNat]? = some v) (q : Q v H) : rGetL K (.ref p) (.int k) H Q := ⟨p, xs, k, v, rfl, rfl, h, h0, hv, q⟩
theorem truth_of_ints {prog : Program} {w : World} {A : Around} {ns : List Int} {its : List Value} (e : IntsAre its ns) :
    TruthOf prog w A (fun i v => its.toArray[i]? = some v) (fun i => ns.getD i 0 != 0) := fun i v s Q E hv hq => by
  have hv' : its[i]? = some v := by simpa using hv
  obtain ⟨tk, e2⟩ := PyProof.Rows.IntsAre.int_at e i v hv'
  rw [e2]
  exact truthy_int hq
theorem any_ints : ∀ ns : List Int, (List.range ns.length).any (fun i => ns.getD i 0 != 0) = ns.any (· != 0)
  | [] => rfl
  | n :: ns => by
    have ih := any_ints ns
    rw [List.length_cons, List.range_succ_eq_map, List.any_cons, List.any_map, List.any_cons, ← ih]
    rfl
def rAnyI (K : PySem.W.Frag) : List V → Hp → VK → Prop := fun vs H Q => ∃ (a : Addr) (ns : List Int), vs = [.ref a] ∧ SqL K H a (ns.map V.int) ∧ Q (.bl (ns.any (· != 0))) H
theorem cr_anyI {X : Cx} (calm : X.calm = true) : CallR X (.builtin "any") (rAnyI X.K) := by
  intro pins s σ H vs us Q I r h
  obtain ⟨a, ns, rfl, hL, q⟩ := h
  obtain ⟨its, rv, pl, _⟩ := I.list hL
  have few := rv.length
  rw [Vals.ref1 r]
  apply call_any_walk
  apply iter_any pl.isList
  intro s2 e2 st apart
  subst e2
  refine ⟨_, _, _, _, _, _, _, rfl, Walks.list (A := X.A.in1) (I.ok.hd calm) _ a apart its.toArray, st, truth_of_ints (intsAre_of rv), fun g tk k => ?_⟩
  refine ⟨.bl _, H, I.kept fun b o eo => k b o ?_ (Heap.get?_push_of_some _ eo), ?_, q⟩
  · intro hm
    rw [List.mem_singleton] at hm
    exact absurd (hm ▸ Heap.lt_size eo) (Nat.lt_irrefl _)
  · change Value.bool _ = Value.bool _
    rw [← any_ints, List.size_toArray, ← few, List.length_map]
/-! ### for k in d -/
theorem L_lock {t : TS} {N B C : L2.St → Hp → Prop} {R : VK} {σ : L2.St} {H : Hp} (h : ∃ d u, H d = some u ∧ Mut (some u) ∧ ∀ od, t ⟨fun σ' H' => H' d = some (.frz od u) ∧ N σ' (upd H' d u), fun v H' => H' d = some (.frz od u) ∧ R v (upd H' d u), fun σ' H' => H' d = some (.frz od u) ∧ B σ' (upd H' d u), fun σ' H' => H' d = some (.frz od u) ∧ C σ' (upd H' d u)⟩ σ (upd H d (.frz od u))) : tLock t ⟨N, R, B, C⟩ σ H := h
theorem L_iKeys {td : TE} {σ : L2.St} {H : Hp} {R : It → Hp → Prop} (h : td σ H fun x H1 => ∃ d o, x = .ref d ∧ ((∃ kvs, H1 d = some (.frz o (.dK kvs)) ∧ R (Itk d o kvs) H1) ∨ ∃ kvs, H1 d = some (.frz o (.dT kvs)) ∧ R (Itkt d o kvs) H1)) : iKeys td σ H R := h
theorem L_rk {H : Hp} {d : Addr} {o : Obj} {kvs : List (Key × V)} {R : Addr → Obj → List (Key × V) → Prop} {R2 : Addr → Obj → Prop} (h : H d = some (.frz o (.dK kvs))) (q : R d o kvs) : ∃ d' o', V.ref d = .ref d' ∧ ((∃ kvs, H d' = some (.frz o' (.dK kvs)) ∧ R d' o' kvs) ∨ R2 d' o') := ⟨d, o, rfl, .inl ⟨kvs, h, q⟩⟩
theorem same_lock {H H' : Hp} {d : Addr} {u : HO} {od : Obj} (h : H d = some u) (s : Same (upd H d (.frz od u)) H') : Same H (upd H' d u) := fun b o e => by
  by_cases n : b = d
  · rw [n, h] at e
    cases e
    rw [n]
    exact upd_same
  · rw [upd_ne n]
    exact s _ _ (by rw [upd_ne n]; exact e)
end Kt

set_option Elab.async false
set_option linter.all false
set_option maxRecDepth 100000
set_option maxHeartbeats 4000000
/-! Clo: lambdas without parameters that a def returns: made, kept with what their cells hold, called later -/
namespace Kt
open PySem PySem.Spec PyProof.Rows L2 LamX NdefX
/-- a cell that holds v -/
def CellO (c : Addr) (v : V) : HO := .ext fun h => ∃ u, RelV v u ∧ h.IsCell c (some u)
theorem cellO_ok {P : Program} {w : World} {H : Hp} {h : Heap} {c : Addr} {v : V} {u : Value} (r : RelV v u) (hc : h.IsCell c (some u)) : ObjOk P w H h c (CellO c v) := by
  obtain ⟨o, ho, hd⟩ := hc
  exact ⟨⟨u, r, o, ho, hd⟩, ⟨o, ho⟩, fun _ _ ⟨u, r, o, ho, hd⟩ st => ⟨u, r, o, st _ ho, hd⟩⟩
theorem cellO_at {P : Program} {w : World} {H : Hp} {h : Heap} {c : Addr} {v : V} (hok : HOk P w H h) (e : H c = some (CellO c v)) : ∃ u, RelV v u ∧ h.IsCell c (some u) := (hok c _ e).1
/-- a lambda's words, its cells, its code object -/
structure LF where
  qual : Str
  params : Arguments
  body : Expr
  scope : Scope
  cl : List (Str × Addr)
  c : Addr
/-- the object at f is the lambda F -/
def LamO (f : Addr) (F : LF) : HO := .ext fun h => ∃ (pm ctv : Value), h.get? f = some (PySem.W.kla_obj "<lambda>" F.qual F.params F.body F.scope F.cl pm F.c ctv)
section
variable {X : Cx} {pins : List (Addr × Obj)} {σ : L2.St} {H : Hp} {s : Shared}
/-- an object that is there is known from now on -/
theorem known {a : Addr} {φ : Heap → Prop} (I : Inv X pins σ H s) (na : H a = none) (ok : φ s.heap ∧ (∃ o, s.heap.get? a = some o) ∧ ∀ h1 h2 : Heap, φ h1 → (∀ o, h1.get? a = some o → h2.get? a = some o) → φ h2)
    (nb : ∀ o, X.s_0.heap.get? a = some o → X.H_0 a ≠ none) (nL : a ≠ X.env.locals) (nC : ∀ x c, X.env.cells.lookup x = some c → c ≠ a) (np : ∀ p ∈ X.pn ++ pins, p.1 ≠ a) : Inv X pins σ (upd H a (.ext φ)) s where
  ok := I.ok
  os := I.os
  bare := I.bare
  base := {
    keep := I.base.keep
    slot := I.base.slot
    free := fun b o e n hx => by
      rw [upd_ne fun z => nb o (by rw [← z]; exact e) (by rw [← z]; exact n)]
      exact I.base.free b o e n hx
    there := I.base.there
    tups := fun b xs q => by
      have t := I.base.tups b xs q
      rw [upd_ne (ne_of_none t na)]; exact t
    frzs := fun b o u q => by
      have t := I.base.frzs b o u q
      rw [upd_ne (ne_of_none t na)]; exact t
    tbls := fun b ps q => by
      obtain ⟨more, t⟩ := I.base.tbls b ps q
      exact ⟨more, by rw [upd_ne (ne_of_none t na)]; exact t⟩ }
  loc := I.loc
  cell := I.cell
  free := by rw [upd_ne nL.symm]; exact I.free
  freeC := fun x c e => by rw [upd_ne (nC x c e)]; exact I.freeC x c e
  pin := fun p hp => by
    obtain ⟨h1, h2, h3⟩ := I.pin p hp
    exact ⟨h1, by rw [upd_ne (np p hp)]; exact h2, h3⟩
  hok := fun b o e => by
    by_cases hb : b = a
    · cases hb
      rw [upd_same] at e
      cases e
      exact ok
    · rw [upd_ne hb] at e
      exact (I.hok b o e).stay (fun _ _ _ q => q) (fun c q => by rw [upd_ne (ne_of_none q na)]; exact q) fun c xs q => by rw [upd_ne (ne_of_none q na)]; exact q
  len := I.len
/-- a lambda's object, just laid, is known -/
theorem lam_known {F : LF} {pm ctv : Value} {t : Nat} (I : Inv X pins σ H s) : Inv X pins σ (upd H s.heap.objs.size (LamO s.heap.objs.size F)) { s with heap := s.heap.push (PySem.W.kla_obj "<lambda>" F.qual F.params F.body F.scope F.cl pm F.c ctv), toks := t } := by
  have e : (s.heap.push (PySem.W.kla_obj "<lambda>" F.qual F.params F.body F.scope F.cl pm F.c ctv)).get? s.heap.objs.size = some _ := Heap.get?_push_size _ rfl
  exact I.laid (fun b u h => Heap.get?_push_of_some _ h) (Nat.le_refl _) ⟨⟨pm, ctv, e⟩, ⟨_, e⟩, fun _ _ ⟨p, t, z⟩ st => ⟨p, t, st _ z⟩⟩
theorem lam_made {T : List (Addr × Str)} {c P : Addr} {q : Str} {params : Arguments} {body : Expr} {scope : Scope} {pos : Pos} {E : Value → Shared → Prop} {R : Value → Shared → Prop} (I : Inv X pins σ H s) (TB : TabB X.base X.mg c P) (hcode : X.env.code = .ref c)
    (hq : X.env.qual ++ "<lambda>" = q) (hm : (P, q) ∈ T) (hu : ∀ p ∈ T, p.1 = P → p.2 = q) (hT : Tabs T H) (hdef : defaultsOf params X.env = ([], [])) (hfree : ∀ y ∈ scope.names, y.2 = .free → ∃ c, X.env.cells.lookup y.1 = some c)
    (k : ∀ (f c' : Addr) (H1 : Hp) (t : Shared), Inv X pins σ H1 t → ExtN H H1 → Tabs T H1 → H f = none → H1 f = some (LamO f ⟨q, params, body, scope, cloFrom X.env.cells scope.names [], c'⟩) → H1 c' = some (CodeO c' q) → R (.ref f) t) :
    wpAny (model X.prog X.w) X.A (eval (.Lambda params body scope pos) X.env) R E s := by
  subst hq
  obtain ⟨ps, tP, ok, known⟩ := hT _ hm
  refine PySem.W.kla_eval hdef ?_
  have tH : s.heap.get? P = some { cls := .none, data := .fields ps } := I.hok P _ tP
  have bi : s.heap.BuiltinsAt X.mg P := TB.bm.keeps I.bk
  cases found : codeAmong pos ps.toList with
  | some cv =>
    obtain ⟨c', rfl, hc'⟩ := known pos cv found
    refine PySem.W.kla_makeFunctionHit (mg := X.mg) (c := c) (P := P) (ps := ps)
      (closure_ok hfree) I.ok.glob (I.mod.glob.keeps I.bk) hcode (TB.code.keeps I.bk)
      tH ok found bi fun ctv g tk keep big => ?_
    have J : Inv X pins σ H { s with heap := g, toks := tk } := I.kept keep
    have free : H g.objs.size = none := J.hok.fresh (Nat.le_refl _)
    have J2 := lam_known (F := ⟨X.env.qual ++ "<lambda>", params, body, scope, cloFrom X.env.cells scope.names [], c'⟩) (pm := (X.mg "__name__").getD .none) (ctv := ctv) (t := tk) J
    have more : ∀ b o, H b = some o → upd H g.objs.size (LamO g.objs.size ⟨X.env.qual ++ "<lambda>", params, body, scope, cloFrom X.env.cells scope.names [], c'⟩) b = some o := fun b o e => (upd_ne (ne_of_none e free)).trans e
    exact k _ c' _ _ J2 (.of more) (hT.ext more) free upd_same (more _ _ hc')
  | none =>
    refine PySem.W.kla_makeFunction (mg := X.mg) (c := c) (P := P) (ps := ps)
      (closure_ok hfree) I.ok.glob (I.mod.glob.keeps I.bk) hcode (TB.code.keeps I.bk)
      tH ok found TB.gP bi fun c' ctv g tk keep big lt rec_ tab => ?_
    obtain ⟨c2, oc, vs, t, e2, hoc, hd, hv⟩ := rec_
    cases e2
    have free : H c' = none := I.hok.fresh big
    have J := inv_table (t' := tk) (more := #[rawInt pos.line, rawInt pos.col, .ref c']) (h' := g) I tP (fun b o n e => keep b o n e) tab big ⟨oc, vs, t, hoc, hd, hv⟩
    have list : (ps ++ #[rawInt pos.line, rawInt pos.col, .ref c']).toList = ps.toList ++ [rawInt pos.line, rawInt pos.col, .ref c'] := by simp
    generalize hH : upd (upd H P (.tbl (ps ++ #[rawInt pos.line, rawInt pos.col, .ref c']))) c' (CodeO c' (X.env.qual ++ "<lambda>")) = H1 at J
    have atC : H1 c' = some (CodeO c' (X.env.qual ++ "<lambda>")) := by rw [← hH]; exact upd_same
    have atP : H1 P = some (.tbl (ps ++ #[rawInt pos.line, rawInt pos.col, .ref c'])) := by rw [← hH, upd_ne (ne_of_none tP free)]; exact upd_same
    have oth : ∀ b, b ≠ P → b ≠ c' → H1 b = H b := fun b m1 m2 => by rw [← hH, upd_ne m2, upd_ne m1]
    have ex : ExtN H H1 := fun b o e n => by
      rw [oth b (fun z => n ps (Option.some.inj (e.symm.trans (by rw [z]; exact tP)))) (ne_of_none e free)]
      exact e
    have T1 : Tabs T H1 := fun p hp => by
      by_cases hb : p.1 = P
      · rw [hu p hp hb, hb]
        refine ⟨_, atP, by rw [list]; exact PySem.TriplesOk_snoc _ _ _ _ ok, fun p' cv hcv => ?_⟩
        rw [list] at hcv
        rcases among_app _ ok hcv with z | z
        · obtain ⟨c0, r1, r2⟩ := known p' cv z
          exact ⟨c0, r1, ex _ _ r2 codeO_ne⟩
        · exact ⟨c', z, atC⟩
      · obtain ⟨qs, r1, r2, r3⟩ := hT p hp
        refine ⟨qs, by rw [oth p.1 hb (ne_of_none r1 free)]; exact r1, r2, fun p' cv hcv => ?_⟩
        obtain ⟨c0, r4, r5⟩ := r3 p' cv hcv
        exact ⟨c0, r4, ex _ _ r5 codeO_ne⟩
    have freeF : H1 g.objs.size = none := J.hok.fresh (Nat.le_refl _)
    have J2 := lam_known (F := ⟨X.env.qual ++ "<lambda>", params, body, scope, cloFrom X.env.cells scope.names [], c'⟩) (pm := (X.mg "__name__").getD .none) (ctv := ctv) (t := tk) J
    have more : ∀ b o, H1 b = some o → upd H1 g.objs.size (LamO g.objs.size ⟨X.env.qual ++ "<lambda>", params, body, scope, cloFrom X.env.cells scope.names [], c'⟩) b = some o := fun b o e => (upd_ne (ne_of_none e freeF)).trans e
    have freeH : H g.objs.size = none := by
      cases e : H g.objs.size with
      | none => rfl
      | some o =>
        have lt2 := (I.hok _ _ e).lt
        exact absurd lt2 (Nat.not_lt.mpr (Nat.le_trans big (Nat.le_of_lt lt)))
    exact k _ c' _ _ J2 (ex.trans (.of more)) (T1.ext more) freeH upd_same (more _ _ atC)
/-- making a lambda -/
def tLam (T : List (Addr × Str)) (mk : Addr → LF) : TE := fun _ H Q => Tabs T H ∧ ∀ (f c' : Addr) (H1 : Hp), ExtN H H1 → Tabs T H1 → H f = none → H1 f = some (LamO f (mk c')) → H1 c' = some (CodeO c' (mk c').qual) → Q (.ref f) H1
theorem pe_lam {T : List (Addr × Str)} {c P : Addr} {params : Arguments} {body : Expr} {scope : Scope} {pos : Pos} {q : Str} (TB : TabB X.base X.mg c P) (hcode : X.env.code = .ref c) (hq : X.env.qual ++ "<lambda>" = q)
    (hm : (P, q) ∈ T) (hu : ∀ p ∈ T, p.1 = P → p.2 = q) (hdef : defaultsOf params X.env = ([], [])) (hfree : ∀ y ∈ scope.names, y.2 = .free → X.env.scope.names.lookup y.1 = some .cell ∨ X.env.scope.names.lookup y.1 = some .free) :
    PE X (.Lambda params body scope pos) (tLam T fun c' => ⟨q, params, body, scope, cloFrom X.env.cells scope.names [], c'⟩) := by
  constructor
  intro pins s σ H Q I h
  obtain ⟨hT, h⟩ := h
  exact lam_made I TB hcode hq hm hu hT hdef (fun y hy e => (hfree y hy e).elim (fun z => I.ok.has _ (.inl z)) fun z => I.ok.has _ (.inr z)) fun f c' H1 t J ex T1 hf e1 e2 => ⟨.ref f, H1, J, rfl, h f c' H1 ex T1 hf e1 e2⟩
end
/-! ### a def's text, its end told with the slots -/
abbrev TSR := (V → L2.St → Hp → Prop) → L2.St → Hp → Prop
/-- statements that end with a return -/
structure PSR (X : Cx) (sts : List Stmt) (t : TSR) : Prop where
  run : ∀ (pins : List (Addr × Obj)) (s : Shared) (σ : L2.St) (H : Hp) (R : V → L2.St → Hp → Prop), Inv X pins σ H s → t R σ H →
    wpAny (model X.prog X.w) X.A (execs sts X.env) (fun fl s' => match fl with | .ret u => ∃ v σ' H', Inv X pins σ' H' s' ∧ RelV v u ∧ R v σ' H' | _ => False) X.xe s
section
variable {X : Cx}
/-- no way out but on -/
abbrev onlyN (N : L2.St → Hp → Prop) : Ends := { nx := N, rt := fun _ _ => False, bk := fun _ _ => False, ct := fun _ _ => False }
theorem psr_cons {st : Stmt} {rest : List Stmt} {t : TS} {u : TSR} (h1 : PS X st t) (h2 : PSR X rest u) : PSR X (st :: rest) (fun R σ H => t (onlyN fun σ1 H1 => u R σ1 H1) σ H) := by
  constructor
  intro pins s σ H R I h
  refine wpAny_execs_cons (thn (h1.run pins s σ H _ I h) fun fl s1 q => ?_)
  cases fl with
  | next =>
    obtain ⟨σ1, H1, J, q⟩ := q
    exact h2.run pins s1 σ1 H1 R J q
  | ret v => obtain ⟨_, _, _, _, _, q⟩ := q; exact q.elim
  | brk => obtain ⟨_, _, _, q⟩ := q; exact q.elim
  | cont => obtain ⟨_, _, _, q⟩ := q; exact q.elim
theorem psr_ret {e : Expr} {te : TE} {pos : Pos} (he : PE X e te) : PSR X [.Return (some e) pos] (fun R σ H => te σ H fun x H1 => R x σ H1) := by
  constructor
  intro pins s σ H R I h
  refine wpAny_execs_cons (wpAny_Return_some (thn (he.run pins s σ H _ I h) fun v s1 ⟨x, H1, J, r, q⟩ => ?_))
  exact ⟨x, σ, H1, J, r, q⟩
/-- if c: .. return; the rest -/
theorem psr_if {c : Expr} {a rest : List Stmt} {pos : Pos} {tc : TT} {t u : TSR} (hc : PT X c tc) (ha : PSR X a t) (hb : PSR X rest u) : PSR X (.If c a [] pos :: rest) (fun R σ H => tc σ H fun b H1 => if b = true then t R σ H1 else u R σ H1) := by
  constructor
  intro pins s σ H R I h
  refine wpAny_execs_cons (wpAny_If (thn (hc.run pins s σ H _ I h) fun b s1 ⟨H1, J, q⟩ => ?_))
  cases b with
  | true =>
    refine thn (ha.run pins s1 σ H1 R J q) fun fl s2 q => ?_
    cases fl with
    | ret v => exact q
    | next => exact q.elim
    | brk => exact q.elim
    | cont => exact q.elim
  | false => exact wpAny_execs_nil (hb.run pins s1 σ H1 R J q)
end
/-! ### behind a def's end its cells are known -/
section
variable {X : Cx} {pins : List (Addr × Obj)} {σ : L2.St} {H : Hp} {s : Shared}
theorem keep_cells (I : Inv X pins σ H s) (cab : ∀ x c, X.env.cells.lookup x = some c → X.s_0.heap.objs.size ≤ c) : ∀ (as : List (Str × Nat)) (ws : List V), (∀ a ∈ as, X.env.scope.names.lookup a.1 = some .cell ∧ X.N[a.2]? = some a.1) → (as.map (·.1)).Nodup → as.map (fun a => slotAt σ a.2) = ws.map some →
    ∃ H', Same H H' ∧ (∀ b, (∀ a ∈ as, X.env.cells.lookup a.1 ≠ some b) → H' b = H b) ∧ (∀ (i : Nat) a w, as[i]? = some a → ws[i]? = some w → ∃ c, X.env.cells.lookup a.1 = some c ∧ H c = none ∧ H' c = some (CellO c w)) ∧ Un X.fs X.ex X.H_0 H' X.s_0.heap s.heap ∧ HOk X.prog X.w H' s.heap
  | [], ws, _, _, _ => ⟨H, fun _ _ e => e, fun _ _ => rfl, fun i a w h => by simp at h, I.base, I.hok⟩
  | a :: as, ws, hk, nd, hw => by
    cases ws with
    | nil => cases hw
    | cons w ws =>
    rw [List.map_cons, List.map_cons, List.cons.injEq] at hw
    rw [List.map_cons, List.nodup_cons] at nd
    obtain ⟨H1, sm, off, at_, un, hok⟩ := keep_cells I cab as ws (fun b hb => hk b (List.mem_cons_of_mem _ hb)) nd.2 hw.2
    obtain ⟨kc, kn⟩ := hk a (List.mem_cons_self ..)
    obtain ⟨c, hc⟩ := I.ok.has a.1 (.inl kc)
    have nH : H c = none := I.freeC _ _ hc
    have n1 : H1 c = none := by
      rw [off c fun b hb z => nd.1 (List.mem_map.mpr ⟨b, hb, I.ok.inj _ _ _ z hc⟩)]
      exact nH
    obtain ⟨m, hns, hl⟩ := I.loc
    obtain ⟨u, ru, look⟩ := hl a.2 a.1 w kn (slotAt_some hw.1) (.inr (.inl kc))
    have cell : s.heap.IsCell c (some u) := by
      rcases look with ⟨z, _⟩ | ⟨_, c2, e2, z⟩
      · have z' : X.env.scope.names.lookup a.1 = some .local := z
        rw [kc] at z'
        cases z'
      · rw [hc] at e2
        cases e2
        exact z
    refine ⟨upd H1 c (CellO c w), fun b o e => ?_, fun b hb => ?_, fun i b v hi hv => ?_, ?_, fun b o e => ?_⟩
    · rw [upd_ne (ne_of_none e nH)]
      exact sm b o e
    · rw [upd_ne fun z => hb a (List.mem_cons_self ..) (by rw [z]; exact hc)]
      exact off b fun d hd => hb d (List.mem_cons_of_mem _ hd)
    · cases i with
      | zero =>
        cases hi
        cases hv
        exact ⟨c, hc, nH, upd_same⟩
      | succ i =>
        have hi' : as[i]? = some b := hi
        obtain ⟨d, h1, h2, h3⟩ := at_ i b v hi' hv
        refine ⟨d, h1, h2, ?_⟩
        rw [upd_ne fun z => nd.1 (List.mem_map.mpr ⟨b, List.mem_of_getElem? hi', I.ok.inj _ _ _ h1 (by rw [z]; exact hc)⟩)]
        exact h3
    · exact {
        keep := un.keep
        slot := un.slot
        free := fun b o e n hx => by
          rw [upd_ne fun z => Nat.lt_irrefl _ (Nat.lt_of_lt_of_le (Heap.lt_size e) (by rw [z]; exact cab _ _ hc))]
          exact un.free b o e n hx
        there := un.there
        tups := fun b xs q => by
          have t := un.tups b xs q
          rw [upd_ne (ne_of_none t n1)]; exact t
        frzs := fun b o v q => by
          have t := un.frzs b o v q
          rw [upd_ne (ne_of_none t n1)]; exact t
        tbls := fun b ps q => by
          obtain ⟨more, t⟩ := un.tbls b ps q
          exact ⟨more, by rw [upd_ne (ne_of_none t n1)]; exact t⟩ }
    · by_cases hb : b = c
      · cases hb
        rw [upd_same] at e
        cases e
        exact cellO_ok ru cell
      · rw [upd_ne hb] at e
        exact (hok b o e).stay (fun _ _ _ q => q) (fun d q => by rw [upd_ne (ne_of_none q n1)]; exact q) fun d xs q => by rw [upd_ne (ne_of_none q n1)]; exact q
end
/-- what is owed at a return of a def whose cells as live on (as1 of them hold something) -/
def Keeps (cells : List (Str × Addr)) (as : List (Str × Nat)) (Q : VK) : V → L2.St → Hp → Prop := fun v σ H => ∃ (as1 : List (Str × Nat)) (ws : List V), (∀ a ∈ as1, a ∈ as) ∧ (as1.map (·.1)).Nodup ∧ as1.map (fun a => slotAt σ a.2) = ws.map some ∧
  ∀ H', (∀ x y c, cells.lookup x = some c → cells.lookup y = some c → x = y) → Same H H' → (∀ (i : Nat) a w, as1[i]? = some a → ws[i]? = some w → ∃ c, cells.lookup a.1 = some c ∧ H c = none ∧ H' c = some (CellO c w)) → Q v H'
section
variable {P : Program} {w : World} {K : PySem.W.Frag} {mg : Str → Option Value} {base : Heap}
/-- a def by its text, its cells kept -/
theorem DefAt.calK {x : Str} {st : Stmt} {N ps : List Str} {k : Nat} {sp : Sp} {as : List (Str × Nat)} (d : DefAt K mg x st ps) (S : FnScope N ps (defScope st)) (len : ∀ vs H Q E, sp vs H Q E → vs.length = ps.length) (hk : ∀ a ∈ as, (defScope st).names.lookup a.1 = some .cell ∧ N[a.2]? = some a.1)
    (hbody : ∀ (f : Addr) (cdv : Value) (A : Around) (outer : List Env) (s : Shared) (H : Hp) (vs : List V) (Q : VK) (E : XK), Room k (A.deeper (envOfC x (defScope st) s.heap.objs.size f cdv)) → PySem.W.codeIn K cdv x = true → sp vs H Q E →
      ∃ t, PSR (cxOf CX0 P w K mg base N x (defScope st) f cdv A outer s H E) (defBody st) t ∧ t (Keeps (cellsFrom (s.heap.objs.size + 1) (defScope st).names []) as Q) (start N vs) H) : Cal P w K mg base (k + 1) x sp := by
  obtain ⟨f, fd, F, hm, b⟩ := d.ex
  refine ⟨f, fd, ps, ?_, hm, F.kp, b⟩
  obtain ⟨oc, od, kV, doc, pm, an, cdv, ct, osl, rfl, lk, hcd⟩ := F.ex
  refine ⟨len, fun A outer s H args us vs Q E hr e0 hb r hsp => ?_⟩
  have inK : K.In s.heap := e0.mod.kin.keeps fun b o e => (e0.bs b o e).1
  have free : s.heap.NoLimit := e0.mod.nolimit.keeps fun b o e => (e0.bs b o e).1
  have kinds : ∀ y ∈ ps.zip us, (defScope st).names.lookup y.1 = some .local ∨ ((defScope st).names.lookup y.1 = some .cell ∧ ((cellsFrom (s.heap.objs.size + 1) (defScope st).names []).lookup y.1).isSome = true) := fun y hy => by
    obtain ⟨n, v⟩ := y
    exact (S.par n (List.of_mem_zip hy).1).imp id fun z => ⟨z, PySem.W.cellsFrom_some _ _ _ (.inl z)⟩
  refine codeAny_call_function hr.depth (inK _ _ lk) rfl S.co S.gen rfl (PySem.W.codeRec_of inK hcd) (hb _ _ _ _ ?_)
  refine wpAny_newFunctionEnv_cells S.kind kinds fun env he s1 y => ?_
  subst he
  refine ⟨free.keeps y.toInCall.keep, codeAny_func ?_⟩
  obtain ⟨t, ht, hq⟩ := hbody f cdv A outer s H vs Q E (hr.deeper _) hcd hsp
  have I : Inv (cxOf CX0 P w K mg base N x (defScope st) f cdv A outer s H E) [] (start N vs) H s1 := inv_start S hr.hd e0 (len _ _ _ _ hsp) r y
  refine wpAny_mono (ht.run [] s1 (start N vs) H _ I hq) (fun fl s2 hs => ?_) fun e s2 hs => hs
  cases fl with
  | ret u =>
    obtain ⟨v, σ', H', J, rv, as1, ws, sub, nd, hw, q⟩ := hs
    obtain ⟨H2, sm, _, at_, un, hok⟩ := keep_cells J (fun z c hz => J.ok.cab z c rfl hz) as1 ws (fun a ha => hk a (sub a ha)) nd hw
    exact ⟨v, H2, J.os, J.bare, un, hok, rv, q H2 (fun x y c e1 e2 => J.ok.inj x y c e1 e2) sm at_⟩
  | next => exact hs.elim
  | brk => exact hs.elim
  | cont => exact hs.elim
end
/-! ### a kept lambda called -/
def isC (cl : List (Str × Addr)) (fr : List Str) (b : Addr) : Bool := fr.any fun y => decide (cl.lookup y = some b)
/-- all but the cells -/
def dropC (cl : List (Str × Addr)) (fr : List Str) (H : Hp) : Hp := fun b => if isC cl fr b = true then none else H b
/-- the cells as they were -/
def backC (cl : List (Str × Addr)) (fr : List Str) (H H1 : Hp) : Hp := fun b => if isC cl fr b = true then H b else H1 b
/-- a lambda's cells are known: fr, the captured names; ws, what their cells hold -/
structure HeldC (cl : List (Str × Addr)) (fr : List Str) (ws : List V) (H : Hp) : Prop where
  len : ws.length = fr.length
  has : ∀ (i : Nat) y, fr[i]? = some y → ∃ c w, cl.lookup y = some c ∧ ws[i]? = some w ∧ H c = some (CellO c w)
  all : ∀ y c, cl.lookup y = some c → y ∈ fr
  inj : ∀ x y c, cl.lookup x = some c → cl.lookup y = some c → x = y
theorem isC_iff {cl : List (Str × Addr)} {fr : List Str} {b : Addr} : isC cl fr b = true ↔ ∃ y ∈ fr, cl.lookup y = some b := by
  unfold isC
  rw [List.any_eq_true]
  exact ⟨fun ⟨y, h1, h2⟩ => ⟨y, h1, of_decide_eq_true h2⟩, fun ⟨y, h1, h2⟩ => ⟨y, h1, decide_eq_true h2⟩⟩
theorem HeldC.at {cl : List (Str × Addr)} {fr : List Str} {ws : List V} {H : Hp} (C : HeldC cl fr ws H) {b : Addr} (h : isC cl fr b = true) : ∃ w, H b = some (CellO b w) := by
  obtain ⟨y, hy, e⟩ := isC_iff.mp h
  obtain ⟨i, hi⟩ := List.mem_iff_getElem?.mp hy
  obtain ⟨c, w, h1, _, h3⟩ := C.has i y hi
  rw [e] at h1
  cases h1
  exact ⟨w, h3⟩
theorem HeldC.off {cl : List (Str × Addr)} {fr : List Str} {ws : List V} {H : Hp} (C : HeldC cl fr ws H) {b : Addr} {o : HO} (e : H b = some o) (n : ∀ φ, o ≠ .ext φ) : isC cl fr b = false := by
  cases h : isC cl fr b with
  | false => rfl
  | true =>
    obtain ⟨w, z⟩ := C.at h
    rw [e] at z
    exact absurd (Option.some.inj z) (n _)
theorem HeldC.offN {cl : List (Str × Addr)} {fr : List Str} {ws : List V} {H : Hp} (C : HeldC cl fr ws H) {b : Addr} (e : H b = none) : isC cl fr b = false := by
  cases h : isC cl fr b with
  | false => rfl
  | true =>
    obtain ⟨w, z⟩ := C.at h
    rw [e] at z
    cases z
/-- fr are just the free ones of the names -/
def frIs (fr : List Str) (names : List (Str × NameKind)) : Bool := (fr.all fun y => names.any fun z => decide (z.1 = y) && decide (z.2 = .free)) && names.all fun z => !decide (z.2 = .free) || decide (z.1 ∈ fr)
theorem frIs_ok {fr : List Str} {names : List (Str × NameKind)} (h : frIs fr names = true) : ∀ y, y ∈ fr ↔ (y, NameKind.free) ∈ names := fun y => by
  unfold frIs at h
  simp only [Bool.and_eq_true, List.all_eq_true, List.any_eq_true, decide_eq_true_eq, Bool.or_eq_true, Bool.not_eq_true', decide_eq_false_iff_not] at h
  constructor
  · intro hy
    obtain ⟨z, hz, e1, e2⟩ := h.1 y hy
    obtain ⟨a, b⟩ := z
    cases e1
    cases e2
    exact hz
  · intro hy
    exact (h.2 _ hy).elim (fun z => absurd rfl z) id
/-- a lambda made by a def whose cells are kept: its cells are known -/
theorem heldC_of {cells : List (Str × Addr)} {names : List (Str × NameKind)} {fr : List Str} {ws : List V} {H : Hp} (inj : ∀ x y c, cells.lookup x = some c → cells.lookup y = some c → x = y) (hfr : ∀ y, y ∈ fr ↔ (y, NameKind.free) ∈ names) (len : ws.length = fr.length)
    (hat : ∀ (i : Nat) y w, fr[i]? = some y → ws[i]? = some w → ∃ c, cells.lookup y = some c ∧ H c = some (CellO c w)) : HeldC (cloFrom cells names []) fr ws H := by
  have has : ∀ (i : Nat) y, fr[i]? = some y → ∃ c w, cells.lookup y = some c ∧ ws[i]? = some w ∧ H c = some (CellO c w) := fun i y e => by
    have lt : i < ws.length := by
      rw [len]
      exact (List.getElem?_eq_some_iff.mp e).1
    obtain ⟨c, h1, h2⟩ := hat i y _ e (List.getElem?_eq_getElem lt)
    exact ⟨c, _, h1, List.getElem?_eq_getElem lt, h2⟩
  have key : ∀ y c, (cloFrom cells names []).lookup y = some c → y ∈ fr ∧ cells.lookup y = some c := fun y c e => by
    rcases cloFrom_mem (PySem.mem_of_lookup e) with hm | ⟨h1, h2⟩
    · cases hm
    · have hy := (hfr y).mpr h1
      obtain ⟨i, hi⟩ := List.mem_iff_getElem?.mp hy
      obtain ⟨c1, _, e1, _, _⟩ := has i y hi
      rw [e1] at h2
      exact ⟨hy, by rw [e1, h2]; rfl⟩
  have back : ∀ y c, y ∈ fr → cells.lookup y = some c → (cloFrom cells names []).lookup y = some c := fun y c hy e => by
    obtain ⟨c1, hc1⟩ := mem_lookup (cloFrom_has (cells := cells) (acc := []) ((hfr y).mp hy))
    rw [hc1, (key y c1 hc1).2.symm.trans e]
  exact {
    len := len
    has := fun i y e => by
      obtain ⟨c, w, h1, h2, h3⟩ := has i y e
      exact ⟨c, w, back y c (List.mem_of_getElem? e) h1, h2, h3⟩
    all := fun y c e => (key y c e).1
    inj := fun x y c e1 e2 => inj x y c (key x c e1).2 (key y c e2).2 }
theorem drop_off {cl : List (Str × Addr)} {fr : List Str} {H : Hp} {b : Addr} (h : isC cl fr b = false) : dropC cl fr H b = H b := by
  unfold dropC
  rw [h]
  rfl
theorem drop_some {cl : List (Str × Addr)} {fr : List Str} {H : Hp} {b : Addr} {o : HO} (h : dropC cl fr H b = some o) : isC cl fr b = false ∧ H b = some o := by
  unfold dropC at h
  cases e : isC cl fr b with
  | true => rw [e, if_pos rfl] at h; cases h
  | false => rw [e] at h; exact ⟨rfl, h⟩
theorem back_off {cl : List (Str × Addr)} {fr : List Str} {H H1 : Hp} {b : Addr} (h : isC cl fr b = false) : backC cl fr H H1 b = H1 b := by
  unfold backC
  rw [h]
  rfl
theorem back_on {cl : List (Str × Addr)} {fr : List Str} {H H1 : Hp} {b : Addr} (h : isC cl fr b = true) : backC cl fr H H1 b = H b := by
  unfold backC
  rw [h]
  rfl
section
variable {P : Program} {w : World} {K : PySem.W.Frag} {mg : Str → Option Value} {base : Heap}
theorem hok_drop {cl : List (Str × Addr)} {fr : List Str} {ws : List V} {H : Hp} {h : Heap} (C : HeldC cl fr ws H) (ok : HOk P w H h) : HOk P w (dropC cl fr H) h := fun b o e => by
  obtain ⟨_, e1⟩ := drop_some e
  exact (ok b o e1).stay (fun _ _ _ q => q) (fun d q => (drop_off (C.off q fun _ z => nomatch z)).trans q) fun d xs q => (drop_off (C.off q fun _ z => nomatch z)).trans q
theorem cells_held {cl : List (Str × Addr)} {fr : List Str} {ws : List V} {H : Hp} {h : Heap} (C : HeldC cl fr ws H) (ok : HOk P w H h) : CellsAt cl fr (ws.map some) h (dropC cl fr H) where
  len := by rw [List.length_map]; exact C.len
  all := fun y c e => by
    have hc : isC cl fr c = true := isC_iff.mpr ⟨y, C.all y c e, e⟩
    obtain ⟨v, hv⟩ := C.at hc
    obtain ⟨u, _, z⟩ := cellO_at ok hv
    exact ⟨by unfold dropC; rw [hc]; rfl, _, z⟩
  inj := C.inj
  has := fun i y e => by
    obtain ⟨c, v, h1, h2, h3⟩ := C.has i y e
    obtain ⟨u, r, z⟩ := cellO_at ok h3
    refine ⟨c, h1, fun v' e' => ?_⟩
    rw [List.getElem?_map, h2] at e'
    cases e'
    exact ⟨u, r, z⟩
/-- what a lambda promises: sp ws, ws what its cells hold -/
structure LOk (P : Program) (w : World) (K : PySem.W.Frag) (mg : Str → Option Value) (base : Heap) (k : Nat) (q : Str) (params : Arguments) (body : Expr) (scope : Scope) (fr : List Str) (sp : List V → Hp → VK → Prop) : Prop where
  run : ∀ (f c : Addr) (cl : List (Str × Addr)) (A : Around) (outer : List Env) (s : Shared) (H : Hp) (ws : List V) (Q : VK), Room k A → Env0 P w K mg base A outer s H → H f = some (LamO f ⟨q, params, body, scope, cl, c⟩) → H c = some (CodeO c q) →
    CellsAt cl fr (ws.map some) s.heap H → sp ws H Q → codeAny (model P w) A (.call (.ref f) ⟨[], []⟩) (CR CX0 outer P w H s Q fun _ _ _ => False) s
/-- a lambda by its body -/
theorem lok_of {N fr : List Str} {k : Nat} {q : Str} {params : Arguments} {body : Expr} {scope : Scope} {sp : List V → Hp → VK → Prop} (S : NScope N [] fr scope) (hb : ∀ (cl : List (Str × Addr)) (c : Addr) (pm ctv : Value), bindArgs (PySem.W.kla_fn "<lambda>" q params body scope cl pm (.ref c) ctv) ⟨[], []⟩ = pure [])
    (hbody : ∀ (f c : Addr) (cl : List (Str × Addr)) (A : Around) (outer : List Env) (s : Shared) (H : Hp) (ws : List V) (Q : VK), Room k (A.deeper (envF ⟨"<lambda>", q, params, [], scope, cl, c⟩ f s.heap.objs.size)) → ws.length = fr.length → sp ws H Q →
      ∃ t, PE (ncx CX0 P w K mg base N ⟨"<lambda>", q, params, [], scope, cl, c⟩ f A outer s H fun _ _ _ => False) body t ∧ t (startF N [] (ws.map some)) H Q) : LOk P w K mg base (k + 1) q params body scope fr sp := by
  constructor
  intro f c cl A outer s H ws Q hr e0 hf hc C h
  have lim : s.heap.NoLimit := e0.mod.nolimit.keeps fun b o e => (e0.bs b o e).1
  obtain ⟨⟨pm, ctv, ho⟩, _⟩ := e0.hok f _ hf
  refine PySem.W.kla_callFunE hr.depth ho rfl S.co S.gen rfl (codeO_at e0.hok hc) ?_
  rw [hb cl c pm ctv]
  refine wpAny_pure (wpAny_newFunctionEnv S.nocell (fun y hy => absurd hy (by simp)) (fun g hns hsb => ⟨lim.fresh _ hsb, ?_⟩) S.kind)
  show codeAny _ _ (.expr body (envF ⟨"<lambda>", q, params, [], scope, cl, c⟩ f s.heap.objs.size)) _ _
  have kp : ∀ b o, s.heap.get? b = some o → g.get? b = some o := fun b o e => hsb.extBut b o (Nat.ne_of_lt (Heap.lt_size e)) (Heap.get?_push_of_some _ e)
  have wl := C.len
  rw [List.length_map] at wl
  obtain ⟨t, ht, hq⟩ := hbody f c cl A outer s H ws Q (hr.deeper _) wl h
  have I : Inv (ncx CX0 P w K mg base N ⟨"<lambda>", q, params, [], scope, cl, c⟩ f A outer s H fun _ _ _ => False) [] (startF N [] (ws.map some)) H { s with heap := g, toks := s.toks + ([] : List (Str × Value)).length } := inv_startN (ps := []) (us := []) S hr.hd e0 rfl .nil C hns kp
  refine PySem.W.kla_codeExpr (wpAny_mono (ht.run [] _ _ H Q I hq) (fun v s' hv => ?_) fun e s' he => he)
  obtain ⟨x, H', J, rv, hx⟩ := hv
  exact ⟨x, H', J.os, J.bare, J.base, J.hok, rv, hx⟩
end
/-- x(), x a name that holds a kept lambda -/
def tClo (q : Str) (params : Arguments) (body : Expr) (scope : Scope) (fr : List Str) (i : Nat) (sp : List V → Hp → VK → Prop) : TE := fun σ H Q => ∃ (f c : Addr) (cl : List (Str × Addr)) (ws : List V), σ[i]? = some (some (.ref f)) ∧ H f = some (LamO f ⟨q, params, body, scope, cl, c⟩) ∧ H c = some (CodeO c q) ∧ isC cl fr f = false ∧ isC cl fr c = false ∧
  HeldC cl fr ws H ∧ sp ws (dropC cl fr H) fun v H1 => (∀ b, isC cl fr b = true → H1 b = none) → Q v (backC cl fr H H1)
theorem lam_fn {X : Cx} {pins : List (Addr × Obj)} {σ : L2.St} {H : Hp} {s : Shared} {f : Addr} {F : LF} (I : Inv X pins σ H s) (e : H f = some (LamO f F)) : PySem.W.FnAt f s.heap := by
  obtain ⟨⟨pm, ctv, ho⟩, _⟩ := I.hok f _ e
  exact ⟨_, _, _, _, ho⟩
theorem pe_clo {X : Cx} {q : Str} {params : Arguments} {body : Expr} {scope : Scope} {fr : List Str} {i j k : Nat} {x : Str} {sp : List V → Hp → VK → Prop} {p pos : Pos} (L : LOk X.prog X.w X.K X.mg X.base k q params body scope fr sp) (hr : Room j X.A) (hk : k ≤ j) (hN : X.N[i]? = some x) (hv : Vis X.env.scope x)
    (hd : (x == ("__debug__" : Str)) = false := by decide) (hcd : (x == ("__classdict__" : Str)) = false := by decide) : PE X (.Call (.Name x p) [] [] pos) (tClo q params body scope fr i sp) := by
  constructor
  intro pins s σ H Q I h
  obtain ⟨f, c, cl, ws, hs, hf, hc, nf, nc, C, hq⟩ := h
  refine wpAny_Call_Name_kw (thn ((pe_var (pos := p) hN hv hd hcd).run pins s σ H (fun v H1 => v = .ref f ∧ H1 = H) I ⟨.ref f, hs, rfl, rfl⟩) fun u s1 ⟨v, H1, I1, r1, ev, eH⟩ => ?_)
  subst ev
  rw [eH] at I1
  obtain rfl : u = Value.ref f := r1
  refine PySem.W.callWith_F0 (first := []) (lam_fn I1 hf) ?_
  show wpAny _ _ (call (.ref f) []) _ _ _
  have e0 := I1.env0
  have e1 : Env0 X.prog X.w X.K X.mg X.base X.A X.stack s1 (dropC cl fr H) := ⟨e0.frames, e0.mod, fun b o e => ⟨(e0.bs b o e).1, by rw [drop_off (C.offN (e0.bs b o e).2)]; exact (e0.bs b o e).2⟩, e0.bsz, e0.funs, fun b hb => by rw [drop_off (C.offN (e0.frf b hb))]; exact e0.frf b hb, hok_drop C e0.hok, e0.bare⟩
  refine wpAny_call (codeAny_mono (L.run f c cl X.A X.stack s1 (dropC cl fr H) ws _ (hr.mono hk) e1 ((drop_off nf).trans hf) ((drop_off nc).trans hc) (cells_held C I1.hok) hq) fun r s2 hq => ?_)
  cases r with
  | error e => exact hq.elim
  | ok fl =>
    cases fl with
    | next => exact hq.elim
    | brk => exact hq.elim
    | cont => exact hq.elim
    | ret u =>
      obtain ⟨v, H2, os, bare, un, hok, rv, hv⟩ := hq
      have gone : ∀ b, isC cl fr b = true → H2 b = none := fun b hb => by
        obtain ⟨y, z⟩ := C.at hb
        obtain ⟨_, ⟨o, ho⟩, _⟩ := I1.hok b _ z
        exact un.free b o ho (by unfold dropC; rw [hb]; rfl) (by simp)
      refine I1.after ⟨v, backC cl fr H H2, os, bare, ?_, fun b o e => ?_, rv, hv gone⟩
      · exact {
          keep := fun b o e n => un.keep b o e (by rw [drop_off (C.offN n)]; exact n)
          slot := fun b o e n => un.slot b o e (by rw [drop_off (C.offN n)]; exact n)
          free := fun b o e n hx => by
            rw [back_off (C.offN n)]
            exact un.free b o e (by rw [drop_off (C.offN n)]; exact n) hx
          there := un.there
          tups := fun b xs e => by
            have z := C.off e fun _ z => nomatch z
            rw [back_off z]
            exact un.tups b xs (by rw [drop_off z]; exact e)
          frzs := fun b o u e => by
            have z := C.off e fun _ z => nomatch z
            rw [back_off z]
            exact un.frzs b o u (by rw [drop_off z]; exact e)
          tbls := fun b ps e => by
            have z := C.off e fun _ z => nomatch z
            obtain ⟨more, t⟩ := un.tbls b ps (by rw [drop_off z]; exact e)
            exact ⟨more, by rw [back_off z]; exact t⟩ }
      · cases hb : isC cl fr b with
        | true =>
          rw [back_on hb] at e
          obtain ⟨v', hv'⟩ := C.at hb
          rw [hv'] at e
          cases e
          obtain ⟨u', r', o, ho, hdt⟩ := cellO_at I1.hok hv'
          refine cellO_ok r' ⟨o, un.keep b o ho (by unfold dropC; rw [hb]; rfl) (fun z => ?_) (by simp), hdt⟩
          have z2 := e0.frf b z
          rw [hv'] at z2
          cases z2
        | false =>
          rw [back_off hb] at e
          have live : ∀ d u, H2 d = some u → backC cl fr H H2 d = some u := fun d u q => by
            cases hd : isC cl fr d with
            | true => rw [gone d hd] at q; cases q
            | false => rw [back_off hd]; exact q
          exact (hok b o e).stay (fun _ _ _ q => q) (fun d q => live d _ q) fun d xs q => live d _ q
/-! a cell is no code object, no function -/
theorem rep_get {ob : Obj} (n : ob.data ≠ .freed) (m a : Nat) : ({ objs := Array.replicate m ob } : Heap).get? a = if a < m then some ob else none := by
  unfold Heap.get?
  rw [Array.getElem?_replicate]
  split
  · split
    · exact absurd (show ob.data = .freed from by simp_all) n
    · rfl
  · rfl
theorem cell_code {c a : Addr} {q : Str} {v : V} : CodeO a q ≠ CellO c v := fun z => by
  have hz := HO.ext.inj z
  let ob : Obj := { cls := .none, data := .fields #[.none, .str q default] }
  let h : Heap := { objs := Array.replicate (a + 1) ob }
  have nf : ob.data ≠ .freed := fun z => nomatch z
  have h1 : (fun h : Heap => ∃ u, RelV v u ∧ h.IsCell c (some u)) h := by
    rw [← hz]
    exact ⟨ob, _, default, (rep_get nf (a + 1) a).trans (if_pos (Nat.lt_succ_self a)), rfl, rfl⟩
  obtain ⟨u, _, o, ho, hd⟩ := h1
  have := (rep_get nf (a + 1) c).symm.trans ho
  split at this
  · cases this
    cases hd
  · cases this
theorem cell_lam {c f : Addr} {F : LF} {v : V} : LamO f F ≠ CellO c v := fun z => by
  have hz := HO.ext.inj z
  let ob : Obj := PySem.W.kla_obj "<lambda>" F.qual F.params F.body F.scope F.cl .none F.c .none
  let h : Heap := { objs := Array.replicate (f + 1) ob }
  have nf : ob.data ≠ .freed := fun z => nomatch z
  have h1 : (fun h : Heap => ∃ u, RelV v u ∧ h.IsCell c (some u)) h := by
    rw [← hz]
    exact ⟨.none, .none, (rep_get nf (f + 1) f).trans (if_pos (Nat.lt_succ_self f))⟩
  obtain ⟨u, _, o, ho, hd⟩ := h1
  have := (rep_get nf (f + 1) c).symm.trans ho
  split at this
  · cases this
    cases hd
  · cases this
theorem HeldC.offE {cl : List (Str × Addr)} {fr : List Str} {ws : List V} {H : Hp} (C : HeldC cl fr ws H) {b : Addr} {o : HO} (e : H b = some o) (n : ∀ v, o ≠ CellO b v) : isC cl fr b = false := by
  cases h : isC cl fr b with
  | false => rfl
  | true =>
    obtain ⟨w, z⟩ := C.at h
    rw [e] at z
    exact absurd (Option.some.inj z) (n _)
theorem tabs_drop {T : List (Addr × Str)} {cl : List (Str × Addr)} {fr : List Str} {ws : List V} {H : Hp} (C : HeldC cl fr ws H) (h : Tabs T H) : Tabs T (dropC cl fr H) := fun p hp => by
  obtain ⟨ps, e1, ok, k⟩ := h p hp
  refine ⟨ps, (drop_off (C.off e1 fun _ z => nomatch z)).trans e1, ok, fun pos cv hc => ?_⟩
  obtain ⟨c, rfl, e⟩ := k pos cv hc
  exact ⟨c, rfl, (drop_off (C.offE e fun _ => cell_code)).trans e⟩
/-- at f is a lambda; its cells hold ws -/
def LamAt (q : Str) (params : Arguments) (body : Expr) (scope : Scope) (fr : List Str) (ws : List V) (f : Addr) (H : Hp) : Prop :=
  ∃ (c : Addr) (cl : List (Str × Addr)), H f = some (LamO f ⟨q, params, body, scope, cl, c⟩) ∧ H c = some (CodeO c q) ∧ HeldC cl fr ws H
theorem LamAt.ext {q : Str} {params : Arguments} {body : Expr} {scope : Scope} {fr : List Str} {ws : List V} {f : Addr} {H H' : Hp} (L : LamAt q params body scope fr ws f H) (e : ExtN H H') : LamAt q params body scope fr ws f H' := by
  obtain ⟨c, cl, h1, h2, C⟩ := L
  exact ⟨c, cl, e _ _ h1 (fun _ z => nomatch z), e _ _ h2 codeO_ne, ⟨C.len, fun i y z => by
    obtain ⟨c, w, a1, a2, a3⟩ := C.has i y z
    exact ⟨c, w, a1, a2, e _ _ a3 (fun _ z => nomatch z)⟩, C.all, C.inj⟩⟩
/-- such a lambda is called -/
theorem L_clo {q : Str} {params : Arguments} {body : Expr} {scope : Scope} {fr : List Str} {i : Nat} {sp : List V → Hp → VK → Prop} {σ : L2.St} {H : Hp} {Q : VK} {f : Addr} {ws : List V} (L : LamAt q params body scope fr ws f H) (hs : σ[i]? = some (some (.ref f)))
    (k : ∀ Hd : Hp, (∀ b o, Hd b = some o → H b = some o) → (∀ b o, H b = some o → (∀ φ, o ≠ .ext φ) → Hd b = some o) → (∀ T, Tabs T H → Tabs T Hd) → sp ws Hd fun v H1 => ∀ H2 : Hp, Same H1 H2 → (ExtN Hd H1 → ExtN H H2) → Q v H2)
    (mono : ∀ H (Q Q' : VK), sp ws H Q → (∀ v H1, Q v H1 → Q' v H1) → sp ws H Q') : tClo q params body scope fr i sp σ H Q := by
  obtain ⟨c, cl, h1, h2, C⟩ := L
  refine ⟨f, c, cl, ws, hs, h1, h2, C.offE h1 fun _ => cell_lam, C.offE h2 fun _ => cell_code, C, ?_⟩
  refine mono _ _ _ (k (dropC cl fr H) (fun b o e => (drop_some e).2) (fun b o e n => (drop_off (C.off e n)).trans e) fun T => tabs_drop C) fun v H1 hv gone => hv _ (fun b o e => ?_) fun ex b o e n => ?_
  · cases hb : isC cl fr b with
    | true => rw [gone b hb] at e; cases e
    | false => exact (back_off hb).trans e
  · cases hb : isC cl fr b with
    | true => exact (back_on hb).trans e
    | false => exact (back_off hb).trans (ex b o ((drop_off hb).trans e) n)
theorem tClo_at {q : Str} {params : Arguments} {body : Expr} {scope : Scope} {fr : List Str} {i : Nat} {sp : List V → Hp → VK → Prop} {σ : L2.St} {H : Hp} {Q : VK} {f : Addr} (h : tClo q params body scope fr 0 sp [some (.ref f)] H Q) (hs : σ[i]? = some (some (.ref f))) : tClo q params body scope fr i sp σ H Q := by
  obtain ⟨g, c, cl, ws, e, r⟩ := h
  cases e
  exact ⟨f, c, cl, ws, hs, r⟩
theorem tabs_nil {cs : List (Addr × Addr)} {T : List (Addr × Str)} {H : Hp} (h : ∀ p ∈ cs, H p.2 = some (.tbl #[])) (hs : ∀ t ∈ T, ∃ p ∈ cs, p.2 = t.1) : Tabs T H := fun t ht => by
  obtain ⟨p, hp, e⟩ := hs t ht
  exact .nil (by rw [← e]; exact h p hp)
theorem ncx_K {CX : CXT} {P : Program} {w : World} {K : PySem.W.Frag} {mg : Str → Option Value} {base : Heap} {N : List Str} {F : NF} {f : Addr} {A : Around} {outer : List Env} {s : Shared} {H : Hp} {E : XK} : (ncx CX P w K mg base N F f A outer s H E).K = K := rfl
theorem ncx_mg {CX : CXT} {P : Program} {w : World} {K : PySem.W.Frag} {mg : Str → Option Value} {base : Heap} {N : List Str} {F : NF} {f : Addr} {A : Around} {outer : List Env} {s : Shared} {H : Hp} {E : XK} : (ncx CX P w K mg base N F f A outer s H E).mg = mg := rfl
/-! ### makers: defs that make lambdas -/
/-- the code object of the def that a name of the module holds; its table -/
def cF (K : PySem.W.Frag) (mg : Str → Option Value) (x : Str) : Addr := match mg x with
  | some (.ref f) => match K.lookup f with
    | some ⟨_, _, .func fd, _⟩ => match fd.code with
      | .ref c => c
      | _ => 0
    | _ => 0
  | _ => 0
def pK (K : PySem.W.Frag) (c : Addr) : Addr := match K.lookup c with
  | some ⟨_, _, .fields vs, _⟩ => match (vs[11]? : Option Value) with
    | some (.ref P) => P
    | _ => 0
  | _ => 0
abbrev pF (K : PySem.W.Frag) (mg : Str → Option Value) (x : Str) : Addr := pK K (cF K mg x)
structure DefC (K : PySem.W.Frag) (mg : Str → Option Value) (x : Str) (st : Stmt) (ps : List Str) : Prop where
  ex : ∃ (f : Addr) (oc : Value) (od : Option Addr) (kV doc pm : Value) (an : Option Addr) (ct : Value) (osl : Array (Option Value)),
    K.lookup f = some ⟨oc, od, .func (PySem.W.fnOf x x (defArgs st) (defBody st) (defScope st) .none kV doc pm an (.ref (cF K mg x)) ct), osl⟩ ∧ PySem.W.codeIn K (.ref (cF K mg x)) x = true ∧ PySem.W.keepIn K (.ref f) = true ∧ mg x = some (.ref f) ∧ Binds K (PySem.W.fnOf x x (defArgs st) (defBody st) (defScope st) .none kV doc pm an (.ref (cF K mg x)) ct) ps []
theorem cF_of {K : PySem.W.Frag} {mg : Str → Option Value} {x : Str} {f c : Addr} {oc : Value} {od : Option Addr} {fd : FuncData} {osl : Array (Option Value)} (hm : mg x = some (.ref f)) (hl : K.lookup f = some ⟨oc, od, .func fd, osl⟩) (hc : fd.code = .ref c) : cF K mg x = c := by
  unfold cF
  rw [hm]
  show (match K.lookup f with | some ⟨_, _, .func fd, _⟩ => (match fd.code with | .ref c => c | _ => 0) | _ => 0) = c
  rw [hl]
  show (match fd.code with | .ref c => c | _ => 0) = c
  rw [hc]
section
variable {P : Program} {w : World} {K : PySem.W.Frag} {mg : Str → Option Value} {base : Heap}
theorem DefC.calK {x : Str} {st : Stmt} {N ps : List Str} {k : Nat} {sp : Sp} {as : List (Str × Nat)} (d : DefC K mg x st ps) (S : FnScope N ps (defScope st)) (len : ∀ vs H Q E, sp vs H Q E → vs.length = ps.length) (hk : ∀ a ∈ as, (defScope st).names.lookup a.1 = some .cell ∧ N[a.2]? = some a.1)
    (hbody : ∀ (f : Addr) (A : Around) (outer : List Env) (s : Shared) (H : Hp) (vs : List V) (Q : VK) (E : XK), Room k (A.deeper (envOfC x (defScope st) s.heap.objs.size f (.ref (cF K mg x)))) → sp vs H Q E →
      ∃ t, PSR (cxOf CX0 P w K mg base N x (defScope st) f (.ref (cF K mg x)) A outer s H E) (defBody st) t ∧ t (Keeps (cellsFrom (s.heap.objs.size + 1) (defScope st).names []) as Q) (start N vs) H) : Cal P w K mg base (k + 1) x sp := by
  obtain ⟨f, oc, od, kV, doc, pm, an, ct, osl, lk, hcd, kp, hm, b⟩ := d.ex
  refine ⟨f, _, ps, ⟨len, fun A outer s H args us vs Q E hr e0 hb r hsp => ?_⟩, hm, kp, b⟩
  have inK : K.In s.heap := e0.mod.kin.keeps fun b o e => (e0.bs b o e).1
  have free : s.heap.NoLimit := e0.mod.nolimit.keeps fun b o e => (e0.bs b o e).1
  have kinds : ∀ y ∈ ps.zip us, (defScope st).names.lookup y.1 = some .local ∨ ((defScope st).names.lookup y.1 = some .cell ∧ ((cellsFrom (s.heap.objs.size + 1) (defScope st).names []).lookup y.1).isSome = true) := fun y hy => by
    obtain ⟨n, v⟩ := y
    exact (S.par n (List.of_mem_zip hy).1).imp id fun z => ⟨z, PySem.W.cellsFrom_some _ _ _ (.inl z)⟩
  refine codeAny_call_function hr.depth (inK _ _ lk) rfl S.co S.gen rfl (PySem.W.codeRec_of inK hcd) (hb _ _ _ _ ?_)
  refine wpAny_newFunctionEnv_cells S.kind kinds fun env he s1 y => ?_
  subst he
  refine ⟨free.keeps y.toInCall.keep, codeAny_func ?_⟩
  obtain ⟨t, ht, hq⟩ := hbody f A outer s H vs Q E (hr.deeper _) hsp
  have I : Inv (cxOf CX0 P w K mg base N x (defScope st) f (.ref (cF K mg x)) A outer s H E) [] (start N vs) H s1 := inv_start S hr.hd e0 (len _ _ _ _ hsp) r y
  refine wpAny_mono (ht.run [] s1 (start N vs) H _ I hq) (fun fl s2 hs => ?_) fun e s2 hs => hs
  cases fl with
  | ret u =>
    obtain ⟨v, σ', H', J, rv, as1, ws, sub, nd, hw, q⟩ := hs
    obtain ⟨H2, sm, _, at_, un, hok⟩ := keep_cells J (fun z c hz => J.ok.cab z c rfl hz) as1 ws (fun a ha => hk a (sub a ha)) nd hw
    exact ⟨v, H2, J.os, J.bare, un, hok, rv, q H2 (fun x y c e1 e2 => J.ok.inj x y c e1 e2) sm at_⟩
  | next => exact hs.elim
  | brk => exact hs.elim
  | cont => exact hs.elim
end
/-- where a recursion ends: nothing is promised -/
theorem DefC.calF {P : Program} {w : World} {K : PySem.W.Frag} {mg : Str → Option Value} {base : Heap} {x : Str} {st : Stmt} {ps : List Str} {k : Nat} (d : DefC K mg x st ps) : Cal P w K mg base k x (fun _ _ _ _ => False) := by
  obtain ⟨f, oc, od, kV, doc, pm, an, ct, osl, lk, hcd, kp, hm, b⟩ := d.ex
  exact ⟨f, _, ps, ⟨fun _ _ _ _ h => h.elim, fun _ _ _ _ _ _ _ _ _ _ _ _ _ h => h.elim⟩, hm, kp, b⟩
/-! ### a heap that grows, code tables too -/
structure Ev (T : List (Addr × Str)) (H H' : Hp) : Prop where
  ex : ExtN H H'
  tb : Tabs T H → Tabs T H'
theorem Ev.refl {T : List (Addr × Str)} {H : Hp} : Ev T H H := ⟨.refl _, id⟩
theorem Ev.trans {T : List (Addr × Str)} {H H1 H2 : Hp} (a : Ev T H H1) (b : Ev T H1 H2) : Ev T H H2 := ⟨a.ex.trans b.ex, fun t => b.tb (a.tb t)⟩
theorem Ev.same {T : List (Addr × Str)} {H H' : Hp} (s : Same H H') : Ev T H H' := ⟨.of s, fun t => t.ext s⟩
theorem Ev.made {T : List (Addr × Str)} {H H' : Hp} (a : ExtN H H') (b : Tabs T H') : Ev T H H' := ⟨a, fun _ => b⟩
theorem Ev.lst {T : List (Addr × Str)} {H H' : Hp} (e : Ev T H H') {a : Addr} {xs : List V} (h : H a = some (.lst xs)) : H' a = some (.lst xs) := e.ex _ _ h (fun _ z => nomatch z)
theorem Ev.tup {T : List (Addr × Str)} {H H' : Hp} (e : Ev T H H') {a : Addr} {xs : List V} (h : H a = some (.tup xs)) : H' a = some (.tup xs) := e.ex _ _ h (fun _ z => nomatch z)
theorem Ev.ins {T : List (Addr × Str)} {H H' : Hp} (e : Ev T H H') {a C d : Addr} {fs : List (Str × V)} (h : H a = some (.ins C d fs)) : H' a = some (.ins C d fs) := e.ex _ _ h (fun _ z => nomatch z)
theorem Ev.seqT {K : PySem.W.Frag} {T : List (Addr × Str)} {H H' : Hp} (e : Ev T H H') {a : Addr} {xs : List V} (h : SqT K H a xs) : SqT K H' a xs := by
  rcases h with (h | ⟨o, h⟩) | h
  · exact .inl (.inl (e.tup h))
  · exact .inl (.inr ⟨o, e.ex _ _ h (fun _ z => nomatch z)⟩)
  · exact .inr h
theorem Ev.seq {K : PySem.W.Frag} {T : List (Addr × Str)} {H H' : Hp} (e : Ev T H H') {a : Addr} {xs : List V} (h : SqL K H a xs) : SqL K H' a xs := by
  rcases h with (h | ⟨o, h⟩) | h
  · exact .inl (.inl (e.lst h))
  · exact .inl (.inr ⟨o, e.ex _ _ h (fun _ z => nomatch z)⟩)
  · exact .inr h
mutual
theorem Dp_sq {K : PySem.W.Frag} {H H' : Hp} (eL : ∀ a xs, SqL K H a xs → SqL K H' a xs) (eT : ∀ a xs, SqT K H a xs → SqT K H' a xs) : ∀ (d : PyData) {v : V}, Dp K H v d → Dp K H' v d
  | _, _, .int _ => .int _
  | _, _, .str _ => .str _
  | _, _, .bl _ => .bl _
  | _, _, .non => .non
  | _, _, .lst h a => .lst (eL _ _ h) (DpAll_sq eL eT _ a)
  | _, _, .tup h a => .tup (eT _ _ h) (DpAll_sq eL eT _ a)
theorem DpAll_sq {K : PySem.W.Frag} {H H' : Hp} (eL : ∀ a xs, SqL K H a xs → SqL K H' a xs) (eT : ∀ a xs, SqT K H a xs → SqT K H' a xs) : ∀ (ds : List PyData) {vs : List V}, DpAll K H vs ds → DpAll K H' vs ds
  | _, _, .nil => .nil
  | _, _, .cons h t => .cons (Dp_sq eL eT _ h) (DpAll_sq eL eT _ t)
end
theorem Ev.dp {K : PySem.W.Frag} {T : List (Addr × Str)} {H H' : Hp} (e : Ev T H H') {v : V} {d : PyData} (h : Dp K H v d) : Dp K H' v d := Dp_sq (fun _ _ => e.seq) (fun _ _ => e.seqT) d h
theorem Ev.dpA {K : PySem.W.Frag} {T : List (Addr × Str)} {H H' : Hp} (e : Ev T H H') {vs : List V} {ds : List PyData} (h : DpAll K H vs ds) : DpAll K H' vs ds := DpAll_sq (fun _ _ => e.seq) (fun _ _ => e.seqT) ds h
/-- a new thing that is changed -/
theorem Ev.mut {T : List (Addr × Str)} {H H1 : Hp} {D : Addr} {us : List V} {o : HO} (e : Ev T H H1) (n : H D = none) (h : H1 D = some (.lst us)) : Ev T H (upd H1 D o) := ⟨fun b o' hb ne => by
  rw [upd_ne (ne_of_none hb n)]
  exact e.ex _ _ hb ne, fun t => fun p hp => by
  obtain ⟨ps, e1, ok, k⟩ := e.tb t p hp
  have keep : ∀ b o', H1 b = some o' → (∀ l, o' ≠ .lst l) → upd H1 D o b = some o' := fun b o' hb ne => by
    rw [upd_ne fun z => by rw [z, h] at hb; exact ne _ (Option.some.inj hb).symm]
    exact hb
  refine ⟨ps, keep _ _ e1 (fun _ z => nomatch z), ok, fun pos cv hc => ?_⟩
  obtain ⟨c, rfl, hcc⟩ := k pos cv hc
  exact ⟨c, rfl, keep _ _ hcc (fun l z => by unfold CodeO at z; cases z)⟩⟩
/-- a comprehension of new things of some kind, where lambdas may be made -/
theorem lc_ev {α : Type} {T : List (Addr × Str)} (F : Hp → V → α → Prop) (st : ∀ H H' v a, Ev T H H' → F H v a → F H' v a) (up : ∀ H D us us' v a, H D = some (.lst us) → F H v a → F (upd H D (.lst us')) v a)
    {σ : L2.St} {H : Hp} {g : TG} {tt : TT} {te : TE} {J : It} {n : Nat} {G : Hp → Prop} {Y : Nat → Hp → V → Hp → Prop} (w : L2.Walk J n G Y) {vs : List Nat} {Qd : Addr → Hp → Prop} (l : List α) (hl : l.length = n) (hn : n ≤ 1000000) (hG : ∀ H', Ev T H H' → G H')
    (hs : ∀ i x H2 H' (R : V → Hp → Prop) (R' : Hp → Prop), i < n → Ev T H H2 → Y i H2 x H' → (∀ v p H4, l[i]? = some p → Ev T H2 H4 → F H4 v p → R v H4) →
      g x (wipe σ vs) H' fun σ2 H2 => wipe σ2 vs = wipe σ vs ∧ tt σ2 H2 fun b H3 => if b = true then te σ2 H3 R else R' H3)
    (q : ∀ p H' vs, H p = none → Ev T H H' → H' p = some (.lst vs) → Paired (F H') vs l → Qd p H') :
    ∀ D, H D = none → ∃ W : Nat → Nat → Hp → Prop, (∃ m, W 0 m (upd H D (.lst []))) ∧ ∀ i m H, W i m H →
      (J.stop i H ∧ Qd D H) ∨ (J.go i H ∧ ∃ Nx : Hp → Prop, (∀ H', Nx H' → ∃ m', m' < m ∧ W (i + 1) m' H') ∧ ∀ x H', J.yld i H x H' → g x (wipe σ vs) H' fun σ2 H2 => wipe σ2 vs = wipe σ vs ∧ tt σ2 H2 fun b H3 =>
        if b = true then te σ2 H3 fun y H4 => ∃ acc, H4 D = some (.lst acc) ∧ acc.length < sizeLine ∧ Nx (upd H4 D (.lst (acc ++ [y]))) else Nx H3) := by
  intro D hD
  refine lc_it w (fun i H2 => Ev T H H2 ∧ ∃ us, H2 D = some (.lst us) ∧ Paired (F H2) us (l.take i)) ⟨.same (same_new hD), [], upd_same, .nil⟩ (fun i H2 _ p => hG H2 p.1) ?_ (fun H2 ⟨p1, us, p2, p3⟩ => q D H2 us hD p1 p2 (by rwa [List.take_of_length_le (by omega)] at p3))
  rintro i x H2 H' hi ⟨p1, us, p2, p3⟩ y
  refine hs i x H2 H' _ _ hi p1 y (fun v p H4 e s et => ?_)
  have e4 := s.lst p2
  have ln := Paired.length p3
  rw [List.length_take] at ln
  refine ⟨us, e4, sz_lt (by omega), (p1.trans s).mut hD e4, _, upd_same, ?_⟩
  rw [List.take_succ, e]
  exact paired_app (paired_imp2 (fun v p h => up _ _ _ _ _ _ e4 (st _ _ _ _ s h)) p3) (.cons (up _ _ _ _ _ _ e4 et) .nil)
/-- a comprehension of new things of some kind, where lambdas may be made -/
theorem lc_ev2 {α : Type} {T : List (Addr × Str)} (F : Hp → V → α → Prop) (st : ∀ H H' v a, Ev T H H' → F H v a → F H' v a) {σ : L2.St} {H : Hp} (up : ∀ H1 D us us' v a, H D = none → H1 D = some (.lst us) → F H1 v a → F (upd H1 D (.lst us')) v a)
     {g : TG} {tt : TT} {te : TE} {J : It} {n : Nat} {G : Hp → Prop} {Y : Nat → Hp → V → Hp → Prop} (w : L2.Walk J n G Y) {vs : List Nat} {Qd : Addr → Hp → Prop} (l : List α) (hl : l.length = n) (hn : n ≤ 1000000) (hG : ∀ H', Ev T H H' → G H')
    (hs : ∀ i x H2 H' (R : V → Hp → Prop) (R' : Hp → Prop), i < n → Ev T H H2 → Y i H2 x H' → (∀ v p H4, l[i]? = some p → Ev T H2 H4 → F H4 v p → R v H4) →
      g x (wipe σ vs) H' fun σ2 H2 => wipe σ2 vs = wipe σ vs ∧ tt σ2 H2 fun b H3 => if b = true then te σ2 H3 R else R' H3)
    (q : ∀ p H' vs, H p = none → Ev T H H' → H' p = some (.lst vs) → Paired (F H') vs l → Qd p H') :
    ∀ D, H D = none → ∃ W : Nat → Nat → Hp → Prop, (∃ m, W 0 m (upd H D (.lst []))) ∧ ∀ i m H, W i m H →
      (J.stop i H ∧ Qd D H) ∨ (J.go i H ∧ ∃ Nx : Hp → Prop, (∀ H', Nx H' → ∃ m', m' < m ∧ W (i + 1) m' H') ∧ ∀ x H', J.yld i H x H' → g x (wipe σ vs) H' fun σ2 H2 => wipe σ2 vs = wipe σ vs ∧ tt σ2 H2 fun b H3 =>
        if b = true then te σ2 H3 fun y H4 => ∃ acc, H4 D = some (.lst acc) ∧ acc.length < sizeLine ∧ Nx (upd H4 D (.lst (acc ++ [y]))) else Nx H3) := by
  intro D hD
  refine lc_it w (fun i H2 => Ev T H H2 ∧ ∃ us, H2 D = some (.lst us) ∧ Paired (F H2) us (l.take i)) ⟨.same (same_new hD), [], upd_same, .nil⟩ (fun i H2 _ p => hG H2 p.1) ?_ (fun H2 ⟨p1, us, p2, p3⟩ => q D H2 us hD p1 p2 (by rwa [List.take_of_length_le (by omega)] at p3))
  rintro i x H2 H' hi ⟨p1, us, p2, p3⟩ y
  refine hs i x H2 H' _ _ hi p1 y (fun v p H4 e s et => ?_)
  have e4 := s.lst p2
  have ln := Paired.length p3
  rw [List.length_take] at ln
  refine ⟨us, e4, sz_lt (by omega), (p1.trans s).mut hD e4, _, upd_same, ?_⟩
  rw [List.take_succ, e]
  exact paired_app (paired_imp2 (fun v p h => up _ _ _ _ _ _ hD e4 (st _ _ _ _ s h)) p3) (.cons (up _ _ _ _ _ _ hD e4 et) .nil)
theorem same_made {H : Hp} {x dx C : Addr} (nx : H x = none) (nd : H dx = none) (ne : dx ≠ x) : Same H (upd (upd H dx (.own x)) x (.ins C dx [])) :=
  (same_new nd).trans (same_new (by rw [upd_ne ne.symm]; exact nx))
theorem paired_nth {α β : Type} {F : α → β → Prop} : ∀ {xs : List α} {ys : List β} {i : Nat} {x : α}, Paired F xs ys → xs[i]? = some x → ∃ y, ys[i]? = some y ∧ F x y
  | _, _, _, _, .nil, h => by simp at h
  | _, _, 0, _, .cons h _, e => by
    cases e
    exact ⟨_, rfl, h⟩
  | _, _, i + 1, _, .cons _ t, e => paired_nth t (i := i) e
theorem paired_of {α β : Type} {F : α → β → Prop} : ∀ {xs : List α} {ys : List β} {i : Nat} {y : β}, Paired F xs ys → ys[i]? = some y → ∃ x, xs[i]? = some x ∧ F x y
  | _, _, _, _, .nil, h => by simp at h
  | _, _, 0, _, .cons h _, e => by
    cases e
    exact ⟨_, rfl, h⟩
  | _, _, i + 1, _, .cons _ t, e => paired_of t (i := i) e
theorem paired_pick {α β γ : Type} {R : α → β → γ → Prop} : ∀ {us : List α} {ps : List β}, Paired (fun u p => ∃ w, R u p w) us ps → ∃ ws : List γ, ws.length = ps.length ∧ Paired (fun u (x : β × γ) => R u x.1 x.2) us (ps.zip ws)
  | _, [], h => by cases h; exact ⟨[], rfl, .nil⟩
  | _, p :: ps, h => by
    cases h with | cons h1 h2 =>
    obtain ⟨w, hw⟩ := h1
    obtain ⟨ws, hl, hp⟩ := paired_pick h2
    exact ⟨w :: ws, by simp [hl], .cons hw hp⟩
theorem paired_unzip {α β γ : Type} {F : α → β × γ → Prop} {G : α → β → Prop} : ∀ {us : List α} {ps : List β} {ws : List γ}, Paired F us (ps.zip ws) → ws.length = ps.length → (∀ u x, x ∈ ps.zip ws → F u x → G u x.1) → Paired G us ps
  | _, [], _, h, _, _ => by cases h; exact .nil
  | _, p :: ps, [], _, hl, _ => by simp at hl
  | _, p :: ps, w :: ws, h, hl, k => by
    cases h with | cons h1 h2 =>
    exact .cons (k _ _ (by simp) h1) (paired_unzip h2 (by simpa using hl) fun u x hx => k u x (List.mem_cons_of_mem _ hx))
theorem LamAt.up {q : Str} {params : Arguments} {body : Expr} {scope : Scope} {fr : List Str} {ws : List V} {f D : Addr} {H : Hp} {us : List V} {o : HO} (L : LamAt q params body scope fr ws f H) (e : H D = some (.lst us)) : LamAt q params body scope fr ws f (upd H D o) := by
  obtain ⟨c, cl, g1, g2, C⟩ := L
  have keep : ∀ b o', H b = some o' → (∀ l, o' ≠ .lst l) → upd H D o b = some o' := fun b o' hb n => by
    rw [upd_ne fun z => by rw [z, e] at hb; exact n _ (Option.some.inj hb).symm]
    exact hb
  exact ⟨c, cl, keep _ _ g1 (fun _ z => nomatch z), keep _ _ g2 (fun _ z => by unfold CodeO at z; cases z), ⟨C.len, fun i y z => by
    obtain ⟨c, w, a1, a2, a3⟩ := C.has i y z
    exact ⟨c, w, a1, a2, keep _ _ a3 (fun _ z => nomatch z)⟩, C.all, C.inj⟩⟩
/-- where a recursion ends: nothing is promised -/
theorem DefAt.calF {P : Program} {w : World} {K : PySem.W.Frag} {mg : Str → Option Value} {base : Heap} {x : Str} {st : Stmt} {ps : List Str} {k : Nat} (d : DefAt K mg x st ps) : Cal P w K mg base k x (fun _ _ _ _ => False) := by
  obtain ⟨f, fd, F, hm, b⟩ := d.ex
  exact ⟨f, fd, ps, ⟨fun _ _ _ _ h => h.elim, fun _ _ _ _ _ _ _ _ _ _ _ _ _ h => h.elim⟩, hm, F.kp, b⟩
/-- the tables at the start -/
structure TabsE (K : PySem.W.Frag) (cs : List (Addr × Addr)) (h : Heap) : Prop where
  e : ∀ p ∈ cs, h.get? p.2 = some { cls := .none, data := .fields #[] }
  n : ∀ p ∈ cs, K.lookup p.2 = none
  c : ∀ p ∈ cs, PySem.W.CodeHd h p.1 p.2
theorem TabsE.cons {K : PySem.W.Frag} {mg : Str → Option Value} {x : Str} {cc : Addr} {cs : List (Addr × Addr)} {h : Heap} {ts : List Addr} (X : K.In h) (e : cF K mg x = cc) (ch : PySem.W.codeHdIn K cc (pK K cc) = true) (nk : K.lookup (pK K cc) = none) (mt : ts.contains (pK K cc) = true) (Y : ∀ P ∈ ts, h.get? P = some (PySem.W.tabObj #[])) (r : TabsE K cs h) : TabsE K ((cF K mg x, pF K mg x) :: cs) h := by
  have e2 : pF K mg x = pK K cc := by
    show pK K (cF K mg x) = _
    rw [e]
  rw [e, e2]
  exact ⟨List.forall_mem_cons.mpr ⟨Y _ (by simpa using mt), r.e⟩, List.forall_mem_cons.mpr ⟨nk, r.n⟩, List.forall_mem_cons.mpr ⟨PySem.W.codeHd_of_K X ch, r.c⟩⟩
theorem TabsE.nil {K : PySem.W.Frag} {h : Heap} : TabsE K [] h := ⟨(fun _ h => nomatch h), (fun _ h => nomatch h), (fun _ h => nomatch h)⟩
theorem pF_ne {K : PySem.W.Frag} {mg : Str → Option Value} {x y : Str} {a b : Addr} (e1 : cF K mg x = a) (e2 : cF K mg y = b) (n : (pK K a == pK K b) = false) : pF K mg x ≠ pF K mg y := fun z => by
  have z2 : pK K (cF K mg x) = pK K (cF K mg y) := z
  rw [e1, e2] at z2
  rw [z2] at n
  simp at n
theorem defC_mk {K : PySem.W.Frag} {mg : Str → Option Value} {x : Str} {st : Stmt} {ps : List Str} {f cc : Addr} {oc : Value} {od : Option Addr} {kV doc pm : Value} {an : Option Addr} {ct : Value} {osl : Array (Option Value)} (e : cF K mg x = cc)
    (l : K.lookup f = some ⟨oc, od, .func (PySem.W.fnOf x x (defArgs st) (defBody st) (defScope st) .none kV doc pm an (.ref cc) ct), osl⟩) (c : PySem.W.codeIn K (.ref cc) x = true) (k : PySem.W.keepIn K (.ref f) = true) (hm : mg x = some (.ref f))
    (b : ∀ kV doc pm an cdv ct, ∀ us : List Value, us.length = ps.length → bindArgs (PySem.W.fnOf x x (defArgs st) (defBody st) (defScope st) .none kV doc pm an cdv ct) ⟨us, []⟩ = pure (ps.zip us)) : DefC K mg x st ps := by
  subst e
  exact ⟨f, oc, od, kV, doc, pm, an, ct, osl, l, c, k, hm, .all (b kV doc pm an _ ct)⟩
/-! ### where a lambda stands in a text -/
def stV : Stmt → Expr
  | .Assign _ v _ => v
  | .Return (some e) _ => e
  | _ => .Name "x" ⟨0, 0, 0, 0⟩
/-- the lambda itself, the second of a tuple, the second argument of a call -/
def lamE : Expr → Expr
  | .Tuple es _ _ => es.getD 1 (.Name "x" ⟨0, 0, 0, 0⟩)
  | .Call _ as _ _ => as.getD 1 (.Name "x" ⟨0, 0, 0, 0⟩)
  | e => e
def lamP (st : Stmt) : Expr → Arguments
  | .Lambda p _ _ _ => p
  | _ => defArgs st
def lamB : Expr → Expr
  | .Lambda _ b _ _ => b
  | e => e
def lamS (st : Stmt) : Expr → Scope
  | .Lambda _ _ sc _ => sc
  | _ => defScope st
def lamPos : Expr → Pos
  | .Lambda _ _ _ p => p
  | _ => ⟨0, 0, 0, 0⟩
/-- a comprehension's scope -/
def lcSc : Expr → Scope
  | .ListComp _ _ sc _ => sc
  | .Lambda _ _ sc _ => sc
  | _ => defScope (.Pass ⟨0, 0, 0, 0⟩)
theorem pe_lamE {X : Cx} {T : List (Addr × Str)} {c P : Addr} {q : Str} (st : Stmt) (e : Expr) (h : e = .Lambda (lamP st e) (lamB e) (lamS st e) (lamPos e)) (TB : TabB X.base X.mg c P) (hcode : X.env.code = .ref c) (hq : X.env.qual ++ "<lambda>" = q)
    (hm : (P, q) ∈ T) (hu : ∀ p ∈ T, p.1 = P → p.2 = q) (hdef : defaultsOf (lamP st e) X.env = ([], [])) (hfree : ∀ y ∈ (lamS st e).names, y.2 = .free → X.env.scope.names.lookup y.1 = some .cell ∨ X.env.scope.names.lookup y.1 = some .free) :
    PE X e (tLam T fun c' => ⟨q, lamP st e, lamB e, lamS st e, cloFrom X.env.cells (lamS st e).names [], c'⟩) := by
  rw [h]
  exact pe_lam TB hcode hq hm hu hdef hfree
/-- the free names of a lambda are cells of the def around -/
def freeIn (sc lsc : Scope) : Bool := lsc.names.all fun y => !decide (y.2 = .free) || decide (sc.names.lookup y.1 = some .cell) || decide (sc.names.lookup y.1 = some .free)
theorem freeIn_ok {sc lsc : Scope} (h : freeIn sc lsc = true) : ∀ y ∈ lsc.names, y.2 = .free → sc.names.lookup y.1 = some .cell ∨ sc.names.lookup y.1 = some .free := fun y hy e => by
  unfold freeIn at h
  have := List.all_eq_true.mp h y hy
  simp only [Bool.or_eq_true, Bool.not_eq_true', decide_eq_true_eq, decide_eq_false_iff_not] at this
  rcases this with (z | z) | z
  · exact absurd e z
  · exact .inl z
  · exact .inr z
end Kt

set_option Elab.async false
set_option linter.all false
set_option maxRecDepth 100000
set_option maxHeartbeats 4000000
/-! CntP: xs.count(t) of pairs of ints -/
namespace Kt
open PySem PySem.Spec PyProof.Rows L2
theorem rcAt_shaped {A : Around} {s : Shared} {a b : Value} {da db : PyData} {as bs : List Addr} (ra : Reads s.heap a da as) (rb : Reads s.heap b db bs) (ha : SeqAt.shaped da = true) (hb : SeqAt.shaped db = true) (hu : A.units + 64 < cLine) : SeqAt.RcAt A s a b (PyData.eqv da db) :=
  fun prog w E Q hq => SeqAt.compareEq_shaped ra rb ha hb hu hq
theorem eqAt_shaped {A : Around} {s : Shared} {a b : Addr} {da db : PyData} {as bs : List Addr} (ra : Reads s.heap (.ref a) da as) (rb : Reads s.heap (.ref b) db bs) (ha : SeqAt.shaped da = true) (hb : SeqAt.shaped db = true) (hu : A.units + 64 < cLine) (same : a = b → PyData.eqv da db = true) : SeqAt.EqAt A s (.ref a) (.ref b) (PyData.eqv da db) := by
  by_cases c : a = b
  · rw [same c]
    subst c
    exact SeqAt.EqAt.same _
  · exact .of_refs c (rcAt_shaped ra rb ha hb hu)
/-- the pair of ints that stands at an address -/
def pairAt (h : Heap) : Value → Option (Int × Int)
  | .ref a => match h.get? a with
    | some o => match o.data with
      | .seq its _ => match its.toList with
        | [.int i _, .int j _] => some (i, j)
        | _ => none
      | _ => none
    | none => none
  | _ => none
section
variable {X : Cx} {pins : List (Addr × Obj)} {σ : L2.St} {H : Hp} {s : Shared}
theorem pairAt_of (I : Inv X pins σ H s) {a : Addr} {i j : Int} (h : SqT X.K H a [.int i, .int j]) : pairAt s.heap (.ref a) = some (i, j) := by
  obtain ⟨its, rv, ⟨o, ho, hc, n, hd⟩, _⟩ := I.tuple h
  cases rv with | cons r1 t =>
  cases t with | cons r2 t2 =>
  cases t2
  obtain ⟨t1, rfl⟩ := r1
  obtain ⟨t2, rfl⟩ := r2
  unfold pairAt
  dsimp only
  rw [ho]
  dsimp only
  rw [hd]
def rCntP (K : PySem.W.Frag) : V → List V → Hp → VK → Prop := fun x xs H Q => ∃ (p t : Addr) (us : List V) (ps : List (Int × Int)) (i j : Int), x = .ref p ∧ xs = [.ref t] ∧ SqL K H p us ∧ DpAll K H us (ps.map d2) ∧ SqT K H t [.int i, .int j] ∧ Q (.int (ps.count (i, j) : Nat)) H
theorem eqv_d2 (a b : Int × Int) : PyData.eqv (d2 a) (d2 b) = decide (a = b) := by
  obtain ⟨i, j⟩ := a
  obtain ⟨k, l⟩ := b
  by_cases h1 : i = k <;> by_cases h2 : j = l <;> simp [d2, PyData.eqv, PyData.eqvAll, h1, h2]
theorem hr65 {k : Nat} {A : Around} (r : Room k A) : A.units + 65 < cLine := by
  have := r.un
  omega
theorem mt_cntP (hu : X.A.units + 65 < cLine) : MtR X "list.count" (rCntP X.K) := by
  intro pins s σ H x xs v us Q I rx rxs h
  obtain ⟨p, t, zs, ps, i, j, rfl, rfl, hs, hD, hT, q⟩ := h
  cases rx
  obtain ⟨u, rfl, ru⟩ := rxs.one
  cases ru
  obtain ⟨its, rv, ⟨⟨cls, dd, data, sl⟩, n, ho, hc, hdn, hd⟩, hlen⟩ := I.list hs
  simp only at hc hd
  subst hc hd
  have sh : ∀ a : Int × Int, SeqAt.shaped (d2 a) = true := fun a => (shp_tup (n := 0) (shp_cons shp_int (shp_cons shp_int shp_nil))).ok
  obtain ⟨bs, rT⟩ := Dp.reads I (d2 (i, j)) (.ref t) (.ref t) (.tup hT (.cons (.int _) (.cons (.int _) .nil))) rfl
  have key : ∀ (zs : List V) (its : List Value) (ps : List (Int × Int)), Vals zs its → DpAll X.K H zs (ps.map d2) → (∀ y ∈ its, SeqAt.EqAt X.A.in1 s y (.ref t) (decide (pairAt s.heap y = some (i, j)))) ∧ its.countP (fun y => decide (pairAt s.heap y = some (i, j))) = ps.count (i, j) := by
    intro zs its ps rv
    induction rv generalizing ps with
    | nil =>
      intro hD
      cases ps with
      | nil => exact ⟨(fun _ h => nomatch h), rfl⟩
      | cons a l => cases hD
    | cons r1 rt ih =>
      intro hD
      cases ps with
      | nil => cases hD
      | cons a l =>
        cases hD with | cons h1 h2 =>
        obtain ⟨k1, k2⟩ := ih _ h2
        obtain ⟨b, rfl, hb⟩ := of_d2 h1
        cases r1
        have pa := pairAt_of I hb
        obtain ⟨as, rA⟩ := Dp.reads I (d2 a) (.ref b) (.ref b) h1 rfl
        have e1 : PyData.eqv (d2 a) (d2 (i, j)) = decide (pairAt s.heap (.ref b) = some (i, j)) := by
          rw [eqv_d2, pa]
          by_cases c : a = (i, j)
          · rw [decide_eq_true c, c]
            simp
          · rw [decide_eq_false c, decide_eq_false fun z => c (Option.some.inj z)]
        refine ⟨fun y hy => ?_, ?_⟩
        · rcases List.mem_cons.mp hy with e | e
          · subst e
            have := eqAt_shaped (A := X.A.in1) rA rT (sh a) (sh (i, j)) (by show X.A.units + 1 + 64 < cLine; omega) (fun z => by
              subst z
              have pt := pairAt_of I hT
              rw [pa] at pt
              cases pt
              exact eqv_same (sh _))
            rw [e1] at this
            exact this
          · exact k1 y e
        · rw [List.countP_cons, List.count_cons, k2, pa]
          congr 1
          by_cases c : a = (i, j) <;> simp [c]
  obtain ⟨k1, k2⟩ := key zs its ps rv hD
  refine call_meets PySem.F.slot_list_count ⟨_, ho, rfl⟩ PySem.F.entry_list_count (PySem.F.args_list_count_2 _ _)
    (SeqAt.list_countAt p its.toArray n dd sl (.ref t) (fun y => decide (pairAt s.heap y = some (i, j)))) ⟨ho, fun y hy => k1 y (by simpa using hy), ?_⟩
  refine ⟨.int (ps.count (i, j) : Nat), H, I.tok _, ⟨s.toks, ?_⟩, q⟩
  show Value.int ((its.toArray.toList.countP _ : Nat) : Int) s.toks = Value.int ((ps.count (i, j) : Nat) : Int) s.toks
  rw [show its.toArray.toList = its from rfl, k2]
theorem L_cntP {K : PySem.W.Frag} {H : Hp} {Q : VK} {p t : Addr} {us : List V} {ps : List (Int × Int)} {i j : Int} (h1 : SqL K H p us) (h2 : DpAll K H us (ps.map d2)) (h3 : SqT K H t [.int i, .int j]) (q : Q (.int (ps.count (i, j) : Nat)) H) : rCntP K (.ref p) [.ref t] H Q := ⟨p, t, us, ps, i, j, rfl, rfl, h1, h2, h3, q⟩
end
end Kt

set_option Elab.async false
set_option linter.all false
set_option maxRecDepth 100000
set_option maxHeartbeats 4000000
/-! DtL: dicts with tuple keys: items walked, dict(list of pairs) -/
namespace Kt
open PySem PySem.Spec PyProof.Rows L2
/-- the items of the locked dict at d: each a new pair of the key's own tuple and the value -/
def Itit (d : Addr) (o : Obj) (kvs : List (List L2.Key × V)) : It :=
  ⟨fun i H => H d = some (.frz o (.dT kvs)) ∧ i < kvs.length, fun i H x H' => ∃ (T q : Addr) (k : List L2.Key) (v : V), kvs[i]? = some (k, v) ∧ x = .ref T ∧ H T = none ∧ H q = some (.tup (k.map kV)) ∧ H' = upd H T (.tup [.ref q, v]), fun i H => H d = some (.frz o (.dT kvs)) ∧ kvs.length ≤ i⟩
section
variable {X : Cx} {pins : List (Addr × Obj)} {σ : L2.St} {H : Hp} {s : Shared} {d : Addr} {o : Obj}
theorem frzT2 {kvs : List (List L2.Key × V)} (I : Inv X pins σ H s) (h : H d = some (.frz o (.dT kvs))) :
    (d == sysModules) = false ∧ ∃ (es : Array DictEntry) (ep : Nat), o.data = .dict es ep ∧ DT.Raw s.heap d es ep ∧ es.size = kvs.length ∧
      ∀ (i : Nat) (k : List L2.Key) (v : V), kvs[i]? = some (k, v) → ∃ (en : DictEntry) (q : Addr), es[i]? = some en ∧ en.key = .ref q ∧ RelV v en.val ∧ H q = some (.tup (k.map kV)) := by
  obtain ⟨hd, z, hs, xs, pr, o', es, ep, ho, hx, hdt, he, _⟩ := I.hok d _ h
  rw [hd] at ho
  cases ho
  refine ⟨hs, es, ep, hdt, ⟨o, hd, hx, hdt⟩, ?_, fun i k v e => ?_⟩
  · have l1 : es.size = xs.length := size_of_entries he
    have l2 : kvs.length = xs.length := Paired.length pr
    omega
  · obtain ⟨b, hb, e1, e2, e3⟩ := paired_get pr e
    have q := entry_at he i
    rw [hb] at q
    exact ⟨_, b.2.1, q, rfl, e3, e2⟩
end
section
variable {P : Program} {w : World} {K : PySem.W.Frag} {tg : Expr} {d : Addr} {o : Obj} {es : Array DictEntry} {ep : Nat}
theorem turn_itemsT {kvs : List (List L2.Key × V)} {elts : List Expr} {kk : Nat} {tpos : Pos} (it : Addr) (hod : o.data = .dict es ep) :
    Turn P w K (.Tuple elts kk tpos) (Itit d o kvs) [it] it (fun i h => ∃ ok ov, IsItemIter h it d i kvs.length ep ok ov) where
  mem := by simp
  obj := fun i h st b hb => by
    have e : b = it := by simpa using hb
    subst e
    obtain ⟨ok, ov, e⟩ := st
    exact ⟨_, e, fun v z => nomatch z⟩
  keep := fun i h h' st k => let ⟨ok, ov, e⟩ := st; ⟨ok, ov, k it (by simp) _ e⟩
  item := by
    intro X hP hw hK hc i pins s σ H E I hf st hg
    subst hP hw hK
    obtain ⟨hd, hi⟩ := hg
    obtain ⟨hs, es', ep', hdt, raw, hsz, ent⟩ := frzT2 I hd
    obtain ⟨rfl, rfl⟩ := dict_ep hod hdt
    obtain ⟨⟨k, v⟩, hkv⟩ : ∃ p, kvs[i]? = some p := ⟨kvs[i], List.getElem?_eq_getElem hi⟩
    obtain ⟨en, q, hen, hkey, hval, hq⟩ := ent i k v hkv
    have hi2 : i < es'.size := by omega
    have hen2 : es'[i] = en := by
      rw [Array.getElem?_eq_getElem hi2] at hen
      exact Option.some.inj hen
    obtain ⟨ok, ov, he⟩ := st
    rw [← hsz] at he
    have hlt : it < s.heap.objs.size := Heap.lt_size he
    refine DT.nextI he raw hi2 fun h' ho hT hz hk => ?_
    rw [hen2] at ho hT
    refine ⟨_, rfl, wpAny_letOwnedTupleGo_items (s := { s with heap := h' }) ho fun h'' he' sb => ?_⟩
    have hT2 : h''.get? s.heap.objs.size = some { cls := .type "tuple", data := .seq #[en.key, en.val] } := (sb.2 _ (Nat.ne_of_gt hlt)).trans hT
    have new : ObjOk X.prog X.w (upd H s.heap.objs.size (.tup [.ref q, v])) h'' s.heap.objs.size (.tup [.ref q, v]) :=
      ⟨by show 2 ≤ sizeLine; decide, [en.key, en.val], .cons hkey (.cons hval .nil), ⟨_, hT2, rfl, _, rfl⟩⟩
    have I1 : Inv X pins σ (upd H s.heap.objs.size (.tup [.ref q, v])) { s with heap := h'' } :=
      I.turnedNew (t' := s.toks) (ch := [it]) (fun b ob hb e => (sb.2 b (by simpa using hb)).trans (hk b ob (by simpa using hb) e)) hf (Nat.le_refl _) new
    refine ⟨.ref s.heap.objs.size, _, I1, rfl, ⟨_, q, k, v, hkv, rfl, I.hok.fresh (Nat.le_refl _), hq, rfl⟩, ⟨en.key, en.val, ?_⟩, fun b hb => ?_⟩
    · rw [← hsz]; exact he'
    · have e : b = it := by simpa using hb
      rw [e, upd_ne (Nat.ne_of_lt hlt)]
      exact (hf it (by simp)).1
  done := by
    intro X hP hw hK hc i pins s σ H E I hf st hg
    subst hP hw hK
    obtain ⟨hd, hi⟩ := hg
    obtain ⟨f0, f1, f2, f3, f4, f5⟩ := hf it (by simp)
    obtain ⟨hs, es', ep', hdt, raw, hsz, ent⟩ := frzT2 I hd
    obtain ⟨rfl, rfl⟩ := dict_ep hod hdt
    obtain ⟨ok, ov, he⟩ := st
    rw [← hsz] at he
    exact DT.endI (I.ok.hd hc) he raw (by omega) fun h' eb => ⟨rfl, I.turned (t' := s.toks) (fun b ob hb e => eb b ob hb e) f0 f1 f3 f4 f5⟩
  self := fun A i s Q E st h => let ⟨_, _, e⟩ := st; PySem.W.kcp_self e h
end
def iItemsT (td : TE) : TI := fun σ H R => td σ H fun x H1 => ∃ d o kvs, x = .ref d ∧ H1 d = some (.frz o (.dT kvs)) ∧ R (Itit d o kvs) H1
section
variable {X : Cx} {tg e : Expr} {td : TE} {apos cpos : Pos}
theorem pi_itemsT {elts : List Expr} {kk : Nat} {tpos : Pos} (he : PE X e td) (hbase : attributeBase e "items" X.env (eval e X.env) = eval e X.env := by rfl) (hline : (apos.endLine == cpos.line) = true := by rfl) :
    PI X (.Tuple elts kk tpos) (.Call (.Attribute e "items" apos) [] [] cpos) (iItemsT td) := by
  refine ⟨fun pins s σ H R I h => ?_⟩
  refine wpAny_Call_method (T := "dict") (id := "dict.items") hbase rfl hline F.plainAttrs_dict F.slot_dict_items F.type_dict_items (thn (he.run pins s σ H _ I h) fun u s1 ⟨x, H1, I1, rx, d, o, kvs, ex, hd, q⟩ => ?_)
  subst ex
  obtain rfl : u = Value.ref d := rx
  obtain ⟨hs, es, ep, hdt, raw, hsz, ent⟩ := frzT2 I1 hd
  refine ⟨raw.typeIs, (fun b hb => by cases hb; obtain ⟨o', ho', hx', _⟩ := raw; exact ⟨o', ho', hx'.2.1⟩), ?_⟩
  have I2 : Inv X pins σ H1 { s1 with heap := s1.heap.push { cls := .type "dict_items", data := .fields #[.ref d] } } := I1.kept (t' := s1.toks) fun b ob q => Heap.get?_push_of_some _ q
  have fin : wpAny (model X.prog X.w) X.A (pyIter (.ref s1.heap.objs.size)) (PIE X pins σ (.Tuple elts kk tpos) R) X.xe { s1 with heap := s1.heap.push { cls := .type "dict_items", data := .fields #[.ref d] } } := by
    refine DT.iterI (d := d) ⟨_, Heap.get?_push_size _ rfl, rfl, rfl⟩ (raw.push _) (pi_one (tk := s1.toks) I2 _ (turn_itemsT _ hdt) ⟨.none, .none, ?_⟩ q)
    rw [← hsz]
    exact Heap.get?_push_size _ rfl
  show wpAny _ _ (callWith cpos (.builtin "dict.items") [.ref d] [] []) _ X.xe s1
  exact method_meetsIn F.slot_dict_items F.entry_dict_items rfl (PySem.evalArgs_none ⟨rfl, raw.typeIs, F.args_dict_items_1 _, _, DT.meetsItems hs, ⟨raw, fin⟩⟩)
end
theorem walk_itemsT {d : Addr} {o : Obj} {kvs : List (List L2.Key × V)} : Walk (Itit d o kvs) kvs.length (fun H => H d = some (.frz o (.dT kvs)))
    (fun i H x H' => ∃ (T q : Addr) (k : List L2.Key) (v : V), kvs[i]? = some (k, v) ∧ x = .ref T ∧ H T = none ∧ H q = some (.tup (k.map kV)) ∧ H' = upd H T (.tup [.ref q, v])) :=
  ⟨fun _ _ hi q => ⟨q, hi⟩, fun _ q => ⟨q, Nat.le_refl _⟩, fun _ _ _ _ _ _ y => y⟩
theorem L_iItemsT {td : TE} {σ : L2.St} {H : Hp} {R : It → Hp → Prop} (h : td σ H fun x H1 => ∃ d o kvs, x = .ref d ∧ H1 d = some (.frz o (.dT kvs)) ∧ R (Itit d o kvs) H1) : iItemsT td σ H R := h
/-! ### dict(list of pairs), keys tuples -/
def allK (kvs : List (List L2.Key × V)) : List (List L2.Key × V) := kvs.foldl (fun acc p => putK acc p.1 p.2) []
def PairK (H : Hp) (u : V) (p : List L2.Key × V) : Prop := ∃ T q, u = .ref T ∧ H T = some (.tup [.ref q, p.2]) ∧ H q = some (.tup (p.1.map kV))
def rDictT : List V → Hp → VK → Prop := fun xs H Q => ∃ (a : Addr) (us : List V) (kvs : List (List L2.Key × V)), xs = [.ref a] ∧ H a = some (.lst us) ∧ Paired (PairK H) us kvs ∧ ∀ d, H d = none → Q (.ref d) (upd H d (.dT (allK kvs)))
theorem kt_all {H : Hp} : ∀ (kvs : List (List L2.Key × V)) (ps : List (List L2.Key × Addr × Value)) (acc : List (List L2.Key × V)) (xs : List (List L2.Key × Addr × Value)), KT H kvs ps → KT H acc xs → KT H (kvs.foldl (fun acc p => putK acc p.1 p.2) acc) (storedAllH xs ps)
  | _, _, acc, xs, .nil, h => h
  | _, _, acc, xs, .cons (a := p) (b := b) h1 t, h => by
    unfold storedAllH
    rw [List.foldl_cons, List.foldl_cons]
    have e : b.1 = p.1 := h1.1.symm
    have h2 := h.put p.1 (b := b.2.1) h1.2.1 h1.2.2
    rw [← e] at h2
    rw [← e]
    exact kt_all _ _ _ _ t h2
theorem putT_len {kvs : List (List L2.Key × V)} {k : List L2.Key} {v : V} : (putK kvs k v).length ≤ kvs.length + 1 := by
  unfold putK
  split
  · rw [List.length_map]
    omega
  · rw [List.length_append]
    exact Nat.le_refl _
theorem allK_len : ∀ (kvs acc : List (List L2.Key × V)), (kvs.foldl (fun acc p => putK acc p.1 p.2) acc).length ≤ acc.length + kvs.length
  | [], acc => Nat.le_refl _
  | p :: kvs, acc => by
    have h1 := allK_len kvs (putK acc p.1 p.2)
    have h2 := putT_len (kvs := acc) (k := p.1) (v := p.2)
    rw [List.foldl_cons, List.length_cons]
    omega
def adr : V → Addr
  | .ref T => T
  | _ => 0
theorem call_dictT {X : Cx} (calm : X.calm = true) (hu : X.A.units + 65 < cLine) : CallR X (.type "dict") rDictT := by
  intro pins s σ H xs us Q I r h
  obtain ⟨a, zs, kvs, rfl, ha, hp, q⟩ := h
  rw [Vals.ref1 r]
  obtain ⟨hl, its, n, rv, ho⟩ := (show ObjOk X.prog X.w H s.heap a (.lst zs) from I.hok a _ ha)
  -- the keys and the values as they stand
  have key : ∀ {zs : List V} {its : List Value} {kvs : List (List L2.Key × V)}, Vals zs its → Paired (PairK H) zs kvs → ∃ ps : List (List L2.Key × Addr × Value), KT H kvs ps ∧ its.length = ps.length ∧ ∀ (j : Nat) (k : List L2.Key) (b : Addr) (v : Value), ps[j]? = some (k, b, v) → ∃ T : Addr, zs[j]? = some (V.ref T) ∧ its[j]? = some (Value.ref T) ∧ IsTup s.heap T #[.ref b, v] := by
    intro zs its kvs rv hp
    induction hp generalizing its with
    | nil =>
      cases rv
      exact ⟨[], .nil, rfl, fun j k b v z => by simp at z⟩
    | @cons u p zs kvs h1 t ih =>
      cases rv with | @cons _ v0 _ its r1 r2 =>
      obtain ⟨ps, k1, k2, k3⟩ := ih r2
      obtain ⟨T, q0, rfl, e1, e2⟩ := h1
      cases (show v0 = Value.ref T from r1)
      obtain ⟨_, it2, rv2, o2, g1, g2, g3⟩ := (show ObjOk X.prog X.w H s.heap T (.tup [.ref q0, p.2]) from I.hok T _ e1)
      cases rv2 with | @cons _ w1 _ _ r3 r4 =>
      cases r4 with | @cons _ w2 _ _ r5 r6 =>
      cases r6
      cases (show w1 = Value.ref q0 from r3)
      refine ⟨(p.1, q0, w2) :: ps, .cons ⟨rfl, e2, r5⟩ k1, by rw [List.length_cons, List.length_cons, k2], fun j k b v z => ?_⟩
      cases j with
      | zero =>
        simp only [List.getElem?_cons_zero, Option.some.injEq, Prod.mk.injEq] at z
        obtain ⟨rfl, rfl, rfl⟩ := z
        exact ⟨T, rfl, rfl, o2, g1, g2, g3⟩
      | succ j =>
        simp only [List.getElem?_cons_succ] at z ⊢
        exact k3 j k b v z
  obtain ⟨ps, k1, k2, k3⟩ := key rv hp
  have lk : kvs.length = ps.length := Paired.length k1
  have lz : zs.length = kvs.length := Paired.length hp
  have lps : ps.length ≤ sizeLine := by omega
  refine call_dict_pairsH (knd := tupleKind (mixKind X.prog X.w)) (ps := ps) (PairArg.list a its.toArray (fun j => adr (zs[j]?.getD .non)) (ps.map fun p => (Value.ref p.2.1, p.2.2))) (I.ok.hd calm) (show X.A.units + 1 + 1 < cLine by omega) ⟨⟨_, n, ho, rfl, rfl, rfl⟩, by simp [k2], fun j k v hj => ?_⟩ ⟨(List.length_map _).symm, fun i key v hi => ?_⟩ (fun h' hk x hx => ?_) (by rw [List.length_map]; exact lps) fun h' tk hd hk => ?_
  · rw [List.getElem?_map] at hj
    obtain ⟨p, hp1, hp2⟩ := Option.map_eq_some_iff.mp hj
    cases hp2
    obtain ⟨T, z1, z2, z3⟩ := k3 j p.1 p.2.1 p.2.2 hp1
    have za : adr (zs[j]?.getD .non) = T := by rw [z1]; rfl
    show its.toArray[j]? = some (Value.ref (adr (zs[j]?.getD .non))) ∧ PairAt s.heap (adr (zs[j]?.getD .non)) _ _
    rw [za]
    exact ⟨by simpa using z2, .inl z3⟩
  · rw [PairRel, List.getElem?_map] at hi
    obtain ⟨p, hp1, hp2⟩ := Option.map_eq_some_iff.mp hi
    cases hp2
    exact ⟨p.1, p.2.1, hp1, rfl⟩
  · have all : ∀ {l : List (List L2.Key × V)} {m : List (List L2.Key × Addr × Value)}, KT H l m → ∀ x ∈ m, H x.2.1 = some (.tup (x.1.map kV)) := by
      intro l m q
      induction q with
      | nil => intro x hx; exact nomatch hx
      | @cons p q ps qs hq t ih =>
        intro x hx
        rcases List.mem_cons.mp hx with e | hx
        · subst e
          rw [← hq.1]
          exact hq.2.1
        · exact ih x hx
    have e := all k1 x hx
    obtain ⟨o, it, m, g1, g2, g3, g4⟩ := (show IsTupleKey (mixKind X.prog X.w) s.heap x.1 x.2.1 from key_of I.hok e)
    exact ⟨o, it, m, hk _ _ (fun z => by rw [z] at g1; exact absurd (Heap.lt_size g1) (Nat.lt_irrefl _)) (by simp) g1, g2, g3, g4⟩
  · have hn : H s.heap.objs.size = none := I.hok.fresh (Nat.le_refl _)
    have h1 := kt_all kvs ps [] [] k1 .nil
    have l1 := allK_len kvs []
    have hsys : (s.heap.objs.size == sysModules) = false := by
      have := I.big
      simpa using Nat.ne_of_gt this
    have h2 : KT (upd H s.heap.objs.size (.dT (allK kvs))) (allK kvs) (storedAllH [] ps) := KT.keeps h1 fun b ys e => by rw [upd_ne (ne_of_none e hn)]; exact e
    obtain ⟨o, es, ep, z1, z2, z3, z4, _, z5⟩ := hd
    exact ⟨.ref _, _, I.laid (o := .dT (allK kvs)) (t' := tk) (fun b u e => hk b u (by simp) e) (Nat.le_refl _) ⟨by
      show (allK kvs).length ≤ sizeLine
      unfold allK
      rw [List.length_nil] at l1
      omega, hsys, _, h2, o, es, ep, z1, z2, z3, z4, z5⟩, rfl, q _ hn⟩
/-! ### {(..): v, ..}: keys tuples -/
theorem dict_pairsHA {prog : Program} {w : World} {K : Type} [DecidableEq K] {knd : HeapKind prog w K} {A : Around} {E : Value → Shared → Prop} {s : Shared} {env : Env} {keys : List (Option Expr)} {values : List Expr} {pos : Pos} {pairs : List (Sem Value × Sem Value)} {Q : Value → Shared → Prop} (hu : knd.room A)
    (hshape : (evalEachOpt keys env).zip ((evalEach values env).map fun v => do let x ← v; standAt pos; pure x) = pairs.map fun p => (some p.1, p.2)) (h0 : pairs ≠ []) (hlen : pairs.length ≤ 15)
    (h : wpAny (model prog w) A (evalPairs pairs) (fun vs s₁ => ∃ ps, CarriesH knd s₁.heap vs ps ∧ s₁.heap.DictOfH knd s.heap.objs.size [] ∧
      ∀ h' tk, h'.DictOfH knd s.heap.objs.size (storedAllH [] ps) → Heap.SameBut s.heap.objs.size s₁.heap h' → Q (.ref s.heap.objs.size) { s₁ with heap := h', toks := tk }) E
      { s with heap := s.heap.push { cls := .type "dict", data := .dict #[] } }) :
    wpAny (model prog w) A (eval (.Dict keys values pos) env) Q E s := by
  rw [arm_eval_Dict, hshape, dictDisplay_pairs pairs h0 (by omega)]
  exact wpAny_bind (wpAny_standAt (wpAny_bind (wpAny_subDictH (knd := knd) (Q := fun d s' => wpAny (model prog w) A (pure (Value.ref d)) Q E s') hu hlen
    (wpAny_mono h (fun vs s₁ h₁ => by obtain ⟨ps, hc, hm, hq⟩ := h₁; exact ⟨ps, hc, hm, fun h' tk a b => wpAny_pure (hq h' tk a b)⟩) fun _ _ e => e))))
def tDispT (trs : List (TE × TE)) : TE := fun σ H Q => ∀ p, H p = none → tPairs trs σ (upd H p (.dT [])) fun ps H2 => H2 p = some (.dT []) ∧ ∃ kvs : List (List L2.Key × V), Paired (fun (q : V × V) (kv : List L2.Key × V) => ∃ b, q = (.ref b, kv.2) ∧ H2 b = some (.tup (kv.1.map kV))) ps kvs ∧ kvs.length ≤ 15 ∧ Q (.ref p) (upd H2 p (.dT (allK kvs)))
theorem carriesT {X : Cx} {pins : List (Addr × Obj)} {σ : L2.St} {H : Hp} {s : Shared} (I : Inv X pins σ H s) : ∀ {ps : List (V × V)} {kvs : List (List L2.Key × V)} {ws : List (Value × Value)}, VV ps ws → Paired (fun (q : V × V) (kv : List L2.Key × V) => ∃ b, q = (.ref b, kv.2) ∧ H b = some (.tup (kv.1.map kV))) ps kvs → ∃ rs, CarriesH (tupleKind (mixKind X.prog X.w)) s.heap ws rs ∧ KT H kvs rs
  | _, _, _, .nil, .nil => ⟨[], True.intro, .nil⟩
  | _, _, _, .cons (a := a) (b := b) r1 r2, .cons (b := kv) ⟨q, e, hq⟩ t => by
    obtain ⟨rs, c, k⟩ := carriesT I r2 t
    subst e
    obtain ⟨b1, b2⟩ := b
    obtain ⟨z1, z2⟩ := r1
    cases (show b1 = Value.ref q from z1)
    exact ⟨(kv.1, q, b2) :: rs, ⟨rfl, rfl, key_of I.hok hq, c⟩, .cons ⟨rfl, hq, z2⟩ k⟩
theorem pe_dispT {X : Cx} {pos : Pos} {keys : List (Option Expr)} {values : List Expr} {trs : List (TE × TE)} (hu : X.A.units + 1 < cLine) (h : PPs X pos keys values trs) (hall : keys.all (·.isSome) = true) (hl : keys.length = values.length) (h0 : keys ≠ [])
    (h15 : keys.length ≤ 15) : PE X (.Dict keys values pos) (tDispT trs) := by
  refine ⟨fun pins s σ H Q I q => ?_⟩
  have hn := I.hok.fresh (Nat.le_refl s.heap.objs.size)
  have I1 := I.laid (a := s.heap.objs.size) (o := .dT []) (h' := s.heap.push { cls := .type "dict", data := .dict #[] }) (t' := s.toks) (fun _ _ q => Heap.get?_push_of_some _ q) (Nat.le_refl _) (dt_empty s.heap I.big)
  have pl := pairTrees_length keys values X.env pos hall hl
  refine dict_pairsHA (knd := tupleKind (mixKind X.prog X.w)) (pairs := pairTrees keys values X.env pos) (show X.A.units < cLine by omega) (zip_pairTrees keys values X.env pos hall hl) (fun he => by
    rw [he] at pl
    exact h0 (List.length_eq_zero_iff.mp pl.symm)) (by rw [pl]; exact h15) (thn (h.run pins _ σ _ _ I1 (q _ hn)) fun ws s2 ⟨ps, H2, I2, rel, e, kvs, hp, lk, q2⟩ => ?_)
  obtain ⟨rs, c, rk⟩ := carriesT I2 rel hp
  obtain ⟨z, hd, vs0, r0, dd⟩ := dt_of I2.hok e
  cases r0
  refine ⟨rs, c, dd, fun h' tk dd' hs => ⟨.ref s.heap.objs.size, _, ?_, rfl, q2⟩⟩
  have hz := allK_len kvs []
  have he : ∃ q, h'.get? s.heap.objs.size = some q := let ⟨q, _, _, hq, _⟩ := dd'; ⟨q, hq⟩
  have h1 := kt_all kvs rs [] [] rk .nil
  obtain ⟨o, es, ep, z1, z2, z3, z4, _, z5⟩ := dd'
  exact d_write I2 (by rw [e]; exact True.intro) hs he (ob := .dT (allK kvs)) ⟨by
    show (allK kvs).length ≤ sizeLine
    unfold allK
    rw [sizeLine_eq]
    rw [List.length_nil] at hz
    omega, hd, _, KT.keeps h1 fun b ys eb => by rw [upd_ne (fun z => by rw [z, e] at eb; cases eb)]; exact eb, o, es, ep, z1, z2, z3, z4, z5⟩
/-! ### short words -/
section
variable {σ : L2.St} {H : Hp} {Q : VK} {td ty tx tv : TE} {a b : Addr} {kvs : List (List L2.Key × V)} {k : List L2.Key} {v : V} {y : V}
theorem L_isdT {R : Addr → Prop} (h : H a = some (.dT kvs)) (q : R a) : ∃ a', V.ref a = .ref a' ∧ IsD H a' ∧ R a' := ⟨a, rfl, .inr ⟨kvs, .inl h⟩, q⟩
theorem L_dgT {R : Option V → Prop} (h : H a = some (.dT kvs)) (hb : H b = some (.tup (k.map kV))) (q : R (valV kvs k)) : ∃ o, DGet H a (.ref b) o ∧ R o := ⟨_, DGet.t h hb, q⟩
theorem L_isdK {R : Addr → Prop} {kvs : List (L2.Key × V)} (h : H a = some (.dK kvs)) (q : R a) : ∃ a', V.ref a = .ref a' ∧ IsD H a' ∧ R a' := ⟨a, rfl, .inl ⟨kvs, .inl h⟩, q⟩
theorem L_dgK {R : Option V → Prop} {kvs : List (L2.Key × V)} {k : L2.Key} (e : y = kV k) (h : H a = some (.dK kvs)) (q : R (valV kvs k)) : ∃ o, DGet H a y o ∧ R o := ⟨_, by rw [e]; exact DGet.k h, q⟩
theorem L_dputT {R : Hp → Prop} (h : H a = some (.dT kvs)) (hb : H b = some (.tup (k.map kV))) (hl : kvs.length < 1000000) (q : R (upd H a (.dT (putK kvs k v)))) : ∃ a' H4, V.ref a = .ref a' ∧ DPut H a' (.ref b) v H4 ∧ R H4 := ⟨a, _, rfl, DPut.t h hb (sz_lt hl), q⟩
theorem L_dictT {us : List V} (h : H a = some (.lst us)) (hp : Paired (PairK H) us kvs) (q : ∀ d, H d = none → Q (.ref d) (upd H d (.dT (allK kvs)))) : rDictT [.ref a] H Q := ⟨a, us, kvs, rfl, h, hp, q⟩
end
theorem L_dispT1 {σ : L2.St} {H : Hp} {Q : VK} {tk tv : TE} (h : ∀ p, H p = none → tk σ (upd H p (.dT [])) fun x H1 => tv σ H1 fun y H2 => H2 p = some (.dT []) ∧ ∃ kvs : List (List L2.Key × V), Paired (fun (q : V × V) (kv : List L2.Key × V) => ∃ b, q = (.ref b, kv.2) ∧ H2 b = some (.tup (kv.1.map kV))) [(x, y)] kvs ∧ kvs.length ≤ 15 ∧ Q (.ref p) (upd H2 p (.dT (allK kvs)))) : tDispT [(tk, tv)] σ H Q := h
theorem allK_nd {kvs : List (List L2.Key × V)} (h : (kvs.map (·.1)).Nodup) : allK kvs = kvs := by
  have key : ∀ (kvs acc : List (List L2.Key × V)), ((acc ++ kvs).map (·.1)).Nodup → kvs.foldl (fun acc p => putK acc p.1 p.2) acc = acc ++ kvs := by
    intro kvs
    induction kvs with
    | nil => intro acc _; rw [List.append_nil]; rfl
    | cons p kvs ih =>
      intro acc n
      rw [List.foldl_cons]
      have e : putK acc p.1 p.2 = acc ++ [p] := by
        unfold putK
        rw [if_neg]
        intro z
        rw [List.any_eq_true] at z
        obtain ⟨q, hq, e⟩ := z
        rw [List.map_append, List.map_cons, List.nodup_append] at n
        exact n.2.2 q.1 (List.mem_map_of_mem hq) p.1 List.mem_cons_self (of_decide_eq_true e)
      rw [e, ih (acc ++ [p]) (by rw [List.append_assoc]; exact n), List.append_assoc]
      rfl
  exact key kvs [] h
theorem PairK.same {H H' : Hp} {u : V} {p : List L2.Key × V} (h : PairK H u p) (s : Same H H') : PairK H' u p := by
  obtain ⟨T, q, e, h1, h2⟩ := h
  exact ⟨T, q, e, s _ _ h1, s _ _ h2⟩
theorem PairK.mu {H : Hp} {u : V} {p : List L2.Key × V} {D : Addr} {us : List V} {o : HO} (h : PairK H u p) (e : H D = some (.lst us)) : PairK (upd H D o) u p := by
  obtain ⟨T, q, e1, h1, h2⟩ := h
  exact ⟨T, q, e1, by rw [upd_ne fun z => by rw [z, e] at h1; cases h1]; exact h1, by rw [upd_ne fun z => by rw [z, e] at h2; cases h2]; exact h2⟩
theorem L_disp2 {σ : L2.St} {H : Hp} {Q : VK} {ta tb tc td : TE} (h : ∀ p, H p = none → ta σ (upd H p (.dK [])) fun k H1 => tb σ H1 fun v H2 => tc σ H2 fun k2 H3 => td σ H3 fun v2 H4 => H4 p = some (.dK []) ∧ ∃ kvs : List (L2.Key × V), [(k, v), (k2, v2)] = kvs.map (fun kv => (kV kv.1, kv.2)) ∧ kvs.length ≤ 15 ∧ Q (.ref p) (upd H4 p (.dK (mergeK [] kvs)))) : tDisp [(ta, tb), (tc, td)] σ H Q := h
end Kt

set_option Elab.async false
set_option linter.all false
set_option maxRecDepth 100000
set_option maxHeartbeats 4000000
/-! Hotx: methods that raise exceptions without a context; one with its own __init__ raised from None in an except suite -/
namespace Kt
open PySem PySem.Spec PyProof.Rows L2
structure MetN (P : Program) (w : World) (K : PySem.W.Frag) (mg : Str → Option Value) (base : Heap) (k : Nat) (C : Addr) (m : Str) (sp : Sp) : Prop where
  ex : ∃ (f : Addr) (fd : FuncData) (ps : List Str), Cls K C ∧ Meth K C m f ∧ FnOk P w K mg base (L2N.CX P w) k f fd ps sp ∧ Binds K fd ps []
structure XMakH (P : Program) (w : World) (K : PySem.W.Frag) (mg : Str → Option Value) (base : Heap) (k : Nat) (x : Str) (C : Addr) (sp : Sp) : Prop where
  ex : ∃ (f : Addr) (fd : FuncData) (ps : List Str), L2H.FnH P w K mg base CX0 k f fd ps sp ∧ PySem.W.findIn K (.ref C) "__init__" = some (some (.ref f)) ∧ PySem.W.typeIn K (.ref f) = some (.type "function") ∧ mg x = some (.ref C) ∧ Binds K fd ps []
section
variable {P : Program} {w : World} {K : PySem.W.Frag} {mg : Str → Option Value} {base : Heap}
theorem MethAt.metN {C : Addr} {m qual : Str} {st : Stmt} {N ps : List Str} {k : Nat} {sp : Sp} (c : Cls K C) (d : MethAt K C m qual st ps) (S : FnScope N ps (defScope st)) (len : ∀ vs H Q E, sp vs H Q E → vs.length = ps.length)
    (hbody : ∀ (f : Addr) (cdv : Value) (A : Around) (outer : List Env) (s : Shared) (H : Hp) (vs : List V) (Q : VK) (E : XK), Room k (A.deeper (envOfC qual (defScope st) s.heap.objs.size f cdv)) → sp vs H Q E →
      ∃ t, PSs (cxOf (L2N.CX P w) P w K mg base N qual (defScope st) f cdv A outer s H E) (defBody st) t ∧ t { nx := fun _ H' => Q .non H', rt := Q } (start N vs) H) : MetN P w K mg base (k + 1) C m sp := by
  obtain ⟨f, fd, F, hm, b⟩ := d.ex
  refine ⟨f, fd, ps, c, hm, ?_, b⟩
  obtain ⟨oc, od, kV, dc, pm, an, cv, ct, sl, rfl, at_, code⟩ := F.ex
  exact fn_of at_ code S len (hbody f cv)
theorem XIniAt.xmakH {x : Str} {C : Addr} {qual : Str} {st : Stmt} {N ps : List Str} {k : Nat} {sp : Sp} (hx : mg x = some (.ref C)) (d : XIniAt K C qual st ps) (S : FnScope N ps (defScope st)) (len : ∀ vs H Q E, sp vs H Q E → vs.length = ps.length)
    (hbody : ∀ (f : Addr) (cdv : Value) (A : Around) (outer : List Env) (s : Shared) (H : Hp) (vs : List V) (Q : VK) (E : XK) (p : Addr × Obj), L2H.RoomH k (A.deeper (envOfC qual (defScope st) s.heap.objs.size f cdv)) → sp vs H Q E →
      ∃ t, PSs (L2H.cxH CX0 P w K mg base N qual (defScope st) f cdv A outer s H E p) (defBody st) t ∧ t { nx := fun _ H' => Q .non H', rt := Q } (start N vs) H) : XMakH P w K mg base (k + 1) x C sp := by
  obtain ⟨f, fd, F, h1, h2, b⟩ := d.ex
  refine ⟨f, fd, ps, ?_, h1, beq_iff_eq.mp h2, hx, b⟩
  obtain ⟨oc, od, kV, dc, pm, an, cv, ct, sl, rfl, at_, code⟩ := F.ex
  exact L2H.fn_ofH at_ code S len fun A outer s H vs Q E p _ hr h => hbody f cv A outer s H vs Q E p hr h
theorem cxH_K {N : List Str} {qual : Str} {scope : Scope} {f : Addr} {cd : Value} {A : Around} {outer : List Env} {s : Shared} {H : Hp} {E : XK} {p : Addr × Obj} : (L2H.cxH CX0 P w K mg base N qual scope f cd A outer s H E p).K = K := rfl
end
section
variable {X : Cx} {k j : Nat} {C : Addr} {x m : Str} {sp : Sp} {p pos apos : Pos} {e o : Expr} {es : List Expr} {ta : TE} {t : TA} {E : L2.St → XK}
theorem passNN {X : Cx} (σ : L2.St) : PassesAt (L2N.CX X.prog X.w) X σ ((fun _ => E0) σ) := fun _ _ _ _ _ _ c => by
  obtain ⟨_, _, _, _, _, _, _, _, _, _, _, _, z⟩ := c
  exact z.elim
theorem pe_nMt {pl : Sem Bool} (c : MetN X.prog X.w X.K X.mg X.base k C m sp) (hr : Room j X.A) (hk : k ≤ j) (hx : ∀ σ, PassesAt (L2N.CX X.prog X.w) X σ (E σ)) (he : PE X o ta) (ha : PA X (e :: es) t)
    (hst : starEach (e :: es) X.env = (false, eval e X.env) :: starEach es X.env := by rfl) (hpl : (backTo pos (starEach es X.env)).any (·.1) = false := by rfl)
    (ht : eval (.Call (.Attribute o m apos) (e :: es) [] pos) X.env = (do
      let ov ← eval o X.env
      standAt apos.atName
      let (f, first) ← holding [ov] (getMethod ov m pl)
      callWith pos f first (backTo pos (starEach (e :: es) X.env)) (backToKw pos (keywordEach [] X.env))) := by rfl) :
    PE X (.Call (.Attribute o m apos) (e :: es) [] pos) (tMethE C m sp E ta t) := by
  obtain ⟨f, fd, ps, hc, hm, F, hb⟩ := c.ex
  constructor
  intro pins s σ H Q I h
  refine PySem.W.methodCall_KW (pl := pl) (thn (he.run pins s σ H _ I h) ?_) ht
  rintro u s1 ⟨_, H1, I1, ru, a, dx, fs, rfl, ea, l, q⟩
  obtain rfl : u = Value.ref a := ru
  refine getmeth_ok I1 ea hc hm l ?_
  refine PySem.W.callWith_K (first := [.ref a]) (h₀ := X.base) I.ok.mod.kin hm.kp (thn (ha.run pos pins s1 σ H1 _ I1 q) ?_) hst hpl
  rintro us s2 ⟨vs, H2, I2, r, q2⟩
  exact ⟨I2.kIn, run_fnS (us := .ref a :: us) (vs := .ref a :: vs) F (hr.mono hk) hb (hx σ) I2 (.cons rfl r) q2⟩
end
section
variable {X : Cx} {k j : Nat} {C : Addr} {x : Str} {sp : Sp} {p pos : Pos} {e : Expr} {es : List Expr} {ta : TA}
/-- such an exception made where none is handled: it bears no context -/
theorem pmkN_x (c : XMak X.prog X.w X.K X.mg X.base k x C sp) (T : OexC X.K C) (hr : Room j X.A) (hk : k + 1 ≤ j) (hg : Gl X x) (ha : PA X (e :: es) ta)
    (hdb : (x == ("__debug__" : Str)) = false := by decide) (he : starEach (e :: es) X.env = (false, eval e X.env) :: starEach es X.env := by rfl) (hpl : (backTo pos (starEach es X.env)).any (·.1) = false := by rfl) :
    L2N.PMk X (.Call (.Name x p) (e :: es) [] pos) (tMkO C sp [] ta) := by
  obtain ⟨fi, fd, ps, F, find, ty, named, binds⟩ := c.ex
  intro pins s σ H Q I h
  obtain ⟨_, _, _, _, refs, _, _, _, _, _, _, _, _, _, _, clsAt, refsOk⟩ := T.cls
  refine wpAny_Call_Name_kw (ld_glob I hg named ?_ hdb)
  refine PySem.W.callWith_K (h₀ := X.base) I.ok.mod.kin T.kC (thn (ha.run pos pins s σ H _ I h) ?_) he hpl
  rintro us ⟨hp, gs, dr, tk, os⟩ ⟨vs, H1, I1, rv, few, asked⟩
  refine ⟨I1.kIn, ?_⟩
  show wpAny _ _ (call (.ref C) us) _ _ _
  have past : hp.objs.size ≤ hp.objs.size + 1 := Nat.le_succ _
  have asked := asked (hp.objs.size + 1) (I1.hok.fresh past)
  rw [List.append_nil] at asked
  have stays : ∀ b o, hp.get? b = some o → ((hp.push (PySem.W.kdv_tup us)).push (PySem.HandSPX.excO C hp.objs.size)).get? b = some o :=
    fun b o e => Heap.get?_push_of_some _ (Heap.get?_push_of_some _ e)
  have there : ((hp.push (PySem.W.kdv_tup us)).push (PySem.HandSPX.excO C hp.objs.size)).get? (hp.objs.size + 1) = some (PySem.HandSPX.excO C hp.objs.size) := by
    heap_get
  have J := I1.laid (t' := tk) (o := exo (hp.objs.size + 1) C none) stays past (exo_ok there)
  have args : Vals (V.ref (hp.objs.size + 1) :: vs) (Value.ref (hp.objs.size + 1) :: us) := .cons rfl rv
  have many : (Value.ref (hp.objs.size + 1) :: us).length = ps.length := args.length.symm.trans (F.len _ _ _ _ asked)
  have bound := binds _ (Value.ref (hp.objs.size + 1) :: us) J.kIn (by rw [List.append_nil]; exact many)
  rw [List.append_nil] at bound
  have fits : us.length ≤ sizeLine := by
    have := Paired.length rv
    have := sizeLine_eq
    omega
  have room : Room (k + 1) X.A := hr.mono hk
  refine wpAny_call (PySem.HandSPX.call_own PySem.F.excBase_ValueError (fun Y => PySem.HandSPX.refsVE_contains Y refs refsOk) (I1.kIn _ _ clsAt) (PySem.W.looks_findIn I1.kIn find) (fun self => PySem.W.bind_fn I1.kIn self ty) fits ?_)
  refine codeAny_mono (F.run _ X.stack _ _ ⟨Value.ref (hp.objs.size + 1) :: us, []⟩ _ _ _ (fun _ _ _ => False) (room.make C us []) (J.env0.make C us []) bound args asked) fun out s' ho => ?_
  match out, ho with
  | .error _, ho => exact ho.elim
  | .ok .next, ho => exact ho.elim
  | .ok .brk, ho => exact ho.elim
  | .ok .cont, ho => exact ho.elim
  | .ok (.ret u), ho =>
    obtain ⟨v, H2, os2, bare2, un2, hok2, ru, hv, d, fs, ea, ed, free, q⟩ := ho
    subst hv
    obtain ⟨h2, g2, d2, t2, os'⟩ := s'
    obtain ⟨t0, G, J2, sub, gone, obj, na⟩ := mk_end0 (d2 := d2) (t2 := t2) I1 past stays un2 hok2 os2 bare2 ea ed free
    exact ⟨ru, hp.objs.size + 1, _, _, ⟨G, g2, d2, t2, os'⟩, _, .ref C, some d, rfl, J2, sub, gone, obj, ⟨rfl, rfl, fun vs e => by cases e; rfl⟩, rfl, rfl, na, rfl, bare2, raises_own T.exC T.tyC, q⟩
/-- in an except suite -/
theorem pmk5_x (c : XMakH X.prog X.w X.K X.mg X.base k x C sp) (T : OexC X.K C) (hr : L2H.RoomH j X.A) (hk : k + 1 ≤ j) (hot : L2H.HotC X) (hg : Gl X x) (ha : PA X (e :: es) ta)
    (hdb : (x == ("__debug__" : Str)) = false := by decide) (he : starEach (e :: es) X.env = (false, eval e X.env) :: starEach es X.env := by rfl) (hpl : (backTo pos (starEach es X.env)).any (·.1) = false := by rfl) :
    L2H.PMk5 X (.Call (.Name x p) (e :: es) [] pos) (tMkO C sp [] ta) := by
  obtain ⟨fi, fd, ps, F, find, ty, named, binds⟩ := c.ex
  exact L2H.pmk5_oexH T find ty F (hr.mono hk) hot binds pass0 hg named ha hdb he hpl
end
end Kt

set_option Elab.async false
set_option linter.all false
set_option maxRecDepth 100000
set_option maxHeartbeats 4000000
/-! RevL: list(reversed(a list of ints or of whatever)) -/
namespace Kt
open PySem PySem.Spec PyProof.Rows L2
section
variable {prog : Program} {w : World} {A : Around} {E : Value → Shared → Prop} {s : Shared}
/-- the list at S takes what a reversed list still holds -/
theorem ext_rev {R : Result → Shared → Prop} {it l S : Addr} {its : Array Value} {c0 : Nat} {res : Value} (quiet : A.handled = none) (hi : s.heap.IsRevIter it l ((its.size : Int) - 1)) (hL : s.heap.IsList l its) (n1 : l ≠ it) (n2 : S ≠ it) (n3 : S ≠ l) (few : its.size ≤ sizeLine)
    (hS : s.heap.get? S = some { cls := .type "list", data := .seq #[] c0 })
    (q : ∀ g tk got c1, (∀ b o, b ≠ S → b ≠ it → s.heap.get? b = some o → g.get? b = some o) → g.get? S = some { cls := .type "list", dict := none, data := .seq got c1, slots := #[] } → ItemsOf (fun i v => its[its.size - 1 - i]? = some v) got its.size → R (.ok (.ret res)) { s with heap := g, toks := tk }) :
    wpAny (model prog w) A.in1 (Builtin.List.listExtendWith (.ref S) (.ref it) res) (fun fin s' => match fin with | .done f => R (.ok f) s' | .again c' => c'.quiet = true ∧ codeAny (model prog w) A c' R s') (fun e s' => R (.error e) s') s := by
  have walks := (Walks.listRev (prog := prog) (w := w) (A := A.in1) quiet it l n1 its).toS
  have off : S ∉ [it, l] := by
    simp only [List.mem_cons, List.not_mem_nil, or_false, not_or]
    exact ⟨n2, n3⟩
  have kind : s.TypeIs (.ref it) "list_reverseiterator" := hi.typeIs
  have other : Builtin.List.listSameRef (.ref S) (.ref it) = false := by simp [Builtin.List.listSameRef, n2]
  unfold Builtin.List.listExtendWith
  apply wpAny_bind
  apply wpAny_typeOf kind
  rw [if_neg (by rw [other]; decide)]
  apply wpAny_bind
  apply wpAny_pyIter_revIter hi
  apply wpAny_bind
  apply wpAny_holding
  unfold Builtin.List.listLengthHint
  apply wpAny_bind
  apply wpAny_specialOf kind RT.nolen_lri
  show wpAny _ A.in1 (specialOf (.ref it) "__length_hint__" >>= _) _ _ _
  apply wpAny_bind
  apply wpAny_specialOf kind RT.hint_lri
  generalize nm : ("list_reverseiterator.__length_hint__" : String) = idn
  wp_delta
  rw [show splitId idn = some ("list_reverseiterator", "__length_hint__") by subst nm; decide +kernel]
  subst nm
  refine wpAny_bind (wpAny_isInstance (b := true) kind (by rw [isSubtype_type]; kernel_rfl) (wpAny_pure ?_))
  rw [if_neg (by decide)]
  have z : ((its.size : Nat) : Int) - 1 - ((0 : Nat) : Int) = (its.size : Int) - 1 := by omega
  refine wpAny_pure ⟨plainId_quiet F.plain_extend_loop _, codeAny_extend_loopS walks few _ off _ its.size 0 _ _ _ rfl (Nat.zero_le _) ⟨Nat.zero_le _, by rw [z]; exact hi, hL⟩ hS (ItemsOf.nil _) fun s2 got c1 mv at2 all => ?_⟩
  rw [Moved.eq_with mv]
  refine q s2.heap s2.toks got c1 (fun b o m1 m2 e => mv.heap b o (fun mem => ?_) e) at2 all
  rcases List.mem_cons.mp mem with y | mem
  · exact m1 y
  · exact m2 (List.mem_singleton.mp mem)
theorem call_listRev {Q : Value → Shared → Prop} {it l : Addr} {its : Array Value} (quiet : A.handled = none) (hi : s.heap.IsRevIter it l ((its.size : Int) - 1)) (hL : s.heap.IsList l its) (n1 : l ≠ it) (few : its.size ≤ sizeLine)
    (q : ∀ g tk got c1, (∀ b o, b ≠ it → s.heap.get? b = some o → g.get? b = some o) → g.get? s.heap.objs.size = some { cls := .type "list", dict := none, data := .seq got c1, slots := #[] } → ItemsOf (fun i v => its[its.size - 1 - i]? = some v) got its.size → Q (.ref s.heap.objs.size) { s with heap := g, toks := tk }) :
    wpAny (model prog w) A (call (.type "list") [.ref it]) Q E s := by
  obtain ⟨oi, gi, _⟩ := id hi
  obtain ⟨ol, gl, _⟩ := id hL
  have n2 : s.heap.objs.size ≠ it := Nat.ne_of_gt (Heap.lt_size gi)
  have n3 : s.heap.objs.size ≠ l := Nat.ne_of_gt (Heap.lt_size gl)
  refine callType_codes (Q₁ := fun x t => x = .ref s.heap.objs.size ∧ t = { s with heap := s.heap.push { cls := .type "list", data := .seq #[] } }) F.called_list (F.typeCall_list_1 _) F.entry_list_init (code_list_new _ ⟨rfl, rfl⟩) fun x t ⟨ex, et⟩ => ?_
  subst ex et
  have new : (s.heap.push { cls := .type "list", data := .seq #[] }).get? s.heap.objs.size = some { cls := .type "list", data := .seq #[] } := Heap.get?_push_size _ rfl
  refine ⟨⟨_, new, rfl⟩, F.args_list_init_2 _ _, ?_⟩
  show wpAny _ _ (do let was ← Builtin.List.listItems (.ref s.heap.objs.size); Builtin.List.listUpdate (.ref s.heap.objs.size) (fun _ => #[]); letGo was.toList.reverse; Builtin.List.listExtendWith (.ref s.heap.objs.size) (.ref it) .none) _ _ _
  apply wpAny_bind
  unfold Builtin.List.listItems
  refine wpAny_bind (wpAny_seqItems new rfl (wpAny_pure ?_))
  show wpAny _ _ (updateSeq s.heap.objs.size (fun _ => #[]) >>= fun _ => letGo (#[] : Array Value).toList.reverse >>= fun _ => Builtin.List.listExtendWith (.ref s.heap.objs.size) (.ref it) .none) _ _ _
  refine wpAny_bind (wpAny_updateSeq new rfl ?_)
  have new2 := Heap.get?_update_self (Obj.mapSeq (fun _ => (#[] : Array Value))) new rfl
  have stays : ∀ b o, b ≠ s.heap.objs.size → s.heap.get? b = some o → ((s.heap.push { cls := .type "list", data := .seq #[] }).update s.heap.objs.size (Obj.mapSeq (fun _ => (#[] : Array Value)))).get? b = some o := fun b o m e => (Heap.get?_update_other _ _ (Ne.symm m)).trans (Heap.get?_push_of_some _ e)
  refine wpAny_bind (wpAny_letGo ?_)
  obtain ⟨ol2, gl2, rest⟩ := id hL
  refine ext_rev (A := A.in1) quiet (hi.at fun o e => stays _ _ (Ne.symm n2) e) ⟨ol2, stays _ _ (Ne.symm n3) gl2, rest⟩ n1 n2 n3 few new2 fun g tk got c1 k e all => ⟨rfl, ?_⟩
  exact q g tk got c1 (fun b o m e => k b o (Nat.ne_of_lt (Heap.lt_size e)) m (stays b o (Nat.ne_of_lt (Heap.lt_size e)) e)) e all
end
/-- list(reversed(x)), x a list: a new list -/
def tLstRev (K : PySem.W.Frag) (te : TE) : TE := fun σ H Q => te σ H fun v H1 => ∃ (a : Addr) (xs : List V), v = .ref a ∧ SqL K H1 a xs ∧ ∀ q, H1 q = none → Q (.ref q) (upd H1 q (.lst xs.reverse))
theorem pe_listRev {X : Cx} {e : Expr} {te : TE} {p p2 pos pos2 : Pos} (hc : X.calm = true) (hg : Gl X "list") (hm : X.mg "list" = none) (hg2 : Gl X "reversed") (hm2 : X.mg "reversed" = none) (he : PE X e te)
    (hs : starEach [e] X.env = (false, eval e X.env) :: starEach [] X.env := by rfl) (hs2 : starEach [.Call (.Name "reversed" p2) [e] [] pos2] X.env = (false, eval (.Call (.Name "reversed" p2) [e] [] pos2) X.env) :: starEach [] X.env := by rfl) :
    PE X (.Call (.Name "list" p) [.Call (.Name "reversed" p2) [e] [] pos2] [] pos) (tLstRev X.K te) := by
  constructor
  intro pins s σ H Q I h
  refine Call_ (ld_blt I hg hm boot_list (PyProof.Rows.callWith_type1 (args_cons (Call_ (ld_blt I hg2 hm2 PyProof.Rows.boot_reversed (PyProof.Rows.callWith_type1 (args_cons (thn (he.run pins s σ H _ I h) fun u t ⟨v, H1, J, r, a, xs, ev, hq, q⟩ => args_nil ?_) hs) hs rfl))) hs2) hs2 rfl))
  subst ev
  obtain rfl : u = Value.ref a := r
  obtain ⟨its, rv, pl, few⟩ := J.list hq
  refine call_reversed_list pl.isList (args_nil ?_)
  have J2 : Inv X pins σ H1 { t with heap := t.heap.push (revObj a ((its.toArray.size : Int) - 1)) } := J.kept (t' := t.toks) fun b o e => Heap.get?_push_of_some _ e
  obtain ⟨ol, gl, _⟩ := id pl.isList
  refine call_listRev (s := { t with heap := t.heap.push (revObj a ((its.toArray.size : Int) - 1)) }) (J.ok.hd hc) ⟨_, Heap.get?_push_size _ rfl, rfl, rfl⟩ (pl.isList.push _) (Nat.ne_of_lt (Heap.lt_size gl)) (by rw [List.size_toArray, ← rv.length]; exact few) fun g tk got c1 k e all => ?_
  have ok : ObjOk X.prog X.w (upd H1 (t.heap.push (revObj a ((its.toArray.size : Int) - 1))).objs.size (.lst xs.reverse)) g (t.heap.push (revObj a ((its.toArray.size : Int) - 1))).objs.size (.lst xs.reverse) := ⟨by rw [List.length_reverse]; exact few, got.toList, c1, RT.vals_rev rv all, by rw [Array.toArray_toList]; exact e⟩
  refine ⟨.ref _, _, J2.turnedNew (t' := tk) (ch := [t.heap.objs.size]) (fun b o m y => k b o (fun z => m (by rw [z]; exact List.mem_singleton.mpr rfl)) y) (fun b m => by rw [List.mem_singleton.mp m]; exact J.fpOk (Nat.le_refl _) (J.hok.fresh (Nat.le_refl _))) (Nat.le_refl _) ok, rfl, q _ (J2.hok.fresh (Nat.le_refl _))⟩
theorem L_lstRev {K : PySem.W.Frag} {te : TE} {σ : L2.St} {H : Hp} {Q : VK} (h : te σ H fun v H1 => ∃ (a : Addr) (xs : List V), v = .ref a ∧ SqL K H1 a xs ∧ ∀ q, H1 q = none → Q (.ref q) (upd H1 q (.lst xs.reverse))) : tLstRev K te σ H Q := h
end Kt
set_option Elab.async false
set_option linter.all false
set_option maxRecDepth 100000
set_option maxHeartbeats 4000000
namespace My
open PySem PySem.Spec PyProof.Rows L2 Kt LamX NdefX
/-! one step of a reading; a look at the heap -/
local macro_rules | `(tactic| walk_at "hp") => `(tactic| first
  | assumption
  | exact upd_same
  | (with_reducible apply hp_from; assumption; walk_at "sm"))
local macro_rules | `(tactic| walk_at "hpL") => `(tactic| first | assumption | (with_reducible apply hpL; walk_at "hp"))
local macro_rules | `(tactic| walk_at "hpT") => `(tactic| first | assumption | (with_reducible apply hpT; walk_at "hp"))
local macro_rules | `(tactic| walk_at "st1") => `(tactic| with_reducible first
  | refine L_var rfl ?_
  | refine L_cons ?_
  | refine L_nil ?_
  | refine L_c ?_
  | refine L_op ?_
  | refine L_seq ?_
  | refine L_asg ?_
  | (refine G_gn ?_; refine L_gnameE (by dsimp only [L2.wipe, List.foldl, List.set] <;> rfl) ?_)
  | refine L_k ?_
  | refine L_I0 ?_
  | refine L_addI ?_
  | refine L_tTest ?_
  | refine L_ifS ?_
  | refine L_next ?_
  | refine L_call ?_
  | refine L_callS ?_
  | refine L_T ?_
  | refine L_F ?_
  | refine L_nT ?_
  | refine L_nF ?_
  | refine L_cb ?_
  | refine L_ret ?_
  | refine L_eqI ?_
  | refine L_neI ?_
  | refine L_leI ?_
  | refine L_ltI ?_
  | refine L_or ?_
  | refine L_and ?_
  | refine L_not ?_
  | refine L_tB ?_
  | refine L_drop ?_
  | refine L_bm ?_
  | refine L_tup ?_
  | refine L_lst ?_
  | refine L_fld ?_
  | refine L_chain ?_
  | refine L_chain3 ?_
  | refine L_gname ?_
  | refine L_eqS ?_
  | refine L_neS ?_
  | refine L_eqB ?_
  | refine L_leS ?_
  | refine L_isN ?_
  | refine L_notN ?_
  | refine L_inC ?_
  | refine L_notInC ?_
  | refine L_un ?_
  | refine L_rU ?_
  | refine L_andV ?_
  | refine L_orV ?_
  | refine L_notV ?_
  | refine L_par ?_
  | refine L_par3 ?_
  | refine L_vs2 ?_
  | refine L_vs3 ?_
  | refine L_aug rfl ?_
  | refine L_augS ?_
  | refine L_ipI ?_
  | refine L_retN ?_
  | refine L_brk ?_
  | refine L_cont ?_
  | refine L_tru ?_
  | refine L_truB ?_
  | refine L_truI ?_
  | refine L_abs ?_
  | refine L_max2 ?_
  | refine L_min2 ?_
  | refine L_int1 ?_
  | refine L_int1B ?_
  | refine L_for ?_
  | refine L_iRng1 ?_
  | refine L_iRng2 ?_
  | refine L_iList ?_
  | refine L_iTup ?_
  | refine L_yes ?_
  | refine L_iZip ?_
  | refine L_iEnum ?_
  | refine L_iStr ?_
  | refine L_iRng3 ?_
  | refine L_lc ?_
  | refine L_make ?_
  | refine L_nnT ?_
  | refine L_nnF ?_
  | refine L_disp1 ?_
  | refine L_rng2 ?_
  | refine L_bm0 ?_
  | refine L_neB ?_
  | refine L_dnew ?_
  | refine L_sl ?_
  | refine L_noPart ?_
  | refine L_part ?_
  | refine L_ki ?_
  | refine L_methE ?_
  | refine L_meth ?_
  | refine L_makeE ?_
  | refine L_gCons ?_
  | refine L_gNil ?_
  | refine L_sub ?_
  | refine L_sFld ?_
  | refine L_din ?_
  | refine L_dnin ?_
  | refine L_dget ?_
  | refine L_dput ?_
  | refine L_dget2 ?_
  | refine L_methD ?_
  | refine L_lock ?_
  | refine L_iKeys ?_)
local macro_rules | `(tactic| walk_at "st") => `(tactic| first | walk_at "st1" | walk_at "op" | with_reducible refine L_ifE ?_)
local macro_rules | `(tactic| walk_at "stn") => `(tactic| repeat first | walk_at "st1" | walk_at "op")
local macro_rules | `(tactic| walk_at "sts") => `(tactic| repeat walk_at "st")
/-! the same, and what is shown by itself: sizes, bounds, what stands in the heap -/
local macro_rules | `(tactic| walk_at "bd") => `(tactic| first | exact bd_mod (by decide) | exact bd_64 (by decide) | exact bd_64 (by omega))
local macro_rules | `(tactic| walk_at "sa1") => `(tactic| first
  | walk_at "st"
  | (with_reducible refine G_mod ?_; with_reducible refine L_I (show _ < _ by first | decide | omega) ?_)
  | (with_reducible refine G_mul ?_; with_reducible refine L_mulI (Bd.cmul (n := 64) (m := 64) (by walk_at "bd") (by walk_at "bd")) ?_)
  | (with_reducible refine G_div ?_; with_reducible refine L_I (cdiv_lit (by first | decide | omega)) ?_)
  | (with_reducible refine G_pow ?_; with_reducible first
    | refine L_powE (i := 10) (j := 9) (n := 1000000000) (cpow_lit (by decide)) (by decide) ?_
    | refine L_powE (i := 10) (j := 6) (n := 1000000) (cpow_lit (by decide)) (by decide) ?_
    | refine L_powE (i := 10) (j := 10) (n := 10000000000) (cpow_lit (by decide)) (by decide) ?_
    | refine L_powE (i := 10) (j := 12) (n := 1000000000000) (cpow_lit (by decide)) (by decide) ?_
    | refine L_powE (i := 10) (j := 13) (n := 10000000000000) (cpow_lit (by decide)) (by decide) ?_
    | refine L_powE (i := 10) (j := 20) (n := 100000000000000000000) (cpow_lit (by decide)) (by decide) ?_
    | refine L_powE (i := 10) (j := 29) (n := 100000000000000000000000000000) (cpow_lit (by decide)) (by decide) ?_
    | refine L_powE (i := 10) (j := 30) (n := 1000000000000000000000000000000) (cpow_lit (by decide)) (by decide) ?_
    | refine L_powE (i := 10) (j := 39) (n := 1000000000000000000000000000000000000000) (cpow_lit (by decide)) (by decide) ?_
    | refine L_powE (i := 10) (j := 40) (n := 10000000000000000000000000000000000000000) (cpow_lit (by decide)) (by decide) ?_
    | refine L_powE (i := 10) (j := 60) (n := 1000000000000000000000000000000000000000000000000000000000000) (cpow_lit (by decide)) (by decide) ?_
    | refine L_powE (i := 2) (j := 3) (n := 8) (cpow_lit (by decide)) (by decide) ?_
    | refine L_powE (i := 2) (j := 40) (n := 1099511627776) (cpow_lit (by decide)) (by decide) ?_)
  | (with_reducible refine G_ix ?_; with_reducible first | refine L_ixT (by walk_at "hpT") (by with_unfolding_all rfl) ?_ | refine L_ixL (by walk_at "hpL") (by with_unfolding_all rfl) ?_)
  | (with_reducible refine G_len ?_; with_reducible first | refine L_lenL (by walk_at "hpL") ?_ | refine L_lenT (by walk_at "hpT") ?_)
  | walk_at "fd"
  | (with_reducible refine G_meth ?_; with_reducible refine L_methv (by walk_at "hp") (by with_unfolding_all rfl) ?_)
  | (with_reducible refine G_isi ?_; with_reducible first | refine L_isi (.base (.int _)) (b := true) (by decide +kernel) ?_ | refine L_isi (.base (.int _)) (b := false) (by decide +kernel) ?_)
  | (with_reducible refine G_d ?_; with_reducible first | refine L_dT (by first | assumption | omega) ?_ | refine L_dF (by first | assumption | omega) ?_)
  | (with_reducible refine G_nd ?_; with_reducible first | refine L_ndT (by first | assumption | omega) ?_ | refine L_ndF (by first | assumption | omega) ?_))
local macro_rules | `(tactic| walk_at "sa") => `(tactic| repeat walk_at "sa1")
/-! what stood stands -/
local macro_rules | `(tactic| walk_at "sm") => `(tactic| first
  | assumption
  | exact Same.refl _
  | (with_reducible apply same_upd'; assumption; walk_at "sm")
  | (with_reducible apply same_mut'; assumption; walk_at "sm")
  | (with_reducible apply same_via; assumption; walk_at "sm"))
/-! a new list or tuple: its place p, hp : H p = none, the heap behind it Hn, that all stands, what stands at p -/
local macro_rules | `(tactic| walk_at "nw") => `(tactic| (
  (refine L_new (by first | decide | exact sz_dec (by simp)) ?_)
  (intro p hp)
  (generalize hg : upd _ p _ = Hn)
  (have sn := same_newE hg hp)
  (have en := upd_at hg)
  (clear hg)))
/-! plain things as data -/
local macro_rules | `(tactic| walk_at "dpa") => `(tactic| first
  | exact .nil
  | (refine .cons (by first | exact .int _ | exact .str _ | exact .bl _ | exact .non | assumption) ?_; walk_at "dpa"))
local macro_rules | `(tactic| walk_at "nwp") => `(tactic| (
  (intro p hp)
  (generalize hg : upd _ p _ = Hn)
  (have sn := same_newE hg hp)
  (have en := upd_at hg)
  (clear hg)))

def top (i : Nat) : Stmt := PySem.Challenge.pw_fewspeak_k32_whole_each_keeps_its_share.main.body.getD i (.Pass ⟨0, 0, 0, 0⟩)
abbrev s_divisor : Stmt := top 2
abbrev s_share : Stmt := top 3
abbrev s_Told___init__ : Stmt := inClass (top 11) 0
abbrev s_Told_is_told : Stmt := inClass (top 11) 1
abbrev s_Told_kept : Stmt := inClass (top 11) 2
abbrev s_Die___init__ : Stmt := inClass (top 12) 0
abbrev s_Die_is_told : Stmt := inClass (top 10) 0
abbrev s_plus : Stmt := top 4
abbrev s_minus : Stmt := top 5
abbrev s_times : Stmt := top 6
abbrev s_over : Stmt := top 7
abbrev s_below : Stmt := top 8
abbrev s_duel_sides : Stmt := top 17
abbrev s_is_open : Stmt := top 16
abbrev s_last_node : Stmt := top 18
abbrev e_last_node_0 : Expr := lamE (stV ((defBody s_last_node).getD 2 s_last_node))
abbrev LamAt_last_node_l0 (ws : List V) (f : Addr) (H : Hp) : Prop := LamAt "last_node.<locals>.<lambda>" (lamP s_last_node e_last_node_0) (lamB e_last_node_0) (lamS s_last_node e_last_node_0) ["kept", "up"] ws f H
abbrev e_last_node_1 : Expr := lamE (stV ((defBody s_last_node).getD 3 s_last_node))
abbrev LamAt_last_node_l1 (ws : List V) (f : Addr) (H : Hp) : Prop := LamAt "last_node.<locals>.<lambda>" (lamP s_last_node e_last_node_1) (lamB e_last_node_1) (lamS s_last_node e_last_node_1) ["kept"] ws f H
abbrev s_duel_node : Stmt := top 20
abbrev e_duel_node_0 : Expr := lamE (stV ((defBody s_duel_node).getD 4 s_duel_node))
abbrev LamAt_duel_node_l0 (ws : List V) (f : Addr) (H : Hp) : Prop := LamAt "duel_node.<locals>.<lambda>" (lamP s_duel_node e_duel_node_0) (lamB e_duel_node_0) (lamS s_duel_node e_duel_node_0) ["coming", "kept", "other", "up"] ws f H
abbrev e_duel_node_1 : Expr := lamE (stV ((defBody s_duel_node).getD 5 s_duel_node))
abbrev LamAt_duel_node_l1 (ws : List V) (f : Addr) (H : Hp) : Prop := LamAt "duel_node.<locals>.<lambda>" (lamP s_duel_node e_duel_node_1) (lamB e_duel_node_1) (lamS s_duel_node e_duel_node_1) ["coming", "kept", "other", "up"] ws f H
abbrev s_played : Stmt := top 19
abbrev s_Told_sides : Stmt := inClass (top 10) 2
abbrev s_Told_parts : Stmt := inClass (top 10) 3
abbrev s_Die_kept : Stmt := inClass (top 10) 1
abbrev s_Die_sides : Stmt := inClass (top 12) 1
abbrev s_Bout___init__ : Stmt := inClass (top 22) 0
abbrev s_Bout_together : Stmt := inClass (top 22) 1
abbrev s_Bout_all_ups : Stmt := inClass (top 22) 2
abbrev s_Bout_come : Stmt := inClass (top 22) 3
abbrev s__law_low : Stmt := top 29
abbrev s__law_plus : Stmt := top 30
abbrev s__law_times : Stmt := top 31
abbrev s_Die_parts : Stmt := inClass (top 12) 2
abbrev s__law_ways : Stmt := top 36
abbrev s__law_together : Stmt := top 37
abbrev s__law_deep : Stmt := top 38
abbrev s_duels : Stmt := top 21
abbrev s_duel_matrix : Stmt := top 23
abbrev s__law_cell : Stmt := top 25
abbrev s__law_mix : Stmt := top 26
abbrev s__law_row : Stmt := top 27
abbrev s__law_whole : Stmt := top 28
abbrev s__law_fraction : Stmt := top 32
abbrev s__law_matrix : Stmt := top 33
abbrev s__law_shares : Stmt := top 34
abbrev s__law_order : Stmt := top 35
abbrev s__law_good : Stmt := top 39
abbrev s_law : Stmt := top 40
def tabsL (K : PySem.W.Frag) (mg : Str → Option Value) : List (Addr × Str) := [(pF K mg "last_node", "last_node.<locals>.<lambda>"), (pF K mg "duel_node", "duel_node.<locals>.<lambda>")]
def csL (K : PySem.W.Frag) (mg : Str → Option Value) : List (Addr × Addr) := [(cF K mg "last_node", pF K mg "last_node"), (cF K mg "duel_node", pF K mg "duel_node")]
theorem sc_divisor : FnScope ["one", "other"] ["one", "other"] (defScope s_divisor) := ⟨rfl, rfl, rfl, by decide +kernel, rfl, by decide +kernel, by decide +kernel⟩
theorem sc_share : FnScope ["top", "bottom", "many"] ["top", "bottom"] (defScope s_share) := ⟨rfl, rfl, rfl, by decide +kernel, rfl, by decide +kernel, by decide +kernel⟩
theorem sc_Told___init__ : FnScope ["self", "kept"] ["self", "kept"] (defScope s_Told___init__) := ⟨rfl, rfl, rfl, by decide +kernel, rfl, by decide +kernel, by decide +kernel⟩
theorem sc_Told_is_told : FnScope ["self"] ["self"] (defScope s_Told_is_told) := ⟨rfl, rfl, rfl, by decide +kernel, rfl, by decide +kernel, by decide +kernel⟩
theorem sc_Told_kept : FnScope ["self"] ["self"] (defScope s_Told_kept) := ⟨rfl, rfl, rfl, by decide +kernel, rfl, by decide +kernel, by decide +kernel⟩
theorem sc_Die___init__ : FnScope ["self", "parts"] ["self", "parts"] (defScope s_Die___init__) := ⟨rfl, rfl, rfl, by decide +kernel, rfl, by decide +kernel, by decide +kernel⟩
theorem sc_Die_is_told : FnScope ["self"] ["self"] (defScope s_Die_is_told) := ⟨rfl, rfl, rfl, by decide +kernel, rfl, by decide +kernel, by decide +kernel⟩
theorem sc_plus : FnScope ["one", "other"] ["one", "other"] (defScope s_plus) := ⟨rfl, rfl, rfl, by decide +kernel, rfl, by decide +kernel, by decide +kernel⟩
theorem sc_minus : FnScope ["one", "other"] ["one", "other"] (defScope s_minus) := ⟨rfl, rfl, rfl, by decide +kernel, rfl, by decide +kernel, by decide +kernel⟩
theorem sc_times : FnScope ["one", "other"] ["one", "other"] (defScope s_times) := ⟨rfl, rfl, rfl, by decide +kernel, rfl, by decide +kernel, by decide +kernel⟩
theorem sc_over : FnScope ["one", "other"] ["one", "other"] (defScope s_over) := ⟨rfl, rfl, rfl, by decide +kernel, rfl, by decide +kernel, by decide +kernel⟩
theorem sc_below : FnScope ["one", "other"] ["one", "other"] (defScope s_below) := ⟨rfl, rfl, rfl, by decide +kernel, rfl, by decide +kernel, by decide +kernel⟩
theorem sc_duel_sides : FnScope ["one", "other", "bottom", "first", "second"] ["one", "other"] (defScope s_duel_sides) := ⟨rfl, rfl, rfl, by decide +kernel, rfl, by decide +kernel, by decide +kernel⟩
theorem sc_is_open : FnScope ["much"] ["much"] (defScope s_is_open) := ⟨rfl, rfl, rfl, by decide +kernel, rfl, by decide +kernel, by decide +kernel⟩
theorem sc_last_node : FnScope ["up", "kept", "top", "bottom", "first", "second"] ["up", "kept"] (defScope s_last_node) := ⟨rfl, rfl, rfl, by decide +kernel, rfl, by decide +kernel, by decide +kernel⟩
theorem sc_duel_node : FnScope ["up", "coming", "kept", "sides", "first", "second", "other"] ["up", "coming", "kept"] (defScope s_duel_node) := ⟨rfl, rfl, rfl, by decide +kernel, rfl, by decide +kernel, by decide +kernel⟩
theorem sc_played : FnScope ["winner", "loser", "coming", "kept", "total", "rest"] ["winner", "loser", "coming", "kept"] (defScope s_played) := ⟨rfl, rfl, rfl, by decide +kernel, rfl, by decide +kernel, by decide +kernel⟩
theorem sc_Told_sides : FnScope ["self"] ["self"] (defScope s_Told_sides) := ⟨rfl, rfl, rfl, by decide +kernel, rfl, by decide +kernel, by decide +kernel⟩
theorem sc_Told_parts : FnScope ["self"] ["self"] (defScope s_Told_parts) := ⟨rfl, rfl, rfl, by decide +kernel, rfl, by decide +kernel, by decide +kernel⟩
theorem sc_Die_kept : FnScope ["self"] ["self"] (defScope s_Die_kept) := ⟨rfl, rfl, rfl, by decide +kernel, rfl, by decide +kernel, by decide +kernel⟩
theorem sc_Die_sides : FnScope ["self", "many", "make"] ["self"] (defScope s_Die_sides) := ⟨rfl, rfl, rfl, by decide +kernel, rfl, by decide +kernel, by decide +kernel⟩
theorem sc_Bout___init__ : FnScope ["self"] ["self"] (defScope s_Bout___init__) := ⟨rfl, rfl, rfl, by decide +kernel, rfl, by decide +kernel, by decide +kernel⟩
theorem sc_Bout_together : FnScope ["self", "at", "share_of_it", "found", "total"] ["self", "at", "share_of_it"] (defScope s_Bout_together) := ⟨rfl, rfl, rfl, by decide +kernel, rfl, by decide +kernel, by decide +kernel⟩
theorem sc_Bout_all_ups : FnScope ["self", "factor", "at"] ["self", "factor"] (defScope s_Bout_all_ups) := ⟨rfl, rfl, rfl, by decide +kernel, rfl, by decide +kernel, by decide +kernel⟩
theorem sc_Bout_come : FnScope ["self", "at", "much", "total", "odds", "win", "other"] ["self", "at", "much"] (defScope s_Bout_come) := ⟨rfl, rfl, rfl, by decide +kernel, rfl, by decide +kernel, by decide +kernel⟩
theorem sc__law_low : FnScope ["_law_top", "_law_bottom", "_law_one", "_law_other"] ["_law_top", "_law_bottom"] (defScope s__law_low) := ⟨rfl, rfl, rfl, by decide +kernel, rfl, by decide +kernel, by decide +kernel⟩
theorem sc__law_plus : FnScope ["_law_one", "_law_other"] ["_law_one", "_law_other"] (defScope s__law_plus) := ⟨rfl, rfl, rfl, by decide +kernel, rfl, by decide +kernel, by decide +kernel⟩
theorem sc__law_times : FnScope ["_law_one", "_law_other"] ["_law_one", "_law_other"] (defScope s__law_times) := ⟨rfl, rfl, rfl, by decide +kernel, rfl, by decide +kernel, by decide +kernel⟩
theorem sc_Die_parts : FnScope ["self", "many", "make"] ["self"] (defScope s_Die_parts) := ⟨rfl, rfl, rfl, by decide +kernel, rfl, by decide +kernel, by decide +kernel⟩
theorem sc__law_ways : FnScope ["_law_node", "_law_much", "_law_found", "_law_many", "_law_part"] ["_law_node", "_law_much"] (defScope s__law_ways) := ⟨rfl, rfl, rfl, by decide +kernel, rfl, by decide +kernel, by decide +kernel⟩
theorem sc__law_together : FnScope ["_law_ways_here", "_law_places", "_law_rows", "_law_kept", "_law_much", "_law_found", "_law_one", "_law_row_here", "_law_other", "_law_total"] ["_law_ways_here", "_law_places"] (defScope s__law_together) := ⟨rfl, rfl, rfl, by decide +kernel, rfl, by decide +kernel, by decide +kernel⟩
theorem sc__law_deep : FnScope ["_law_node", "_law_many", "_law_part"] ["_law_node"] (defScope s__law_deep) := ⟨rfl, rfl, rfl, by decide +kernel, rfl, by decide +kernel, by decide +kernel⟩
theorem sc_duels : FnScope ["shares", "order", "coming", "at"] ["shares", "order"] (defScope s_duels) := ⟨rfl, rfl, rfl, by decide +kernel, rfl, by decide +kernel, by decide +kernel⟩
theorem sc_duel_matrix : FnScope ["shares", "order", "other", "found", "bout", "at", "much", "one"] ["shares", "order"] (defScope s_duel_matrix) := ⟨rfl, rfl, rfl, by decide +kernel, rfl, by decide +kernel, by decide +kernel⟩
theorem sc__law_cell : FnScope ["_law_script", "_law_k"] ["_law_script", "_law_k"] (defScope s__law_cell) := ⟨rfl, rfl, rfl, by decide +kernel, rfl, by decide +kernel, by decide +kernel⟩
theorem sc__law_mix : FnScope ["_law_cell_here", "_law_k", "_law_number"] ["_law_cell_here", "_law_k"] (defScope s__law_mix) := ⟨rfl, rfl, rfl, by decide +kernel, rfl, by decide +kernel, by decide +kernel⟩
theorem sc__law_row : FnScope ["_law_cell_here", "_law_bit", "_law_many", "_law_most", "_law_row_here", "_law_k"] ["_law_cell_here", "_law_bit", "_law_many", "_law_most"] (defScope s__law_row) := ⟨rfl, rfl, rfl, by decide +kernel, rfl, by decide +kernel, by decide +kernel⟩
theorem sc__law_whole : FnScope ["_law_found"] ["_law_found"] (defScope s__law_whole) := ⟨rfl, rfl, rfl, by decide +kernel, rfl, by decide +kernel, by decide +kernel⟩
theorem sc__law_fraction : FnScope ["_law_found", "_law_due"] ["_law_found", "_law_due"] (defScope s__law_fraction) := ⟨rfl, rfl, rfl, by decide +kernel, rfl, by decide +kernel, by decide +kernel⟩
theorem sc__law_matrix : FnScope ["_law_found", "_law_due", "_law_row_here", "_law_others", "_law_one", "_law_other"] ["_law_found", "_law_due"] (defScope s__law_matrix) := ⟨rfl, rfl, rfl, by decide +kernel, rfl, by decide +kernel, by decide +kernel⟩
theorem sc__law_shares : FnScope ["_law_script", "_law_start", "_law_most", "_law_many", "_law_bit", "_law_bottom", "_law_tops", "_law_top"] ["_law_script", "_law_start", "_law_most"] (defScope s__law_shares) := ⟨rfl, rfl, rfl, by decide +kernel, rfl, by decide +kernel, by decide +kernel⟩
theorem sc__law_order : FnScope ["_law_cell_here", "_law_bit", "_law_many", "_law_left", "_law_order_here", "_law_pick"] ["_law_cell_here", "_law_bit", "_law_many"] (defScope s__law_order) := ⟨rfl, rfl, rfl, by decide +kernel, rfl, by decide +kernel, by decide +kernel⟩
theorem sc__law_good : FnScope ["_law_shares_here", "_law_order_here", "_law_node", "_law_ways_here", "_law_due", "_law_total", "_law_one", "_law_sizes_kept", "_law_handed", "_law_found", "_law_at", "_law_kept", "_law_much"] ["_law_shares_here", "_law_order_here"] (defScope s__law_good) := ⟨rfl, rfl, rfl, by decide +kernel, rfl, by decide +kernel, by decide +kernel⟩
theorem sc_law : FnScope ["_law_script", "_law_shares_here", "_law_k", "_law_order_here"] ["_law_script"] (defScope s_law) := ⟨rfl, rfl, rfl, by decide +kernel, rfl, by decide +kernel, by decide +kernel⟩
/-- what the top has written -/
structure Txt (K : PySem.W.Frag) (mg : Str → Option Value) (base : Heap) : Prop where
  n_abs : mg "abs" = none
  n_sorted : mg "sorted" = none
  n_tuple : mg "tuple" = none
  m_Told : mg "Told" = some (.ref (cA mg "Told"))
  k_Told : Cls K (cA mg "Told")
  na_Told_places : NoAttr K (cA mg "Told") "places"
  m_Die : mg "Die" = some (.ref (cA mg "Die"))
  k_Die : Cls K (cA mg "Die")
  na_Die_ways : NoAttr K (cA mg "Die") "ways"
  m_NOUGHT : mg "NOUGHT" = some (.ref (cA mg "NOUGHT"))
  t_NOUGHT : ∃ (o : Obj) (its : Array Value) (n : Nat), K.lookup (cA mg "NOUGHT") = some o ∧ o.cls = .type "tuple" ∧ o.data = .seq its n ∧ its.size ≤ sizeLine ∧ Vals [.int 0, .int 1] its.toList
  m_SURE : mg "SURE" = some (.ref (cA mg "SURE"))
  t_SURE : ∃ (o : Obj) (its : Array Value) (n : Nat), K.lookup (cA mg "SURE") = some o ∧ o.cls = .type "tuple" ∧ o.data = .seq its n ∧ its.size ≤ sizeLine ∧ Vals [.int 1, .int 1] its.toList
  n_sum : mg "sum" = none
  m_Bout : mg "Bout" = some (.ref (cA mg "Bout"))
  k_Bout : Cls K (cA mg "Bout")
  na_Bout_ins : NoAttr K (cA mg "Bout") "ins"
  na_Bout_ups : NoAttr K (cA mg "Bout") "ups"
  na_Bout_much : NoAttr K (cA mg "Bout") "much"
  n_list : mg "list" = none
  n_max : mg "max" = none
  n_len : mg "len" = none
  n_range : mg "range" = none
  n_bool : mg "bool" = none
  n_int : mg "int" = none
  n_isinstance : mg "isinstance" = none
  n_zip : mg "zip" = none
  n_min : mg "min" = none
  d_divisor : DefAt K mg "divisor" s_divisor ["one", "other"]
  d_share : DefAt K mg "share" s_share ["top", "bottom"]
  i_Told : InitAt K (cA mg "Told") "Told.__init__" s_Told___init__ ["self", "kept"]
  d_Told_is_told : MethAt K (cA mg "Told") "is_told" "Told.is_told" s_Told_is_told ["self"]
  d_Told_kept : MethAt K (cA mg "Told") "kept" "Told.kept" s_Told_kept ["self"]
  i_Die : InitAt K (cA mg "Die") "Die.__init__" s_Die___init__ ["self", "parts"]
  d_Die_is_told : MethAt K (cA mg "Die") "is_told" "Node.is_told" s_Die_is_told ["self"]
  d_plus : DefAt K mg "plus" s_plus ["one", "other"]
  d_minus : DefAt K mg "minus" s_minus ["one", "other"]
  d_times : DefAt K mg "times" s_times ["one", "other"]
  d_over : DefAt K mg "over" s_over ["one", "other"]
  d_below : DefAt K mg "below" s_below ["one", "other"]
  d_duel_sides : DefAt K mg "duel_sides" s_duel_sides ["one", "other"]
  d_is_open : DefAt K mg "is_open" s_is_open ["much"]
  d_last_node : DefC K mg "last_node" s_last_node ["up", "kept"]
  tb_last_node : TabB base mg (cF K mg "last_node") (pF K mg "last_node")
  hu_last_node : ∀ p ∈ tabsL K mg, p.1 = pF K mg "last_node" → p.2 = "last_node.<locals>.<lambda>"
  d_duel_node : DefC K mg "duel_node" s_duel_node ["up", "coming", "kept"]
  tb_duel_node : TabB base mg (cF K mg "duel_node") (pF K mg "duel_node")
  hu_duel_node : ∀ p ∈ tabsL K mg, p.1 = pF K mg "duel_node" → p.2 = "duel_node.<locals>.<lambda>"
  d_played : DefAt K mg "played" s_played ["winner", "loser", "coming", "kept"]
  d_Told_sides : MethAt K (cA mg "Told") "sides" "Node.sides" s_Told_sides ["self"]
  d_Told_parts : MethAt K (cA mg "Told") "parts" "Node.parts" s_Told_parts ["self"]
  d_Die_kept : MethAt K (cA mg "Die") "kept" "Node.kept" s_Die_kept ["self"]
  d_Die_sides : MethAt K (cA mg "Die") "sides" "Die.sides" s_Die_sides ["self"]
  i_Bout : InitAt K (cA mg "Bout") "Bout.__init__" s_Bout___init__ ["self"]
  d_Bout_together : MethAt K (cA mg "Bout") "together" "Bout.together" s_Bout_together ["self", "at", "share_of_it"]
  d_Bout_all_ups : MethAt K (cA mg "Bout") "all_ups" "Bout.all_ups" s_Bout_all_ups ["self", "factor"]
  d_Bout_come : MethAt K (cA mg "Bout") "come" "Bout.come" s_Bout_come ["self", "at", "much"]
  d__law_low : DefAt K mg "_law_low" s__law_low ["_law_top", "_law_bottom"]
  d__law_plus : DefAt K mg "_law_plus" s__law_plus ["_law_one", "_law_other"]
  d__law_times : DefAt K mg "_law_times" s__law_times ["_law_one", "_law_other"]
  d_Die_parts : MethAt K (cA mg "Die") "parts" "Die.parts" s_Die_parts ["self"]
  d__law_ways : DefAt K mg "_law_ways" s__law_ways ["_law_node", "_law_much"]
  d__law_together : DefAt K mg "_law_together" s__law_together ["_law_ways_here", "_law_places"]
  d__law_deep : DefAt K mg "_law_deep" s__law_deep ["_law_node"]
  d_duels : DefAt K mg "duels" s_duels ["shares", "order"]
  d_duel_matrix : DefAt K mg "duel_matrix" s_duel_matrix ["shares", "order"]
  d__law_cell : DefAt K mg "_law_cell" s__law_cell ["_law_script", "_law_k"]
  d__law_mix : DefAt K mg "_law_mix" s__law_mix ["_law_cell_here", "_law_k"]
  d__law_row : DefAt K mg "_law_row" s__law_row ["_law_cell_here", "_law_bit", "_law_many", "_law_most"]
  d__law_whole : DefAt K mg "_law_whole" s__law_whole ["_law_found"]
  d__law_fraction : DefAt K mg "_law_fraction" s__law_fraction ["_law_found", "_law_due"]
  d__law_matrix : DefAt K mg "_law_matrix" s__law_matrix ["_law_found", "_law_due"]
  d__law_shares : DefAt K mg "_law_shares" s__law_shares ["_law_script", "_law_start", "_law_most"]
  d__law_order : DefAt K mg "_law_order" s__law_order ["_law_cell_here", "_law_bit", "_law_many"]
  d__law_good : DefAt K mg "_law_good" s__law_good ["_law_shares_here", "_law_order_here"]
  d_law : DefAt K mg "law" s_law ["_law_script"]
section
variable {P : Program} {w : World} {K : PySem.W.Frag} {mg : Str → Option Value} {base : Heap}
theorem fd_Told_places (T : Txt K mg base) {H : Hp} {a dx : Addr} {fs : List (Str × V)} {v : V} {Q : V → Prop} (h : H a = some (.ins (cA mg "Told") dx fs)) (l : fs.lookup ("places" : Str) = some v) (q : Q v) : ∃ a1 C dx fs v, V.ref a = V.ref a1 ∧ H a1 = some (.ins C dx fs) ∧ Cls K C ∧ NoAttr K C "places" ∧ fs.lookup ("places" : Str) = some v ∧ Q v := L_fldv h T.k_Told T.na_Told_places l q
theorem fg_Told_places {H : Hp} {a : Addr} {Q : V → Prop} (h : ∃ a1 C dx fs v, V.ref a = V.ref a1 ∧ H a1 = some (.ins C dx fs) ∧ Cls K C ∧ NoAttr K C "places" ∧ fs.lookup ("places" : Str) = some v ∧ Q v) : ∃ a1 C dx fs v, V.ref a = V.ref a1 ∧ H a1 = some (.ins C dx fs) ∧ Cls K C ∧ NoAttr K C "places" ∧ fs.lookup ("places" : Str) = some v ∧ Q v := h
local macro_rules | `(tactic| walk_at "fd") => `(tactic| (with_reducible refine fg_Told_places ?_; with_reducible refine fd_Told_places (by assumption) (by walk_at "hp") (by with_unfolding_all rfl) ?_))
theorem fd_Die_ways (T : Txt K mg base) {H : Hp} {a dx : Addr} {fs : List (Str × V)} {v : V} {Q : V → Prop} (h : H a = some (.ins (cA mg "Die") dx fs)) (l : fs.lookup ("ways" : Str) = some v) (q : Q v) : ∃ a1 C dx fs v, V.ref a = V.ref a1 ∧ H a1 = some (.ins C dx fs) ∧ Cls K C ∧ NoAttr K C "ways" ∧ fs.lookup ("ways" : Str) = some v ∧ Q v := L_fldv h T.k_Die T.na_Die_ways l q
theorem fg_Die_ways {H : Hp} {a : Addr} {Q : V → Prop} (h : ∃ a1 C dx fs v, V.ref a = V.ref a1 ∧ H a1 = some (.ins C dx fs) ∧ Cls K C ∧ NoAttr K C "ways" ∧ fs.lookup ("ways" : Str) = some v ∧ Q v) : ∃ a1 C dx fs v, V.ref a = V.ref a1 ∧ H a1 = some (.ins C dx fs) ∧ Cls K C ∧ NoAttr K C "ways" ∧ fs.lookup ("ways" : Str) = some v ∧ Q v := h
local macro_rules | `(tactic| walk_at "fd") => `(tactic| (with_reducible refine fg_Die_ways ?_; with_reducible refine fd_Die_ways (by assumption) (by walk_at "hp") (by with_unfolding_all rfl) ?_))
theorem fd_Bout_ins (T : Txt K mg base) {H : Hp} {a dx : Addr} {fs : List (Str × V)} {v : V} {Q : V → Prop} (h : H a = some (.ins (cA mg "Bout") dx fs)) (l : fs.lookup ("ins" : Str) = some v) (q : Q v) : ∃ a1 C dx fs v, V.ref a = V.ref a1 ∧ H a1 = some (.ins C dx fs) ∧ Cls K C ∧ NoAttr K C "ins" ∧ fs.lookup ("ins" : Str) = some v ∧ Q v := L_fldv h T.k_Bout T.na_Bout_ins l q
theorem fg_Bout_ins {H : Hp} {a : Addr} {Q : V → Prop} (h : ∃ a1 C dx fs v, V.ref a = V.ref a1 ∧ H a1 = some (.ins C dx fs) ∧ Cls K C ∧ NoAttr K C "ins" ∧ fs.lookup ("ins" : Str) = some v ∧ Q v) : ∃ a1 C dx fs v, V.ref a = V.ref a1 ∧ H a1 = some (.ins C dx fs) ∧ Cls K C ∧ NoAttr K C "ins" ∧ fs.lookup ("ins" : Str) = some v ∧ Q v := h
local macro_rules | `(tactic| walk_at "fd") => `(tactic| (with_reducible refine fg_Bout_ins ?_; with_reducible refine fd_Bout_ins (by assumption) (by walk_at "hp") (by with_unfolding_all rfl) ?_))
theorem fd_Bout_ups (T : Txt K mg base) {H : Hp} {a dx : Addr} {fs : List (Str × V)} {v : V} {Q : V → Prop} (h : H a = some (.ins (cA mg "Bout") dx fs)) (l : fs.lookup ("ups" : Str) = some v) (q : Q v) : ∃ a1 C dx fs v, V.ref a = V.ref a1 ∧ H a1 = some (.ins C dx fs) ∧ Cls K C ∧ NoAttr K C "ups" ∧ fs.lookup ("ups" : Str) = some v ∧ Q v := L_fldv h T.k_Bout T.na_Bout_ups l q
theorem fg_Bout_ups {H : Hp} {a : Addr} {Q : V → Prop} (h : ∃ a1 C dx fs v, V.ref a = V.ref a1 ∧ H a1 = some (.ins C dx fs) ∧ Cls K C ∧ NoAttr K C "ups" ∧ fs.lookup ("ups" : Str) = some v ∧ Q v) : ∃ a1 C dx fs v, V.ref a = V.ref a1 ∧ H a1 = some (.ins C dx fs) ∧ Cls K C ∧ NoAttr K C "ups" ∧ fs.lookup ("ups" : Str) = some v ∧ Q v := h
local macro_rules | `(tactic| walk_at "fd") => `(tactic| (with_reducible refine fg_Bout_ups ?_; with_reducible refine fd_Bout_ups (by assumption) (by walk_at "hp") (by with_unfolding_all rfl) ?_))
theorem fd_Bout_much (T : Txt K mg base) {H : Hp} {a dx : Addr} {fs : List (Str × V)} {v : V} {Q : V → Prop} (h : H a = some (.ins (cA mg "Bout") dx fs)) (l : fs.lookup ("much" : Str) = some v) (q : Q v) : ∃ a1 C dx fs v, V.ref a = V.ref a1 ∧ H a1 = some (.ins C dx fs) ∧ Cls K C ∧ NoAttr K C "much" ∧ fs.lookup ("much" : Str) = some v ∧ Q v := L_fldv h T.k_Bout T.na_Bout_much l q
theorem fg_Bout_much {H : Hp} {a : Addr} {Q : V → Prop} (h : ∃ a1 C dx fs v, V.ref a = V.ref a1 ∧ H a1 = some (.ins C dx fs) ∧ Cls K C ∧ NoAttr K C "much" ∧ fs.lookup ("much" : Str) = some v ∧ Q v) : ∃ a1 C dx fs v, V.ref a = V.ref a1 ∧ H a1 = some (.ins C dx fs) ∧ Cls K C ∧ NoAttr K C "much" ∧ fs.lookup ("much" : Str) = some v ∧ Q v := h
local macro_rules | `(tactic| walk_at "fd") => `(tactic| (with_reducible refine fg_Bout_much ?_; with_reducible refine fd_Bout_much (by assumption) (by walk_at "hp") (by with_unfolding_all rfl) ?_))
def gc (a b : Int) : Int := (Int.gcd a b : Nat)
theorem gc_step {a b : Int} (h : 0 < b) : gc b (a % b) = gc a b := by
  have e : Int.gcd (a % b) b = Int.gcd a b := by
    refine Int.gcd_left_eq_iff.mpr fun c hc => ?_
    have d : c ∣ b * (a / b) := Int.dvd_trans hc (Int.dvd_mul_right b (a / b))
    have e2 : a % b + b * (a / b) = a := Int.emod_add_mul_ediv a b
    constructor
    · intro h; rw [← e2]; exact Int.dvd_add h d
    · intro h
      have : a % b = a - b * (a / b) := by omega
      rw [this]; exact Int.dvd_sub h d
  unfold gc
  rw [Int.gcd_comm, e]
theorem gc_zero {a : Int} : (if a < 0 then -a else a) = gc a 0 := by
  unfold gc
  rw [Int.gcd_zero_right]
  omega
theorem gc_pos {a b : Int} (h : 0 < b) : 0 < gc a b := by
  unfold gc
  have : 0 < Int.gcd a b := Int.gcd_pos_of_ne_zero_right a (by omega)
  omega
theorem gc_le {a b : Int} (h : 0 < b) : gc a b ≤ b := Int.gcd_le_right a h
theorem gc_dl {a b : Int} : gc a b ∣ a := Int.gcd_dvd_left ..
theorem gc_dr {a b : Int} : gc a b ∣ b := Int.gcd_dvd_right ..
/-- lowest terms, for a bottom from 1 on -/
def low (t b : Int) : Int × Int := (t / gc t b, b / gc t b)
theorem low_pos {t b : Int} (h : 0 < b) : 1 ≤ (low t b).2 := by
  have g := gc_pos (a := t) h
  have := Int.ediv_pos_of_pos_of_dvd h (Int.le_of_lt g) (gc_dr (a := t) (b := b))
  show 1 ≤ b / gc t b
  omega
theorem low_gc {t b : Int} (h : 0 < b) : gc (low t b).1 (low t b).2 = 1 := by
  have g := gc_pos (a := t) h
  unfold low gc
  have hh : 0 < Int.gcd t b := Int.gcd_pos_of_ne_zero_right t (by omega)
  have := Int.gcd_ediv_gcd_ediv_gcd (i := t) (j := b) hh
  show ((Int.gcd (t / (Int.gcd t b : Nat)) (b / (Int.gcd t b : Nat)) : Nat) : Int) = 1
  rw [this]; rfl
theorem low_eq {t b : Int} (h : 0 < b) : (low t b).1 * b = t * (low t b).2 := by
  have g := gc_pos (a := t) h
  obtain ⟨u, hu⟩ := gc_dl (a := t) (b := b)
  obtain ⟨v, hv⟩ := gc_dr (a := t) (b := b)
  have e1 : t / gc t b = u := Int.ediv_eq_of_eq_mul_right (by omega) hu
  have e2 : b / gc t b = v := Int.ediv_eq_of_eq_mul_right (by omega) hv
  show t / gc t b * b = t * (b / gc t b)
  rw [e1, e2]
  calc u * b = u * (gc t b * v) := by rw [← hv]
    _ = (gc t b * u) * v := by rw [← Int.mul_assoc, Int.mul_comm u]
    _ = t * v := by rw [← hu]
theorem low_bd {n : Nat} {t b : Int} (h : 0 < b) (ht : Bd n t) (hb : Bd n b) : Bd n (low t b).1 ∧ Bd n (low t b).2 := by
  have g := gc_pos (a := t) h
  constructor
  · exact Nat.lt_of_le_of_lt (Int.natAbs_ediv_le_natAbs t _) ht
  · exact Nat.lt_of_le_of_lt (Int.natAbs_ediv_le_natAbs b _) hb
/-- what share tells -/
def shr (t b : Int) : Int × Int := if b < 0 then low (0 - t) (0 - b) else low t b
theorem shr_ok {t b : Int} (h : b ≠ 0) : 1 ≤ (shr t b).2 ∧ gc (shr t b).1 (shr t b).2 = 1 ∧ (shr t b).1 * b = t * (shr t b).2 := by
  unfold shr
  split
  · have hb : 0 < 0 - b := by omega
    refine ⟨low_pos hb, low_gc hb, ?_⟩
    have e := low_eq (t := 0 - t) hb
    rw [Int.mul_sub, Int.mul_zero, Int.sub_mul, Int.zero_mul] at e
    omega
  · have hb : 0 < b := by omega
    exact ⟨low_pos hb, low_gc hb, low_eq hb⟩
theorem shr_bd {n : Nat} {t b : Int} (h : b ≠ 0) (ht : Bd n t) (hb : Bd n b) : Bd n (shr t b).1 ∧ Bd n (shr t b).2 := by
  have e : ∀ z : Int, 0 - z = -z := fun z => by omega
  unfold shr
  split
  · rw [e, e]; exact low_bd (by omega) ht.neg hb.neg
  · exact low_bd (by omega) ht hb
theorem across {p q t b x y : Int} (hb : b ≠ 0) (e : p * b = t * q) (d : t * y = x * b) : p * y = x * q := by
  refine Int.eq_of_mul_eq_mul_right hb ?_
  calc p * y * b = (p * b) * y := by rw [Int.mul_assoc, Int.mul_comm y b, Int.mul_assoc]
    _ = (t * y) * q := by rw [e, Int.mul_assoc, Int.mul_comm q y, ← Int.mul_assoc]
    _ = x * q * b := by rw [d, Int.mul_assoc, Int.mul_comm b q, ← Int.mul_assoc]
def sp_divisor (K : PySem.W.Frag) (mg : Str → Option Value) : Sp := fun vs H Q _ => match vs with | [.int a, .int b] => 0 ≤ b ∧ Q (.int (gc a b)) H | _ => False
theorem q_divisor {H : Hp} {Q : VK} {E : XK} {a : Int} {b : Int} (q : 0 ≤ b ∧ Q (.int (gc a b)) H) : sp_divisor K mg [.int a, .int b] H Q E := q
local macro_rules | `(tactic| walk_at "op") => `(tactic| with_reducible refine q_divisor ?_)
theorem c_divisor (T : Txt K mg base) : Cal P w K mg base 1 "divisor" (sp_divisor K mg) := by
  refine T.d_divisor.cal (k := 0) sc_divisor (by intro vs H Q E h; unfold sp_divisor at h; split at h <;> first | rfl | exact h.elim) fun f cdv A outer s H vs Q E hr h => ?_
  refine ⟨_, (pss_cons (ps_while PassesOwn.never (pt_cmpR (op_neA hr) (pv 1) pe_int (nomark _))
    (pss_one (ps_par (i := 0) (j := 1) rfl sc_divisor.nd rfl rfl (by decide) rfl rfl (pa_cons (pv 1) (pa_cons (pe_op op_mod (pv 0) (pv 1)) pa_nil)) (by rfl))))
    (pss_one (ps_ret (pe_callB call_absA (by rfl) T.n_abs (by decide +kernel) (pa_cons (pv 0) pa_nil))))), ?_⟩
  try simp only [cxOf_K, cxOf_K', cxOf_mg, cxOf_mg']
  unfold sp_divisor at h
  split at h
  case h_2 => exact h.elim
  rename_i a b
  rw [show L2.start ["one", "other"] [V.int a, V.int b] = [some (V.int a), some (V.int b)] from rfl]
  obtain ⟨hb, q⟩ := h
  walk_at "sts"
  refine L_while (fun m σ' H' => ∃ x y : Int, σ' = [some (.int x), some (.int y)] ∧ 0 ≤ y ∧ gc x y = gc a b ∧ m = y.toNat ∧ H' = H) ⟨_, a, b, rfl, hb, rfl, rfl, rfl⟩ ?_
  rintro m σ' H' ⟨x, y, rfl, hy, e, rfl, rfl⟩
  walk_at "sts"
  refine L_nd (fun c => ?_) (fun c => ?_)
  · refine L_N ?_
    walk_at "sts"
    refine L_I (by omega) ?_
    walk_at "sts"
    have h1 := Int.emod_nonneg x c
    have h2 := Int.emod_lt_of_pos x (show 0 < y by omega)
    exact ⟨(x % y).toNat, by omega, y, x % y, rfl, h1, (gc_step (by omega)).trans e, rfl, rfl⟩
  · subst c
    walk_at "sts"
    rw [gc_zero, e]
    exact q
def sp_share (K : PySem.W.Frag) (mg : Str → Option Value) : Sp := fun vs H Q _ => match vs with | [.int t, .int b] => b ≠ 0 ∧ Bd 2000 b ∧ NewT H [.int (shr t b).1, .int (shr t b).2] Q | _ => False
theorem q_share {H : Hp} {Q : VK} {E : XK} {t : Int} {b : Int} (q : b ≠ 0 ∧ Bd 2000 b ∧ NewT H [.int (shr t b).1, .int (shr t b).2] Q) : sp_share K mg [.int t, .int b] H Q E := q
local macro_rules | `(tactic| walk_at "op") => `(tactic| with_reducible refine q_share ?_)
theorem c_share (T : Txt K mg base) : Cal P w K mg base 2 "share" (sp_share K mg) := by
  refine T.d_share.cal (k := 1) sc_share (by intro vs H Q E h; unfold sp_share at h; split at h <;> first | rfl | exact h.elim) fun f cdv A outer s H vs Q E hr h => ?_
  refine ⟨_, (pss_cons (ps_if (pt_cmpR op_ltA (pv 1) pe_int (nomark _))
    (pss_one (ps_par (i := 0) (j := 1) rfl sc_share.nd rfl rfl (by decide) rfl rfl (pa_cons (pe_op op_sub pe_int (pv 0)) (pa_cons (pe_op op_sub pe_int (pv 1)) pa_nil)) (by rfl)))
    pss_nil)
    (pss_cons (ps_set (i := 2) sc_share.nd rfl (.inl rfl) (pe_c (c_divisor T) hr (by decide) (by rfl) (pa_cons (pv 0) (pa_cons (pv 1) pa_nil))))
    (pss_one (ps_ret (pe_tup (pa_cons (pe_op op_fdivW (pv 0) (pv 2)) (pa_cons (pe_op op_fdivW (pv 1) (pv 2)) pa_nil))))))), ?_⟩
  try simp only [cxOf_K, cxOf_K', cxOf_mg, cxOf_mg']
  unfold sp_share at h
  split at h
  case h_2 => exact h.elim
  rename_i t b
  rw [show L2.start ["top", "bottom", "many"] [V.int t, V.int b] = [some (V.int t), some (V.int b), none] from rfl]
  obtain ⟨hb, hd, q⟩ := h
  have key : ∀ t' b' : Int, 0 < b' → Bd 2000 b' → low t' b' = shr t b → t / 1 = t → CDivW t' (gc t' b') := fun t' b' h0 h1 _ _ => by
    have g := gc_pos (a := t') h0
    have l := gc_le (a := t') h0
    refine Bd.cdiv (n := 2000) ?_ g
    unfold Bd at *
    omega
  walk_at "sts"
  refine L_d (fun c => ?_) (fun c => ?_)
  · walk_at "sts"
    have e : shr t b = low (0 - t) (0 - b) := if_pos c
    have hd' : Bd 2000 (0 - b) := by unfold Bd at *; omega
    refine ⟨by omega, ?_⟩
    walk_at "sts"
    refine L_I (key _ _ (by omega) hd' e.symm (by simp)) ?_
    walk_at "sts"
    refine L_I (key (0 - t) _ (by omega) hd' e.symm (by simp)) ?_
    walk_at "sts"
    rw [e] at q
    exact L_new (sz_dec (by show 2 ≤ 1000000; decide)) q.at
  · walk_at "sts"
    have e : shr t b = low t b := if_neg c
    refine ⟨by omega, ?_⟩
    walk_at "sts"
    refine L_I (key _ _ (by omega) hd e.symm (by simp)) ?_
    walk_at "sts"
    refine L_I (key t _ (by omega) hd e.symm (by simp)) ?_
    walk_at "sts"
    rw [e] at q
    exact L_new (sz_dec (by show 2 ≤ 1000000; decide)) q.at
/-- lowest terms are one -/
theorem cop_dvd {p q r s : Int} (g : gc p q = 1) (e : p * s = r * q) : q ∣ s := by
  have c1 : Int.gcd p q = 1 := Int.ofNat.inj g
  have h : q.natAbs ∣ p.natAbs * s.natAbs := by
    rw [← Int.natAbs_mul, e, Int.natAbs_mul]
    exact Nat.dvd_mul_left _ _
  have c : Nat.Coprime q.natAbs p.natAbs := by
    rw [Nat.coprime_comm]
    exact c1
  exact Int.natAbs_dvd_natAbs.mp (c.dvd_of_dvd_mul_left h)
theorem cop_uniq {p q r s : Int} (hq : 0 < q) (hs : 0 < s) (g1 : gc p q = 1) (g2 : gc r s = 1) (e : p * s = r * q) : p = r ∧ q = s := by
  have l1 := Int.le_of_dvd hs (cop_dvd g1 e)
  have l2 := Int.le_of_dvd hq (cop_dvd g2 e.symm)
  have : q = s := by omega
  subst this
  exact ⟨Int.eq_of_mul_eq_mul_right (by omega) e, rfl⟩
theorem low_uniq {a b c d : Int} (hb : 0 < b) (hd : 0 < d) (e : a * d = c * b) : low a b = low c d := by
  have p1 := low_pos (t := a) hb
  have p2 := low_pos (t := c) hd
  have e1 := low_eq (t := a) hb
  have e2 := low_eq (t := c) hd
  have key : (low a b).1 * (low c d).2 = (low c d).1 * (low a b).2 := by
    have hbd : b * d ≠ 0 := Int.mul_ne_zero (by omega) (by omega)
    refine Int.eq_of_mul_eq_mul_right hbd ?_
    calc (low a b).1 * (low c d).2 * (b * d) = ((low a b).1 * b) * ((low c d).2 * d) := by simp only [Int.mul_comm, Int.mul_left_comm, Int.mul_assoc]
      _ = (a * (low a b).2) * ((low c d).2 * d) := by rw [e1]
      _ = (a * d) * ((low a b).2 * (low c d).2) := by simp only [Int.mul_comm, Int.mul_left_comm, Int.mul_assoc]
      _ = (c * b) * ((low a b).2 * (low c d).2) := by rw [e]
      _ = (c * (low c d).2) * ((low a b).2 * b) := by simp only [Int.mul_comm, Int.mul_left_comm, Int.mul_assoc]
      _ = ((low c d).1 * d) * ((low a b).2 * b) := by rw [e2]
      _ = (low c d).1 * (low a b).2 * (b * d) := by simp only [Int.mul_comm, Int.mul_left_comm, Int.mul_assoc]
  obtain ⟨h1, h2⟩ := cop_uniq (by omega) (by omega) (low_gc hb) (low_gc hd) key
  exact Prod.ext h1 h2
theorem shr_low {t b : Int} (h : 0 < b) : shr t b = low t b := if_neg (by omega)
theorem low_at {x y a L : Int} (hL : 0 < L) (hy : 0 < y) (e : x * L = a * y) : low x y = low a L := low_uniq hy hL e
theorem low_add {a b L : Int} (hL : 0 < L) : shr ((low a L).1 * (low b L).2 + (low b L).1 * (low a L).2) ((low a L).2 * (low b L).2) = low (a + b) L := by
  have p1 := low_pos (t := a) hL
  have p2 := low_pos (t := b) hL
  have e1 := low_eq (t := a) hL
  have e2 := low_eq (t := b) hL
  have hp : 0 < (low a L).2 * (low b L).2 := Int.mul_pos (by omega) (by omega)
  rw [shr_low hp]
  refine low_uniq hp hL ?_
  rw [Int.add_mul, Int.add_mul, show (low a L).1 * (low b L).2 * L = ((low a L).1 * L) * (low b L).2 by simp only [Int.mul_comm, Int.mul_left_comm, Int.mul_assoc], e1, show (low b L).1 * (low a L).2 * L = ((low b L).1 * L) * (low a L).2 by simp only [Int.mul_comm, Int.mul_left_comm, Int.mul_assoc], e2]
  simp only [Int.mul_comm, Int.mul_left_comm, Int.mul_assoc]
theorem low_sub1 {a L : Int} (hL : 0 < L) : shr ((low a L).1 * 1 - 1 * (low a L).2) ((low a L).2 * 1) = low (a - L) L := by
  have p1 := low_pos (t := a) hL
  have e1 := low_eq (t := a) hL
  rw [Int.mul_one, Int.mul_one, Int.one_mul, shr_low (by omega)]
  refine low_uniq (by omega) hL ?_
  rw [Int.sub_mul, e1, Int.sub_mul, Int.mul_comm L]
theorem low_lt1 {a L : Int} (hL : 0 < L) : ((low a L).1 * 1 < 1 * (low a L).2) ↔ a < L := by
  have p1 := low_pos (t := a) hL
  have e1 := low_eq (t := a) hL
  rw [Int.mul_one, Int.one_mul]
  constructor
  · intro h
    have h2 : (low a L).1 * L < (low a L).2 * L := Int.mul_lt_mul_of_pos_right h hL
    rw [e1, Int.mul_comm] at h2
    exact Int.lt_of_mul_lt_mul_left h2 (by omega)
  · intro h
    have h2 : (low a L).2 * a < (low a L).2 * L := Int.mul_lt_mul_of_pos_left h (by omega)
    rw [Int.mul_comm, ← e1] at h2
    exact Int.lt_of_mul_lt_mul_right h2 (by omega)
theorem low_zero {a L : Int} (hL : 0 < L) : low a L = (0, 1) ↔ a = 0 := by
  constructor
  · intro h
    have e1 := low_eq (t := a) hL
    rw [h] at e1
    simpa using e1.symm
  · rintro rfl
    have e : low 0 L = low 0 1 := low_uniq hL (by decide) (by simp)
    rw [e]
    rfl
theorem low_one {a L : Int} (hL : 0 < L) : low a L = (1, 1) ↔ a = L := by
  constructor
  · intro h
    have e1 := low_eq (t := a) hL
    rw [h] at e1
    simpa using e1.symm
  · rintro rfl
    have e : low a a = low 1 1 := low_uniq hL (by decide) (by simp)
    rw [e]
    rfl
theorem low_opn {a L : Int} (hL : 0 < L) : (0 < (low a L).1 ∧ (low a L).1 < (low a L).2) ↔ (0 < a ∧ a < L) := by
  have p1 := low_pos (t := a) hL
  have e1 := low_eq (t := a) hL
  have h2 := low_lt1 (a := a) hL
  rw [Int.mul_one, Int.one_mul] at h2
  rw [h2]
  have : 0 < (low a L).1 ↔ 0 < a := by
    constructor
    · intro h
      have h3 : 0 < (low a L).1 * L := Int.mul_pos h hL
      rw [e1] at h3
      exact Int.pos_of_mul_pos_left h3 (by omega)
    · intro h
      have h3 : 0 < a * (low a L).2 := Int.mul_pos h (by omega)
      rw [← e1] at h3
      exact Int.pos_of_mul_pos_left h3 (by omega)
  rw [this]
theorem low_dvd {a L : Int} (hL : 0 < L) : (low a L).2 ≤ L := by
  have g := gc_pos (a := a) hL
  show L / gc a L ≤ L
  exact Int.ediv_le_self _ (by omega)
theorem low_bL {a L : Int} (hL : 0 < L) (h : L ≤ 1000000000) (ha : -1000000000000 ≤ a ∧ a ≤ 1000000000000) : 1 ≤ (low a L).2 ∧ Bd 64 (low a L).1 ∧ Bd 64 (low a L).2 := ⟨low_pos hL, low_bd hL (bd_64 (by omega)) (bd_64 (by omega))⟩
def srtI (l : List Int) : List Int := l.mergeSort fun a b => decide (a ≤ b)
theorem srtI_eq {l m : List Int} (h1 : m.Perm l) (h2 : m.Pairwise (· ≤ ·)) : m = srtI l := by
  have e1 : (srtI l).Perm l := List.mergeSort_perm l _
  have e2 : (srtI l).Pairwise (· ≤ ·) := (List.pairwise_mergeSort (le := fun a b : Int => decide (a ≤ b)) (fun a b c h1 h2 => by simp only [decide_eq_true_eq] at *; omega) (fun a b => by simp only [Bool.or_eq_true, decide_eq_true_eq]; omega) l).imp fun h => by simpa using h
  exact List.Perm.eq_of_pairwise (le := (· ≤ ·)) (fun a b _ _ h3 h4 => Int.le_antisymm h3 h4) h2 e2 (h1.trans e1.symm)
theorem srtI_len (l : List Int) : (srtI l).length = l.length := (List.mergeSort_perm l _).length_eq
def sp_Told___init__ (K : PySem.W.Frag) (mg : Str → Option Value) : Sp := fun vs H Q _ => match vs with | [.ref x, .ref k] => ∃ dx ks, H x = some (.ins (cA mg "Told") dx []) ∧ SqL K H k (ks.map V.int) ∧ ks.length < 64 ∧ ∀ p H', (∀ b o, H b = some o → b ≠ x → H' b = some o) → H' x = some (.ins (cA mg "Told") dx [("places", .ref p)]) → H' p = some (.tup ((srtI ks).map V.int)) → Q .non H' | _ => False
theorem q_Told___init__ {H : Hp} {Q : VK} {E : XK} {x : Addr} {k : Addr} (q : ∃ dx ks, H x = some (.ins (cA mg "Told") dx []) ∧ SqL K H k (ks.map V.int) ∧ ks.length < 64 ∧ ∀ p H', (∀ b o, H b = some o → b ≠ x → H' b = some o) → H' x = some (.ins (cA mg "Told") dx [("places", .ref p)]) → H' p = some (.tup ((srtI ks).map V.int)) → Q .non H') : sp_Told___init__ K mg [.ref x, .ref k] H Q E := q
local macro_rules | `(tactic| walk_at "op") => `(tactic| with_reducible refine q_Told___init__ ?_)
theorem m_Told (T : Txt K mg base) : Mak P w K mg base 1 "Told" (cA mg "Told") (sp_Told___init__ K mg) := by
  refine InitAt.mak T.m_Told T.i_Told (k := 0) sc_Told___init__ (by intro vs H Q E h; unfold sp_Told___init__ at h; split at h <;> first | rfl | exact h.elim) fun f cdv A outer s H vs Q E hr h => ?_
  refine ⟨_, (pss_one (ps_fld (pv 0) (pe_callTy call_tuple1A (by rfl) T.n_tuple (by decide +kernel) (pa_cons (pe_callB cr_sorted (by rfl) T.n_sorted (by decide +kernel) (pa_cons (pv 1) pa_nil)) pa_nil)) rfl)), ?_⟩
  try simp only [cxOf_K, cxOf_K', cxOf_mg, cxOf_mg']
  unfold sp_Told___init__ at h
  split at h
  case h_2 => exact h.elim
  rename_i x k
  rw [show L2.start ["self", "kept"] [V.ref x, V.ref k] = [some (V.ref x), some (V.ref k)] from rfl]
  obtain ⟨dx, ks, hx, hS, hl, q⟩ := h
  walk_at "sts"
  refine ⟨k, ks, rfl, hS, hl, fun ns p hp hs hn => ?_⟩
  cases srtI_eq hp hs
  walk_at "sts"
  refine L_tuple1 (.of upd_same) fun l hl => ?_
  have s1 := same_new (o := .lst ((srtI ks).map V.int)) hn
  have s2 := s1.trans (same_new (o := .tup ((srtI ks).map V.int)) hl)
  walk_at "sts"
  refine L_sFldv (s2 _ _ hx) T.k_Told T.na_Told_places (by decide) ?_
  have nl : l ≠ x := fun z => by rw [z] at hl; rw [s1 _ _ hx] at hl; cases hl
  exact q l _ (fun b o hb ne => by rw [upd_ne ne]; exact s2 _ _ hb) upd_same (by rw [upd_ne nl]; exact upd_same)
def sp_Told_is_told (K : PySem.W.Frag) (mg : Str → Option Value) : Sp := fun vs H Q _ => match vs with | [.ref a] => Q (.bl true) H | _ => False
theorem q_Told_is_told {H : Hp} {Q : VK} {E : XK} {a : Addr} (q : Q (.bl true) H) : sp_Told_is_told K mg [.ref a] H Q E := q
local macro_rules | `(tactic| walk_at "op") => `(tactic| with_reducible refine q_Told_is_told ?_)
theorem c_Told_is_told (T : Txt K mg base) : Met P w K mg base 1 (cA mg "Told") "is_told" (sp_Told_is_told K mg) := by
  refine MethAt.met T.k_Told T.d_Told_is_told (k := 0) sc_Told_is_told (by intro vs H Q E h; unfold sp_Told_is_told at h; split at h <;> first | rfl | exact h.elim) fun f cdv A outer s H vs Q E hr h => ?_
  refine ⟨_, (pss_one (ps_ret pe_bl)), ?_⟩
  try simp only [cxOf_K, cxOf_K', cxOf_mg, cxOf_mg']
  unfold sp_Told_is_told at h
  split at h
  case h_2 => exact h.elim
  rename_i a
  rw [show L2.start ["self"] [V.ref a] = [some (V.ref a)] from rfl]
  walk_at "sts"
  exact h
def sp_Told_kept (K : PySem.W.Frag) (mg : Str → Option Value) : Sp := fun vs H Q _ => match vs with | [.ref a] => ∃ dx p, H a = some (.ins (cA mg "Told") dx [("places", .ref p)]) ∧ Q (.ref p) H | _ => False
theorem q_Told_kept {H : Hp} {Q : VK} {E : XK} {a : Addr} (q : ∃ dx p, H a = some (.ins (cA mg "Told") dx [("places", .ref p)]) ∧ Q (.ref p) H) : sp_Told_kept K mg [.ref a] H Q E := q
local macro_rules | `(tactic| walk_at "op") => `(tactic| with_reducible refine q_Told_kept ?_)
theorem c_Told_kept (T : Txt K mg base) : Met P w K mg base 1 (cA mg "Told") "kept" (sp_Told_kept K mg) := by
  refine MethAt.met T.k_Told T.d_Told_kept (k := 0) sc_Told_kept (by intro vs H Q E h; unfold sp_Told_kept at h; split at h <;> first | rfl | exact h.elim) fun f cdv A outer s H vs Q E hr h => ?_
  refine ⟨_, (pss_one (ps_ret (pe_fld (pv 0) rfl))), ?_⟩
  try simp only [cxOf_K, cxOf_K', cxOf_mg, cxOf_mg']
  unfold sp_Told_kept at h
  split at h
  case h_2 => exact h.elim
  rename_i a
  rw [show L2.start ["self"] [V.ref a] = [some (V.ref a)] from rfl]
  obtain ⟨dx, p, ha, q⟩ := h
  walk_at "sts"
  refine L_fldv ha T.k_Told T.na_Told_places rfl ?_
  exact q
def sp_Die___init__ (K : PySem.W.Frag) (mg : Str → Option Value) : Sp := fun vs H Q _ => match vs with | [.ref x, .ref k] => ∃ dx xs, H x = some (.ins (cA mg "Die") dx []) ∧ SqL K H k xs ∧ ∀ p H', (∀ b o, H b = some o → b ≠ x → H' b = some o) → H' x = some (.ins (cA mg "Die") dx [("ways", .ref p)]) → H' p = some (.tup xs) → Q .non H' | _ => False
theorem q_Die___init__ {H : Hp} {Q : VK} {E : XK} {x : Addr} {k : Addr} (q : ∃ dx xs, H x = some (.ins (cA mg "Die") dx []) ∧ SqL K H k xs ∧ ∀ p H', (∀ b o, H b = some o → b ≠ x → H' b = some o) → H' x = some (.ins (cA mg "Die") dx [("ways", .ref p)]) → H' p = some (.tup xs) → Q .non H') : sp_Die___init__ K mg [.ref x, .ref k] H Q E := q
local macro_rules | `(tactic| walk_at "op") => `(tactic| with_reducible refine q_Die___init__ ?_)
theorem m_Die (T : Txt K mg base) : Mak P w K mg base 1 "Die" (cA mg "Die") (sp_Die___init__ K mg) := by
  refine InitAt.mak T.m_Die T.i_Die (k := 0) sc_Die___init__ (by intro vs H Q E h; unfold sp_Die___init__ at h; split at h <;> first | rfl | exact h.elim) fun f cdv A outer s H vs Q E hr h => ?_
  refine ⟨_, (pss_one (ps_fld (pv 0) (pe_callTy call_tuple1A (by rfl) T.n_tuple (by decide +kernel) (pa_cons (pv 1) pa_nil)) rfl)), ?_⟩
  try simp only [cxOf_K, cxOf_K', cxOf_mg, cxOf_mg']
  unfold sp_Die___init__ at h
  split at h
  case h_2 => exact h.elim
  rename_i x k
  rw [show L2.start ["self", "parts"] [V.ref x, V.ref k] = [some (V.ref x), some (V.ref k)] from rfl]
  obtain ⟨dx, xs, hx, hS, q⟩ := h
  walk_at "sts"
  refine L_tuple1 hS fun l hl => ?_
  have s2 := same_new (o := .tup xs) hl
  walk_at "sts"
  refine L_sFldv (s2 _ _ hx) T.k_Die T.na_Die_ways (by decide) ?_
  have nl : l ≠ x := fun z => by rw [z, hx] at hl; cases hl
  exact q l _ (fun b o hb ne => by rw [upd_ne ne]; exact s2 _ _ hb) upd_same (by rw [upd_ne nl]; exact upd_same)
def sp_Die_is_told (K : PySem.W.Frag) (mg : Str → Option Value) : Sp := fun vs H Q _ => match vs with | [.ref a] => Q (.bl false) H | _ => False
theorem q_Die_is_told {H : Hp} {Q : VK} {E : XK} {a : Addr} (q : Q (.bl false) H) : sp_Die_is_told K mg [.ref a] H Q E := q
local macro_rules | `(tactic| walk_at "op") => `(tactic| with_reducible refine q_Die_is_told ?_)
theorem c_Die_is_told (T : Txt K mg base) : Met P w K mg base 1 (cA mg "Die") "is_told" (sp_Die_is_told K mg) := by
  refine MethAt.met T.k_Die T.d_Die_is_told (k := 0) sc_Die_is_told (by intro vs H Q E h; unfold sp_Die_is_told at h; split at h <;> first | rfl | exact h.elim) fun f cdv A outer s H vs Q E hr h => ?_
  refine ⟨_, (pss_one (ps_ret pe_bl)), ?_⟩
  try simp only [cxOf_K, cxOf_K', cxOf_mg, cxOf_mg']
  unfold sp_Die_is_told at h
  split at h
  case h_2 => exact h.elim
  rename_i a
  rw [show L2.start ["self"] [V.ref a] = [some (V.ref a)] from rfl]
  walk_at "sts"
  exact h
/-! dice, generic: P tells which lists a node may hold (those that are changed later are not among them) -/
/-- what is no list is allowed -/
def NL (P : Addr → Prop) (H : Hp) : Prop := ∀ b, (∀ xs, H b ≠ some (.lst xs)) → P b
theorem NL.ev {P : Addr → Prop} {T : List (Addr × Str)} {H H' : Hp} (n : NL P H) (e : Ev T H H') : NL P H' := fun b h => n b fun xs z => h xs (e.lst z)
theorem NL.one {H : Hp} {h : Addr} {xs : List V} (e : H h = some (.lst xs)) : NL (· ≠ h) H := fun b k z => k xs (by rw [z]; exact e)
theorem NL.mu {P : Addr → Prop} {H : Hp} {h : Addr} {ys : List V} (n : NL P H) : NL P (upd H h (.lst ys)) := fun b k => n b fun xs z => by
  by_cases c : b = h
  · rw [c] at k
    exact k ys upd_same
  · exact k xs (by rw [upd_ne c]; exact z)
theorem NL.drop {P : Addr → Prop} {H Hd : Hp} (n : NL P H) (k : ∀ b o, H b = some o → (∀ φ, o ≠ .ext φ) → Hd b = some o) : NL P Hd := fun b h => n b fun xs z => h xs (k _ _ z fun _ z => nomatch z)
theorem NL.new {P : Addr → Prop} {H : Hp} {p : Addr} (n : NL P H) (h : H p = none) : P p := n p fun xs z => by rw [h] at z; cases z
theorem NL.all {H : Hp} : NL (fun _ => True) H := fun _ _ => True.intro
/-- a list is changed: tables stay -/
theorem tabs_mut {T : List (Addr × Str)} {H : Hp} {D : Addr} {us : List V} {o : HO} (t : Tabs T H) (h : H D = some (.lst us)) : Tabs T (upd H D o) := fun p hp => by
  obtain ⟨ps, e1, ok, k⟩ := t p hp
  have keep : ∀ b o', H b = some o' → (∀ l, o' ≠ .lst l) → upd H D o b = some o' := fun b o' hb ne => by
    rw [upd_ne fun z => by rw [z, h] at hb; exact ne _ (Option.some.inj hb).symm]
    exact hb
  refine ⟨ps, keep _ _ e1 (fun _ z => nomatch z), ok, fun pos cv hc => ?_⟩
  obtain ⟨c, rfl, hcc⟩ := k pos cv hc
  exact ⟨c, rfl, keep _ _ hcc (fun l z => by unfold CodeO at z; cases z)⟩
theorem upd_keep {H : Hp} {D b : Addr} {us : List V} {o o' : HO} (h : H D = some (.lst us)) (hb : H b = some o') (ne : ∀ l, o' ≠ .lst l) : upd H D o b = some o' := by
  rw [upd_ne fun z => by rw [z, h] at hb; exact ne _ (Option.some.inj hb).symm]
  exact hb
theorem ev_mutO {T : List (Addr × Str)} {H H1 : Hp} {D : Addr} {us : List V} {o : HO} (e : Ev T H H1) (n : ∀ u, H D = some u → ∃ qs, u = .tbl qs) (h : H1 D = some (.lst us)) : Ev T H (L2.upd H1 D o) := ⟨fun b o' hb ne => by
  rw [upd_ne fun z => by
    rw [z] at hb
    obtain ⟨qs, e⟩ := n _ hb
    exact ne qs e]
  exact e.ex _ _ hb ne, fun t => tabs_mut (e.tb t) h⟩
/-- a Told with these places -/
def TolA (mg : Str → Option Value) (ks : List Int) (v : V) (H : Hp) : Prop := ∃ a dx p, v = .ref a ∧ H a = some (.ins (cA mg "Told") dx [("places", .ref p)]) ∧ H p = some (.tup (ks.map V.int))
theorem TolA.ev {mg : Str → Option Value} {T : List (Addr × Str)} {H H' : Hp} {ks : List Int} {v : V} (h : TolA mg ks v H) (e : Ev T H H') : TolA mg ks v H' := by
  obtain ⟨a, dx, p, rfl, h1, h2⟩ := h
  exact ⟨a, dx, p, rfl, e.ins h1, e.tup h2⟩
theorem TolA.mu {mg : Str → Option Value} {H : Hp} {ks : List Int} {v : V} {D : Addr} {us : List V} {o : HO} (h : TolA mg ks v H) (e : H D = some (.lst us)) : TolA mg ks v (upd H D o) := by
  obtain ⟨a, dx, p, rfl, h1, h2⟩ := h
  exact ⟨a, dx, p, rfl, upd_keep e h1 (fun _ z => nomatch z), upd_keep e h2 (fun _ z => nomatch z)⟩
/-! fractions as rationals -/
def qt (r : Rat) : Int × Int := (r.num, (r.den : Int))
theorem q_nd (r : Rat) : (r.num : Rat) / ((r.den : Int) : Rat) = r := by rw [← Rat.divInt_eq_div, Rat.num_divInt_den]
theorem q_dp (r : Rat) : 0 < (r.den : Int) := by have := r.den_pos; omega
theorem i_ne {b : Int} (h : b ≠ 0) : (b : Rat) ≠ 0 := fun z => h (Rat.intCast_inj.mp (by simpa using z))
theorem q_eq {r : Rat} {t b : Int} (hb : b ≠ 0) (h : r = (t : Rat) / b) : r.num * b = t * (r.den : Int) := by
  have e := q_nd r
  have hd : (((r.den : Int)) : Rat) ≠ 0 := i_ne (by have := q_dp r; omega)
  have hb' : (b : Rat) ≠ 0 := i_ne hb
  have : (r.num : Rat) * b = t * ((r.den : Int) : Rat) := by
    generalize (r.num : Rat) = x at e ⊢
    generalize ((r.den : Int) : Rat) = y at e hd ⊢
    grind
  have h3 : ((r.num * b : Int) : Rat) = ((t * (r.den : Int) : Int) : Rat) := by
    rw [Rat.intCast_mul, Rat.intCast_mul]
    exact this
  exact Rat.intCast_inj.mp h3
theorem q_gc (r : Rat) : gc r.num (r.den : Int) = 1 := by
  have := r.reduced
  unfold gc
  rw [show Int.gcd r.num (r.den : Int) = 1 from this]
  rfl
theorem shr_qt {t b : Int} {r : Rat} (hb : b ≠ 0) (h : r = (t : Rat) / b) : shr t b = qt r := by
  obtain ⟨h1, h2, h3⟩ := shr_ok (t := t) hb
  have e := q_eq hb h
  have dp := q_dp r
  have key : (shr t b).1 * (r.den : Int) = r.num * (shr t b).2 := by
    refine Int.eq_of_mul_eq_mul_right hb ?_
    generalize (r.den : Int) = d at *
    generalize r.num = n at *
    generalize (shr t b).1 = x at *
    generalize (shr t b).2 = y at *
    grind
  obtain ⟨h4, h5⟩ := cop_uniq (by omega) dp h2 (q_gc r) key
  exact Prod.ext h4 h5
theorem low_qt {t b : Int} {r : Rat} (hb : 0 < b) (h : r = (t : Rat) / b) : low t b = qt r := by rw [← shr_low hb]; exact shr_qt (by omega) h
theorem qt_inj {a b : Rat} : qt a = qt b ↔ a = b := by
  constructor
  · intro h
    have h1 := congrArg Prod.fst h
    have h2 := congrArg Prod.snd h
    exact Rat.ext h1 (Int.ofNat.inj h2)
  · rintro rfl
    rfl
theorem qt_0 : qt 0 = (0, 1) := rfl
theorem qt_1 : qt 1 = (1, 1) := rfl
theorem d_ne (r : Rat) : (((r.den : Int)) : Rat) ≠ 0 := i_ne (by have := q_dp r; omega)
theorem q_add (a b : Rat) : shr ((qt a).1 * (qt b).2 + (qt b).1 * (qt a).2) ((qt a).2 * (qt b).2) = qt (a + b) := by
  refine shr_qt (Int.mul_ne_zero (by have := q_dp a; show (a.den : Int) ≠ 0; omega) (by have := q_dp b; show (b.den : Int) ≠ 0; omega)) ?_
  have e1 := q_nd a
  have e2 := q_nd b
  have d1 := d_ne a
  have d2 := d_ne b
  show a + b = ((a.num * (b.den : Int) + b.num * (a.den : Int) : Int) : Rat) / (((a.den : Int) * (b.den : Int) : Int) : Rat)
  rw [Rat.intCast_add, Rat.intCast_mul, Rat.intCast_mul, Rat.intCast_mul]
  generalize (a.num : Rat) = x at *
  generalize ((a.den : Int) : Rat) = y at *
  generalize (b.num : Rat) = u at *
  generalize ((b.den : Int) : Rat) = v at *
  grind
theorem q_sub (a b : Rat) : shr ((qt a).1 * (qt b).2 - (qt b).1 * (qt a).2) ((qt a).2 * (qt b).2) = qt (a - b) := by
  refine shr_qt (Int.mul_ne_zero (by have := q_dp a; show (a.den : Int) ≠ 0; omega) (by have := q_dp b; show (b.den : Int) ≠ 0; omega)) ?_
  have e1 := q_nd a
  have e2 := q_nd b
  have d1 := d_ne a
  have d2 := d_ne b
  show a - b = ((a.num * (b.den : Int) - b.num * (a.den : Int) : Int) : Rat) / (((a.den : Int) * (b.den : Int) : Int) : Rat)
  rw [Rat.intCast_sub, Rat.intCast_mul, Rat.intCast_mul, Rat.intCast_mul]
  generalize (a.num : Rat) = x at *
  generalize ((a.den : Int) : Rat) = y at *
  generalize (b.num : Rat) = u at *
  generalize ((b.den : Int) : Rat) = v at *
  grind
theorem q_mul (a b : Rat) : shr ((qt a).1 * (qt b).1) ((qt a).2 * (qt b).2) = qt (a * b) := by
  refine shr_qt (Int.mul_ne_zero (by have := q_dp a; show (a.den : Int) ≠ 0; omega) (by have := q_dp b; show (b.den : Int) ≠ 0; omega)) ?_
  have e1 := q_nd a
  have e2 := q_nd b
  have d1 := d_ne a
  have d2 := d_ne b
  show a * b = ((a.num * b.num : Int) : Rat) / (((a.den : Int) * (b.den : Int) : Int) : Rat)
  rw [Rat.intCast_mul, Rat.intCast_mul]
  generalize (a.num : Rat) = x at *
  generalize ((a.den : Int) : Rat) = y at *
  generalize (b.num : Rat) = u at *
  generalize ((b.den : Int) : Rat) = v at *
  grind
theorem q_num0 {a : Rat} (h : a ≠ 0) : (qt a).1 ≠ 0 := fun z => h (by
  have e := q_nd a
  rw [show a.num = 0 from z] at e
  rw [← e]
  have d := d_ne a
  generalize ((a.den : Int) : Rat) = y at *
  grind)
theorem q_div (a b : Rat) (h : b ≠ 0) : shr ((qt a).1 * (qt b).2) ((qt a).2 * (qt b).1) = qt (a / b) := by
  have hn := q_num0 h
  refine shr_qt (Int.mul_ne_zero (by have := q_dp a; show (a.den : Int) ≠ 0; omega) hn) ?_
  have e1 := q_nd a
  have e2 := q_nd b
  have d1 := d_ne a
  have d2 := d_ne b
  have n2 : (b.num : Rat) ≠ 0 := i_ne hn
  show a / b = ((a.num * (b.den : Int) : Int) : Rat) / (((a.den : Int) * b.num : Int) : Rat)
  rw [Rat.intCast_mul, Rat.intCast_mul]
  generalize (a.num : Rat) = x at *
  generalize ((a.den : Int) : Rat) = y at *
  generalize (b.num : Rat) = u at *
  generalize ((b.den : Int) : Rat) = v at *
  grind
theorem q_lt (a b : Rat) : ((qt a).1 * (qt b).2 < (qt b).1 * (qt a).2) ↔ a < b := by
  rw [Rat.lt_iff]
  exact Iff.rfl
/-- bounded -/
def BdQ (n : Nat) (r : Rat) : Prop := Bd n (qt r).1 ∧ Bd n (qt r).2
theorem bdq_of {n : Nat} {t b : Int} {r : Rat} (hb : b ≠ 0) (h : r = (t : Rat) / b) (h1 : Bd n t) (h2 : Bd n b) : BdQ n r := by
  have := shr_bd hb h1 h2
  rw [shr_qt hb h] at this
  exact this
theorem BdQ.mono {n m : Nat} {r : Rat} (h : BdQ n r) (hm : n ≤ m) : BdQ m r := ⟨h.1.mono hm, h.2.mono hm⟩
theorem q_pos {r : Rat} : 0 < (qt r).1 ↔ 0 < r := by
  have := q_lt 0 r
  rw [← this]
  show _ ↔ (0 * (r.den : Int) < r.num * 1)
  rw [Int.zero_mul, Int.mul_one]
  exact Iff.rfl
theorem q_lt1 {r : Rat} : (qt r).1 < (qt r).2 ↔ r < 1 := by
  have := q_lt r 1
  rw [← this]
  show _ ↔ (r.num * 1 < 1 * (r.den : Int))
  rw [Int.one_mul, Int.mul_one]
  exact Iff.rfl
/-- a fraction at a -/
def Fr2 (K : PySem.W.Frag) (H : Hp) (a : Addr) (x y : Int) : Prop := SqT K H a [.int x, .int y] ∧ 1 ≤ y ∧ Bd 990 x ∧ Bd 990 y
def sp_plus (K : PySem.W.Frag) (mg : Str → Option Value) : Sp := fun vs H Q _ => match vs with | [.ref a, .ref b] => ∃ x y u v, Fr2 K H a x y ∧ Fr2 K H b u v ∧ NewT H [.int (shr (x * v + u * y) (y * v)).1, .int (shr (x * v + u * y) (y * v)).2] Q | _ => False
theorem q_plus {H : Hp} {Q : VK} {E : XK} {a : Addr} {b : Addr} (q : ∃ x y u v, Fr2 K H a x y ∧ Fr2 K H b u v ∧ NewT H [.int (shr (x * v + u * y) (y * v)).1, .int (shr (x * v + u * y) (y * v)).2] Q) : sp_plus K mg [.ref a, .ref b] H Q E := q
local macro_rules | `(tactic| walk_at "op") => `(tactic| with_reducible refine q_plus ?_)
theorem c_plus (T : Txt K mg base) : Cal P w K mg base 3 "plus" (sp_plus K mg) := by
  refine T.d_plus.cal (k := 2) sc_plus (by intro vs H Q E h; unfold sp_plus at h; split at h <;> first | rfl | exact h.elim) fun f cdv A outer s H vs Q E hr h => ?_
  refine ⟨_, (pss_one (ps_ret (pe_c (c_share T) hr (by decide) (by rfl) (pa_cons (pe_op op_addA (pe_op op_mulA (pe_ix ix_seq (pv 0) pe_int (fun _ _ => rfl)) (pe_ix ix_seq (pv 1) pe_int (fun _ _ => rfl))) (pe_op op_mulA (pe_ix ix_seq (pv 1) pe_int (fun _ _ => rfl)) (pe_ix ix_seq (pv 0) pe_int (fun _ _ => rfl)))) (pa_cons (pe_op op_mulA (pe_ix ix_seq (pv 0) pe_int (fun _ _ => rfl)) (pe_ix ix_seq (pv 1) pe_int (fun _ _ => rfl))) pa_nil))))), ?_⟩
  try simp only [cxOf_K, cxOf_K', cxOf_mg, cxOf_mg']
  unfold sp_plus at h
  split at h
  case h_2 => exact h.elim
  rename_i a b
  rw [show L2.start ["one", "other"] [V.ref a, V.ref b] = [some (V.ref a), some (V.ref b)] from rfl]
  obtain ⟨x, y, u, v, ⟨ha, h1, bx, by_⟩, ⟨hb, h2, bu, bv⟩, q⟩ := h
  walk_at "sts"
  refine L_ixT ha rfl ?_
  walk_at "sts"
  refine L_ixT hb rfl ?_
  refine L_mulI (bx.cmul bv) ?_
  walk_at "sts"
  refine L_ixT hb rfl ?_
  walk_at "sts"
  refine L_ixT ha rfl ?_
  refine L_mulI (bu.cmul by_) ?_
  walk_at "sts"
  refine L_ixT ha rfl ?_
  walk_at "sts"
  refine L_ixT hb rfl ?_
  refine L_mulI (by_.cmul bv) ?_
  walk_at "sts"
  exact ⟨Int.mul_ne_zero (by omega) (by omega), (by_.mul bv).mono (by decide), q⟩
def sp_minus (K : PySem.W.Frag) (mg : Str → Option Value) : Sp := fun vs H Q _ => match vs with | [.ref a, .ref b] => ∃ x y u v, Fr2 K H a x y ∧ Fr2 K H b u v ∧ NewT H [.int (shr (x * v - u * y) (y * v)).1, .int (shr (x * v - u * y) (y * v)).2] Q | _ => False
theorem q_minus {H : Hp} {Q : VK} {E : XK} {a : Addr} {b : Addr} (q : ∃ x y u v, Fr2 K H a x y ∧ Fr2 K H b u v ∧ NewT H [.int (shr (x * v - u * y) (y * v)).1, .int (shr (x * v - u * y) (y * v)).2] Q) : sp_minus K mg [.ref a, .ref b] H Q E := q
local macro_rules | `(tactic| walk_at "op") => `(tactic| with_reducible refine q_minus ?_)
theorem c_minus (T : Txt K mg base) : Cal P w K mg base 3 "minus" (sp_minus K mg) := by
  refine T.d_minus.cal (k := 2) sc_minus (by intro vs H Q E h; unfold sp_minus at h; split at h <;> first | rfl | exact h.elim) fun f cdv A outer s H vs Q E hr h => ?_
  refine ⟨_, (pss_one (ps_ret (pe_c (c_share T) hr (by decide) (by rfl) (pa_cons (pe_op op_sub (pe_op op_mulA (pe_ix ix_seq (pv 0) pe_int (fun _ _ => rfl)) (pe_ix ix_seq (pv 1) pe_int (fun _ _ => rfl))) (pe_op op_mulA (pe_ix ix_seq (pv 1) pe_int (fun _ _ => rfl)) (pe_ix ix_seq (pv 0) pe_int (fun _ _ => rfl)))) (pa_cons (pe_op op_mulA (pe_ix ix_seq (pv 0) pe_int (fun _ _ => rfl)) (pe_ix ix_seq (pv 1) pe_int (fun _ _ => rfl))) pa_nil))))), ?_⟩
  try simp only [cxOf_K, cxOf_K', cxOf_mg, cxOf_mg']
  unfold sp_minus at h
  split at h
  case h_2 => exact h.elim
  rename_i a b
  rw [show L2.start ["one", "other"] [V.ref a, V.ref b] = [some (V.ref a), some (V.ref b)] from rfl]
  obtain ⟨x, y, u, v, ⟨ha, h1, bx, by_⟩, ⟨hb, h2, bu, bv⟩, q⟩ := h
  walk_at "sts"
  refine L_ixT ha rfl ?_
  walk_at "sts"
  refine L_ixT hb rfl ?_
  refine L_mulI (bx.cmul bv) ?_
  walk_at "sts"
  refine L_ixT hb rfl ?_
  walk_at "sts"
  refine L_ixT ha rfl ?_
  refine L_mulI (bu.cmul by_) ?_
  walk_at "sts"
  refine L_ixT ha rfl ?_
  walk_at "sts"
  refine L_ixT hb rfl ?_
  refine L_mulI (by_.cmul bv) ?_
  walk_at "sts"
  exact ⟨Int.mul_ne_zero (by omega) (by omega), (by_.mul bv).mono (by decide), q⟩
def sp_times (K : PySem.W.Frag) (mg : Str → Option Value) : Sp := fun vs H Q _ => match vs with | [.ref a, .ref b] => ∃ x y u v, Fr2 K H a x y ∧ Fr2 K H b u v ∧ NewT H [.int (shr (x * u) (y * v)).1, .int (shr (x * u) (y * v)).2] Q | _ => False
theorem q_times {H : Hp} {Q : VK} {E : XK} {a : Addr} {b : Addr} (q : ∃ x y u v, Fr2 K H a x y ∧ Fr2 K H b u v ∧ NewT H [.int (shr (x * u) (y * v)).1, .int (shr (x * u) (y * v)).2] Q) : sp_times K mg [.ref a, .ref b] H Q E := q
local macro_rules | `(tactic| walk_at "op") => `(tactic| with_reducible refine q_times ?_)
theorem c_times (T : Txt K mg base) : Cal P w K mg base 3 "times" (sp_times K mg) := by
  refine T.d_times.cal (k := 2) sc_times (by intro vs H Q E h; unfold sp_times at h; split at h <;> first | rfl | exact h.elim) fun f cdv A outer s H vs Q E hr h => ?_
  refine ⟨_, (pss_one (ps_ret (pe_c (c_share T) hr (by decide) (by rfl) (pa_cons (pe_op op_mulA (pe_ix ix_seq (pv 0) pe_int (fun _ _ => rfl)) (pe_ix ix_seq (pv 1) pe_int (fun _ _ => rfl))) (pa_cons (pe_op op_mulA (pe_ix ix_seq (pv 0) pe_int (fun _ _ => rfl)) (pe_ix ix_seq (pv 1) pe_int (fun _ _ => rfl))) pa_nil))))), ?_⟩
  try simp only [cxOf_K, cxOf_K', cxOf_mg, cxOf_mg']
  unfold sp_times at h
  split at h
  case h_2 => exact h.elim
  rename_i a b
  rw [show L2.start ["one", "other"] [V.ref a, V.ref b] = [some (V.ref a), some (V.ref b)] from rfl]
  obtain ⟨x, y, u, v, ⟨ha, h1, bx, by_⟩, ⟨hb, h2, bu, bv⟩, q⟩ := h
  walk_at "sts"
  refine L_ixT ha rfl ?_
  walk_at "sts"
  refine L_ixT hb rfl ?_
  refine L_mulI (bx.cmul bu) ?_
  walk_at "sts"
  refine L_ixT ha rfl ?_
  walk_at "sts"
  refine L_ixT hb rfl ?_
  refine L_mulI (by_.cmul bv) ?_
  walk_at "sts"
  exact ⟨Int.mul_ne_zero (by omega) (by omega), (by_.mul bv).mono (by decide), q⟩
def sp_over (K : PySem.W.Frag) (mg : Str → Option Value) : Sp := fun vs H Q _ => match vs with | [.ref a, .ref b] => ∃ x y u v, Fr2 K H a x y ∧ Fr2 K H b u v ∧ u ≠ 0 ∧ NewT H [.int (shr (x * v) (y * u)).1, .int (shr (x * v) (y * u)).2] Q | _ => False
theorem q_over {H : Hp} {Q : VK} {E : XK} {a : Addr} {b : Addr} (q : ∃ x y u v, Fr2 K H a x y ∧ Fr2 K H b u v ∧ u ≠ 0 ∧ NewT H [.int (shr (x * v) (y * u)).1, .int (shr (x * v) (y * u)).2] Q) : sp_over K mg [.ref a, .ref b] H Q E := q
local macro_rules | `(tactic| walk_at "op") => `(tactic| with_reducible refine q_over ?_)
theorem c_over (T : Txt K mg base) : Cal P w K mg base 3 "over" (sp_over K mg) := by
  refine T.d_over.cal (k := 2) sc_over (by intro vs H Q E h; unfold sp_over at h; split at h <;> first | rfl | exact h.elim) fun f cdv A outer s H vs Q E hr h => ?_
  refine ⟨_, (pss_one (ps_ret (pe_c (c_share T) hr (by decide) (by rfl) (pa_cons (pe_op op_mulA (pe_ix ix_seq (pv 0) pe_int (fun _ _ => rfl)) (pe_ix ix_seq (pv 1) pe_int (fun _ _ => rfl))) (pa_cons (pe_op op_mulA (pe_ix ix_seq (pv 0) pe_int (fun _ _ => rfl)) (pe_ix ix_seq (pv 1) pe_int (fun _ _ => rfl))) pa_nil))))), ?_⟩
  try simp only [cxOf_K, cxOf_K', cxOf_mg, cxOf_mg']
  unfold sp_over at h
  split at h
  case h_2 => exact h.elim
  rename_i a b
  rw [show L2.start ["one", "other"] [V.ref a, V.ref b] = [some (V.ref a), some (V.ref b)] from rfl]
  obtain ⟨x, y, u, v, ⟨ha, h1, bx, by_⟩, ⟨hb, h2, bu, bv⟩, hu, q⟩ := h
  walk_at "sts"
  refine L_ixT ha rfl ?_
  walk_at "sts"
  refine L_ixT hb rfl ?_
  refine L_mulI (bx.cmul bv) ?_
  walk_at "sts"
  refine L_ixT ha rfl ?_
  walk_at "sts"
  refine L_ixT hb rfl ?_
  refine L_mulI (by_.cmul bu) ?_
  walk_at "sts"
  exact ⟨Int.mul_ne_zero (by omega) (by omega), (by_.mul bu).mono (by decide), q⟩
def sp_below (K : PySem.W.Frag) (mg : Str → Option Value) : Sp := fun vs H Q _ => match vs with | [.ref a, .ref b] => ∃ x y u v, Fr2 K H a x y ∧ Fr2 K H b u v ∧ Q (.bl (decide (x * v < u * y))) H | _ => False
theorem q_below {H : Hp} {Q : VK} {E : XK} {a : Addr} {b : Addr} (q : ∃ x y u v, Fr2 K H a x y ∧ Fr2 K H b u v ∧ Q (.bl (decide (x * v < u * y))) H) : sp_below K mg [.ref a, .ref b] H Q E := q
local macro_rules | `(tactic| walk_at "op") => `(tactic| with_reducible refine q_below ?_)
theorem c_below (T : Txt K mg base) : Cal P w K mg base 1 "below" (sp_below K mg) := by
  refine T.d_below.cal (k := 0) sc_below (by intro vs H Q E h; unfold sp_below at h; split at h <;> first | rfl | exact h.elim) fun f cdv A outer s H vs Q E hr h => ?_
  refine ⟨_, (pss_one (ps_ret (pe_cmpR op_ltA (pe_op op_mulA (pe_ix ix_seq (pv 0) pe_int (fun _ _ => rfl)) (pe_ix ix_seq (pv 1) pe_int (fun _ _ => rfl))) (pe_op op_mulA (pe_ix ix_seq (pv 1) pe_int (fun _ _ => rfl)) (pe_ix ix_seq (pv 0) pe_int (fun _ _ => rfl))) (nomark _)))), ?_⟩
  try simp only [cxOf_K, cxOf_K', cxOf_mg, cxOf_mg']
  unfold sp_below at h
  split at h
  case h_2 => exact h.elim
  rename_i a b
  rw [show L2.start ["one", "other"] [V.ref a, V.ref b] = [some (V.ref a), some (V.ref b)] from rfl]
  obtain ⟨x, y, u, v, ⟨ha, h1, bx, by_⟩, ⟨hb, h2, bu, bv⟩, q⟩ := h
  walk_at "sts"
  refine L_ixT ha rfl ?_
  walk_at "sts"
  refine L_ixT hb rfl ?_
  refine L_mulI (bx.cmul bv) ?_
  walk_at "sts"
  refine L_ixT hb rfl ?_
  walk_at "sts"
  refine L_ixT ha rfl ?_
  refine L_mulI (bu.cmul by_) ?_
  walk_at "sts"
  exact q
/-! duels over L: a position and its share's top over L -/
abbrev Ps := Int × Int
inductive Nd where
  | tol (ks : List Int)
  | lst (L : Int) (u : Ps) (ks : List Int)
  | due (L : Int) (u o : Ps) (c : List Ps) (ks : List Int)
def duelN (L : Int) : Option Ps → List Ps → List Int → Nd
  | none, [], ks => .tol ks
  | some u, [], ks => .lst L u ks
  | none, o :: c, ks => duelN L (some o) c ks
  | some u, o :: c, ks => .due L u o c ks
def playN (L : Int) (w l : Ps) (c : List Ps) (ks : List Int) : Nd := if w.2 + l.2 < L then duelN L (some (w.1, w.2 + l.2)) c ks else if w.2 + l.2 = L then duelN L none c (ks ++ [w.1]) else duelN L (some (l.1, w.2 + l.2 - L)) c (ks ++ [w.1])
/-- the sides of two fractions' duel -/
def sidesF (x y : Int × Int) : Int × Int := let bt := x.2 * (shr y.2 x.2).1; if x.1 * (bt / x.2) + y.1 * (bt / y.2) < bt then (x.1 * (bt / x.2), y.1 * (bt / y.2)) else (bt - y.1 * (bt / y.2), bt - x.1 * (bt / x.2))
def sidesD (L a b : Int) : Int × Int := sidesF (low a L) (low b L)
def told : Nd → Option (List Int)
  | .tol ks => some (srtI ks)
  | _ => none
def parts : Nd → List (Int × Nd)
  | .tol _ => []
  | .lst L u ks => [((low u.2 L).1, .tol (ks ++ [u.1])), ((low u.2 L).2 - (low u.2 L).1, .tol ks)]
  | .due L u o c ks => [((sidesD L u.2 o.2).1, playN L u o c ks), ((sidesD L u.2 o.2).2, playN L o u c ks)]
/-- an open one -/
def OpP (L : Int) (p : Ps) : Prop := 0 < p.2 ∧ p.2 < L
structure OkD (L : Int) (c : List Ps) (ks : List Int) : Prop where
  l1 : 1 ≤ L
  l2 : L ≤ 1000000000
  op : ∀ p ∈ c, OpP L p
  n : c.length + ks.length ≤ 24
def PosA (K : PySem.W.Frag) (L : Int) (H : Hp) (v : V) (p : Ps) : Prop := ∃ q t, v = .ref q ∧ SqT K H q [.int p.1, .ref t] ∧ SqT K H t [.int (low p.2 L).1, .int (low p.2 L).2]
theorem PosA.ev {K : PySem.W.Frag} {L : Int} {T : List (Addr × Str)} {H H' : Hp} {v : V} {p : Ps} (h : PosA K L H v p) (e : Ev T H H') : PosA K L H' v p := by
  obtain ⟨q, t, rfl, h1, h2⟩ := h
  exact ⟨q, t, rfl, e.seqT h1, e.seqT h2⟩
theorem PosA.to {K : PySem.W.Frag} {L : Int} {H H' : Hp} {v : V} {p : Ps} (h : PosA K L H v p) (e : Same H H') : PosA K L H' v p := PosA.ev h (.same (T := []) e)
theorem PosA.mu {K : PySem.W.Frag} {L : Int} {H : Hp} {v : V} {p : Ps} {D : Addr} {us : List V} {o : HO} (h : PosA K L H v p) (e : H D = some (.lst us)) : PosA K L (upd H D o) v p := by
  obtain ⟨q, t, rfl, h1, h2⟩ := h
  exact ⟨q, t, rfl, sqT_upd e h1, sqT_upd e h2⟩
theorem sqT_keep {K : PySem.W.Frag} {H Hd : Hp} {a : Addr} {xs : List V} (h : SqT K H a xs) (keep : ∀ b o, H b = some o → (∀ φ, o ≠ .ext φ) → Hd b = some o) : SqT K Hd a xs := by
  rcases h with (h | ⟨o, h⟩) | h
  · exact .inl (.inl (keep _ _ h (fun _ z => nomatch z)))
  · exact .inl (.inr ⟨o, keep _ _ h (fun _ z => nomatch z)⟩)
  · exact .inr h
theorem PosA.keep {K : PySem.W.Frag} {L : Int} {H Hd : Hp} {v : V} {p : Ps} (h : PosA K L H v p) (keep : ∀ b o, H b = some o → (∀ φ, o ≠ .ext φ) → Hd b = some o) : PosA K L Hd v p := by
  obtain ⟨q, t, rfl, h1, h2⟩ := h
  exact ⟨q, t, rfl, sqT_keep h1 keep, sqT_keep h2 keep⟩
/-- those that come -/
def ComA (K : PySem.W.Frag) (P : Addr → Prop) (L : Int) (c : List Ps) (ca : Addr) (H : Hp) : Prop := P ca ∧ ∃ us, H ca = some (.lst us) ∧ Paired (PosA K L H) us c
theorem ComA.ev {K : PySem.W.Frag} {P : Addr → Prop} {L : Int} {c : List Ps} {ca : Addr} {T : List (Addr × Str)} {H H' : Hp} (h : ComA K P L c ca H) (e : Ev T H H') : ComA K P L c ca H' := by
  obtain ⟨hp, us, h1, h2⟩ := h
  exact ⟨hp, us, e.lst h1, paired_imp2 (fun _ _ h => PosA.ev h e) h2⟩
theorem ComA.mu {K : PySem.W.Frag} {P : Addr → Prop} {L : Int} {c : List Ps} {ca : Addr} {H : Hp} {D : Addr} {us : List V} {o : HO} (h : ComA K P L c ca H) (e : H D = some (.lst us)) (nD : ¬ P D) : ComA K P L c ca (upd H D o) := by
  obtain ⟨hp, vs, h1, h2⟩ := h
  exact ⟨hp, vs, by rw [upd_ne fun z => nD (by rw [← z]; exact hp)]; exact h1, paired_imp2 (fun _ _ h => PosA.mu h e) h2⟩
theorem ComA.keep {K : PySem.W.Frag} {P : Addr → Prop} {L : Int} {c : List Ps} {ca : Addr} {H Hd : Hp} (h : ComA K P L c ca H) (keep : ∀ b o, H b = some o → (∀ φ, o ≠ .ext φ) → Hd b = some o) : ComA K P L c ca Hd := by
  obtain ⟨hp, us, h1, h2⟩ := h
  exact ⟨hp, us, keep _ _ h1 (fun _ z => nomatch z), paired_imp2 (fun _ _ h => PosA.keep h keep) h2⟩
def KepA (P : Addr → Prop) (ks : List Int) (ka : Addr) (H : Hp) : Prop := P ka ∧ H ka = some (.lst (ks.map V.int))
theorem KepA.ev {P : Addr → Prop} {ks : List Int} {ka : Addr} {T : List (Addr × Str)} {H H' : Hp} (h : KepA P ks ka H) (e : Ev T H H') : KepA P ks ka H' := ⟨h.1, e.lst h.2⟩
theorem KepA.mu {P : Addr → Prop} {ks : List Int} {ka : Addr} {H : Hp} {D : Addr} {us : List V} {o : HO} (h : KepA P ks ka H) (_ : H D = some (.lst us)) (nD : ¬ P D) : KepA P ks ka (upd H D o) := ⟨h.1, by rw [upd_ne fun z => nD (by rw [← z]; exact h.1)]; exact h.2⟩
theorem KepA.keep {P : Addr → Prop} {ks : List Int} {ka : Addr} {H Hd : Hp} (h : KepA P ks ka H) (keep : ∀ b o, H b = some o → (∀ φ, o ≠ .ext φ) → Hd b = some o) : KepA P ks ka Hd := ⟨h.1, keep _ _ h.2 (fun _ z => nomatch z)⟩
/-- a die of two ways -/
def Die2 (mg : Str → Option Value) (m0 m1 : Int) (f0 f1 : Addr) (v : V) (H : Hp) : Prop := ∃ a dx p q0 q1, v = .ref a ∧ H a = some (.ins (cA mg "Die") dx [("ways", .ref p)]) ∧ H p = some (.tup [.ref q0, .ref q1]) ∧ H q0 = some (.tup [.int m0, .ref f0]) ∧ H q1 = some (.tup [.int m1, .ref f1])
theorem Die2.ev {mg : Str → Option Value} {m0 m1 : Int} {f0 f1 : Addr} {v : V} {T : List (Addr × Str)} {H H' : Hp} (h : Die2 mg m0 m1 f0 f1 v H) (e : Ev T H H') : Die2 mg m0 m1 f0 f1 v H' := by
  obtain ⟨a, dx, p, q0, q1, rfl, h1, h2, h3, h4⟩ := h
  exact ⟨a, dx, p, q0, q1, rfl, e.ins h1, e.tup h2, e.tup h3, e.tup h4⟩
theorem Die2.mu {mg : Str → Option Value} {m0 m1 : Int} {f0 f1 : Addr} {v : V} {H : Hp} {D : Addr} {us : List V} {o : HO} (h : Die2 mg m0 m1 f0 f1 v H) (e : H D = some (.lst us)) : Die2 mg m0 m1 f0 f1 v (upd H D o) := by
  obtain ⟨a, dx, p, q0, q1, rfl, h1, h2, h3, h4⟩ := h
  exact ⟨a, dx, p, q0, q1, rfl, upd_keep e h1 (fun _ z => nomatch z), upd_keep e h2 (fun _ z => nomatch z), upd_keep e h3 (fun _ z => nomatch z), upd_keep e h4 (fun _ z => nomatch z)⟩
/-- the lambdas -/
def LstL (K : PySem.W.Frag) (P : Addr → Prop) (L : Int) (u : Ps) (ks : List Int) (f0 f1 : Addr) (H : Hp) : Prop := (∃ ka uv, LamAt_last_node_l0 [.ref ka, uv] f0 H ∧ KepA P ks ka H ∧ PosA K L H uv u) ∧ ∃ ka, LamAt_last_node_l1 [.ref ka] f1 H ∧ KepA P ks ka H
def DueH (K : PySem.W.Frag) (P : Addr → Prop) (L : Int) (u o : Ps) (c : List Ps) (ks : List Int) (ca ka : Addr) (ov uv : V) (H : Hp) : Prop := ComA K P L (o :: c) ca H ∧ KepA P ks ka H ∧ PosA K L H ov o ∧ PosA K L H uv u
theorem DueH.ev {K : PySem.W.Frag} {P : Addr → Prop} {L : Int} {u o : Ps} {c : List Ps} {ks : List Int} {ca ka : Addr} {ov uv : V} {T : List (Addr × Str)} {H H' : Hp} (h : DueH K P L u o c ks ca ka ov uv H) (e : Ev T H H') : DueH K P L u o c ks ca ka ov uv H' := ⟨h.1.ev e, h.2.1.ev e, PosA.ev h.2.2.1 e, PosA.ev h.2.2.2 e⟩
theorem DueH.mu {K : PySem.W.Frag} {P : Addr → Prop} {L : Int} {u o : Ps} {c : List Ps} {ks : List Int} {ca ka : Addr} {ov uv : V} {H : Hp} {D : Addr} {us : List V} {x : HO} (h : DueH K P L u o c ks ca ka ov uv H) (e : H D = some (.lst us)) (nD : ¬ P D) : DueH K P L u o c ks ca ka ov uv (upd H D x) := ⟨h.1.mu e nD, h.2.1.mu e nD, PosA.mu h.2.2.1 e, PosA.mu h.2.2.2 e⟩
theorem DueH.keep {K : PySem.W.Frag} {P : Addr → Prop} {L : Int} {u o : Ps} {c : List Ps} {ks : List Int} {ca ka : Addr} {ov uv : V} {H Hd : Hp} (h : DueH K P L u o c ks ca ka ov uv H) (k : ∀ b o, H b = some o → (∀ φ, o ≠ .ext φ) → Hd b = some o) : DueH K P L u o c ks ca ka ov uv Hd := ⟨h.1.keep k, h.2.1.keep k, PosA.keep h.2.2.1 k, PosA.keep h.2.2.2 k⟩
def AtN (K : PySem.W.Frag) (mg : Str → Option Value) (P : Addr → Prop) (n : Nd) (v : V) (H : Hp) : Prop := match n with
  | .tol ks => TolA mg (srtI ks) v H
  | .lst L u ks => OkD L [u] ks ∧ ∃ f0 f1, Die2 mg (low u.2 L).1 ((low u.2 L).2 - (low u.2 L).1) f0 f1 v H ∧ LstL K P L u ks f0 f1 H
  | .due L u o c ks => OkD L (u :: o :: c) ks ∧ ∃ f0 f1, Die2 mg (sidesD L u.2 o.2).1 (sidesD L u.2 o.2).2 f0 f1 v H ∧ (∃ ca ka ov uv, LamAt_duel_node_l0 [.ref ca, .ref ka, ov, uv] f0 H ∧ DueH K P L u o c ks ca ka ov uv H) ∧ ∃ ca ka ov uv, LamAt_duel_node_l1 [.ref ca, .ref ka, ov, uv] f1 H ∧ DueH K P L u o c ks ca ka ov uv H
theorem AtN.ev {K : PySem.W.Frag} {mg : Str → Option Value} {P : Addr → Prop} {T : List (Addr × Str)} {H H' : Hp} {v : V} : ∀ {n : Nd}, AtN K mg P n v H → Ev T H H' → AtN K mg P n v H'
  | .tol _, h, e => TolA.ev h e
  | .lst _ _ _, ⟨ok, f0, f1, d, ⟨ka, uv, l0, k0, p0⟩, ka2, l1, k1⟩, e => ⟨ok, f0, f1, d.ev e, ⟨ka, uv, l0.ext e.ex, k0.ev e, PosA.ev p0 e⟩, ka2, l1.ext e.ex, k1.ev e⟩
  | .due _ _ _ _ _, ⟨ok, f0, f1, d, ⟨ca, ka, ov, uv, l0, h0⟩, ca2, ka2, ov2, uv2, l1, h1⟩, e => ⟨ok, f0, f1, d.ev e, ⟨ca, ka, ov, uv, l0.ext e.ex, h0.ev e⟩, ca2, ka2, ov2, uv2, l1.ext e.ex, h1.ev e⟩
theorem AtN.mu {K : PySem.W.Frag} {mg : Str → Option Value} {P : Addr → Prop} {H : Hp} {v : V} {D : Addr} {us : List V} {o : HO} : ∀ {n : Nd}, AtN K mg P n v H → H D = some (.lst us) → ¬ P D → AtN K mg P n v (upd H D o)
  | .tol _, h, e, _ => TolA.mu h e
  | .lst _ _ _, ⟨ok, f0, f1, d, ⟨ka, uv, l0, k0, p0⟩, ka2, l1, k1⟩, e, n => ⟨ok, f0, f1, d.mu e, ⟨ka, uv, l0.up e, k0.mu e n, PosA.mu p0 e⟩, ka2, l1.up e, k1.mu e n⟩
  | .due _ _ _ _ _, ⟨ok, f0, f1, d, ⟨ca, ka, ov, uv, l0, h0⟩, ca2, ka2, ov2, uv2, l1, h1⟩, e, n => ⟨ok, f0, f1, d.mu e, ⟨ca, ka, ov, uv, l0.up e, h0.mu e n⟩, ca2, ka2, ov2, uv2, l1.up e, h1.mu e n⟩
/-- a node is promised -/
def NodeQ (K : PySem.W.Frag) (mg : Str → Option Value) (P : Addr → Prop) (n : Nd) (H : Hp) (Q : VK) : Prop := ∀ x H', Ev (tabsL K mg) H H' → AtN K mg P n x H' → Q x H'
theorem NodeQ.ev {P : Addr → Prop} {n : Nd} {H H1 : Hp} {Q : VK} (q : NodeQ K mg P n H Q) (e : Ev (tabsL K mg) H H1) : NodeQ K mg P n H1 Q := fun x H' e2 a => q x H' (e.trans e2) a
theorem div_le_abs {a b : Int} (h : 0 < b) : (a / b).natAbs ≤ a.natAbs := by
  have := Int.natAbs_ediv_le_natAbs a b
  exact this
def sp_duel_sides (K : PySem.W.Frag) (mg : Str → Option Value) : Sp := fun vs H Q _ => match vs with | [.ref a, .ref b] => ∃ x y : Int × Int, SqT K H a [.int x.1, .int x.2] ∧ SqT K H b [.int y.1, .int y.2] ∧ 1 ≤ x.2 ∧ 1 ≤ y.2 ∧ Bd 64 x.1 ∧ Bd 64 x.2 ∧ Bd 64 y.1 ∧ Bd 64 y.2 ∧ ∀ p H', Same H H' → H' p = some (.tup [.int (sidesF x y).1, .int (sidesF x y).2]) → Q (.ref p) H' | _ => False
theorem q_duel_sides {H : Hp} {Q : VK} {E : XK} {a : Addr} {b : Addr} (q : ∃ x y : Int × Int, SqT K H a [.int x.1, .int x.2] ∧ SqT K H b [.int y.1, .int y.2] ∧ 1 ≤ x.2 ∧ 1 ≤ y.2 ∧ Bd 64 x.1 ∧ Bd 64 x.2 ∧ Bd 64 y.1 ∧ Bd 64 y.2 ∧ ∀ p H', Same H H' → H' p = some (.tup [.int (sidesF x y).1, .int (sidesF x y).2]) → Q (.ref p) H') : sp_duel_sides K mg [.ref a, .ref b] H Q E := q
local macro_rules | `(tactic| walk_at "op") => `(tactic| with_reducible refine q_duel_sides ?_)
theorem c_duel_sides (T : Txt K mg base) : Cal P w K mg base 3 "duel_sides" (sp_duel_sides K mg) := by
  refine T.d_duel_sides.cal (k := 2) sc_duel_sides (by intro vs H Q E h; unfold sp_duel_sides at h; split at h <;> first | rfl | exact h.elim) fun f cdv A outer s H vs Q E hr h => ?_
  refine ⟨_, (pss_cons (ps_set (i := 2) sc_duel_sides.nd rfl (.inl rfl) (pe_op op_mulA (pe_ix ix_seq (pv 0) pe_int (fun _ _ => rfl)) (pe_ix ix_seq (pe_c (c_share T) hr (by decide) (by rfl) (pa_cons (pe_ix ix_seq (pv 1) pe_int (fun _ _ => rfl)) (pa_cons (pe_ix ix_seq (pv 0) pe_int (fun _ _ => rfl)) pa_nil))) pe_int (fun _ _ => rfl))))
    (pss_cons (ps_set (i := 3) sc_duel_sides.nd rfl (.inl rfl) (pe_op op_mulA (pe_ix ix_seq (pv 0) pe_int (fun _ _ => rfl)) (pe_op op_fdivW (pv 2) (pe_ix ix_seq (pv 0) pe_int (fun _ _ => rfl)))))
    (pss_cons (ps_set (i := 4) sc_duel_sides.nd rfl (.inl rfl) (pe_op op_mulA (pe_ix ix_seq (pv 1) pe_int (fun _ _ => rfl)) (pe_op op_fdivW (pv 2) (pe_ix ix_seq (pv 1) pe_int (fun _ _ => rfl)))))
    (pss_cons (ps_if (pt_cmpR op_ltA (pe_op op_addA (pv 3) (pv 4)) (pv 2) (nomark _))
    (pss_one (ps_ret (pe_tup (pa_cons (pv 3) (pa_cons (pv 4) pa_nil)))))
    pss_nil)
    (pss_one (ps_ret (pe_tup (pa_cons (pe_op op_sub (pv 2) (pv 4)) (pa_cons (pe_op op_sub (pv 2) (pv 3)) pa_nil))))))))), ?_⟩
  try simp only [cxOf_K, cxOf_K', cxOf_mg, cxOf_mg']
  unfold sp_duel_sides at h
  split at h
  case h_2 => exact h.elim
  rename_i a b
  rw [show L2.start ["one", "other", "bottom", "first", "second"] [V.ref a, V.ref b] = [some (V.ref a), some (V.ref b), none, none, none] from rfl]
  obtain ⟨x, y, ha, hb, x1, y1, bx1, bx2, by1, by2, q⟩ := h
  walk_at "sts"
  refine L_ixT ha rfl ?_
  walk_at "sts"
  refine L_ixT hb rfl ?_
  walk_at "sts"
  refine L_ixT ha rfl ?_
  walk_at "sts"
  refine ⟨by omega, bx2.mono (by decide), fun p1 H1 hp1 s1 e1 => ?_⟩
  have bt0 := (shr_bd (n := 64) (t := y.2) (b := x.2) (by omega) by2 bx2).1
  refine L_ixT (.of e1) rfl ?_
  refine L_mulI (bx2.cmul bt0) ?_
  have bbt := bx2.mul bt0
  unfold sidesF at q
  dsimp only at q
  generalize x.2 * (shr y.2 x.2).1 = bt at bbt q
  walk_at "sts"
  refine L_ixT (s1.seqT ha) rfl ?_
  walk_at "sts"
  refine L_ixT (s1.seqT ha) rfl ?_
  have d1 : Bd 128 (bt / x.2) := Bd.mono (by unfold Bd at bbt ⊢; exact Nat.lt_of_le_of_lt (div_le_abs (by omega)) bbt) (Nat.le_refl _)
  have d2' : Bd 128 (bt / y.2) := Bd.mono (by unfold Bd at bbt ⊢; exact Nat.lt_of_le_of_lt (div_le_abs (by omega)) bbt) (Nat.le_refl _)
  refine L_I (bx2.cdiv (by omega)) ?_
  refine L_mulI (bx1.cmul d1) ?_
  walk_at "sts"
  refine L_ixT (s1.seqT hb) rfl ?_
  walk_at "sts"
  refine L_ixT (s1.seqT hb) rfl ?_
  refine L_I (by2.cdiv (by omega)) ?_
  refine L_mulI (by1.cmul d2') ?_
  walk_at "sts"
  refine L_d (fun c => ?_) (fun c => ?_)
  · rw [if_pos c] at q
    walk_at "sts"
    walk_at "nw"
    rename_i p2 hp2 H2 s2 e2
    walk_at "sts"
    exact q p2 H2 (s1.trans s2) e2
  · rw [if_neg c] at q
    walk_at "sts"
    walk_at "nw"
    rename_i p2 hp2 H2 s2 e2
    walk_at "sts"
    exact q p2 H2 (s1.trans s2) e2
/-- who is up -/
def UpA (K : PySem.W.Frag) (L : Int) (H : Hp) (v : V) (u : Option Ps) : Prop := match u with
  | none => v = .non
  | some p => PosA K L H v p
theorem UpA.ev {K : PySem.W.Frag} {L : Int} {T : List (Addr × Str)} {H H' : Hp} {v : V} (e : Ev T H H') : ∀ {u : Option Ps}, UpA K L H v u → UpA K L H' v u
  | none, h => h
  | some _, h => PosA.ev h e
theorem okD_tail {L : Int} {p : Ps} {c : List Ps} {ks : List Int} (h : OkD L (p :: c) ks) : OkD L c ks := ⟨h.l1, h.l2, fun x hx => h.op x (List.mem_cons_of_mem _ hx), by have := h.n; rw [List.length_cons] at this; omega⟩
theorem OkD.b {L : Int} {c : List Ps} {ks : List Int} (h : OkD L c ks) {p : Ps} (hp : p ∈ c) : 1 ≤ (low p.2 L).2 ∧ Bd 64 (low p.2 L).1 ∧ Bd 64 (low p.2 L).2 := by
  have := h.op p hp
  have h1 := h.l1
  have h2 := h.l2
  obtain ⟨h3, h4⟩ := this
  exact low_bL (by omega) h2 ⟨by omega, by omega⟩
def sp_is_open (K : PySem.W.Frag) (mg : Str → Option Value) : Sp := fun vs H Q _ => match vs with | [.ref a] => ∃ x y : Int, SqT K H a [.int x, .int y] ∧ Q (.bl (decide (0 < x ∧ x < y))) H | _ => False
theorem q_is_open {H : Hp} {Q : VK} {E : XK} {a : Addr} (q : ∃ x y : Int, SqT K H a [.int x, .int y] ∧ Q (.bl (decide (0 < x ∧ x < y))) H) : sp_is_open K mg [.ref a] H Q E := q
local macro_rules | `(tactic| walk_at "op") => `(tactic| with_reducible refine q_is_open ?_)
theorem c_is_open (T : Txt K mg base) : Cal P w K mg base 1 "is_open" (sp_is_open K mg) := by
  refine T.d_is_open.cal (k := 0) sc_is_open (by intro vs H Q E h; unfold sp_is_open at h; split at h <;> first | rfl | exact h.elim) fun f cdv A outer s H vs Q E hr h => ?_
  refine ⟨_, (pss_one (ps_ret (pe_chain op_ltA op_ltA pe_int (pe_ix ix_seq (pv 0) pe_int (fun _ _ => rfl)) (pe_ix ix_seq (pv 0) pe_int (fun _ _ => rfl))))), ?_⟩
  try simp only [cxOf_K, cxOf_K', cxOf_mg, cxOf_mg']
  unfold sp_is_open at h
  split at h
  case h_2 => exact h.elim
  rename_i a
  rw [show L2.start ["much"] [V.ref a] = [some (V.ref a)] from rfl]
  obtain ⟨x, y, ha, q⟩ := h
  walk_at "sts"
  refine L_ixT ha rfl ?_
  walk_at "sts"
  refine L_d (fun c => ?_) (fun c => ?_)
  · walk_at "sts"
    refine L_ixT ha rfl ?_
    walk_at "sts"
    rw [show decide (0 < x ∧ x < y) = decide (x < y) by by_cases z : x < y <;> simp [c, z]] at q
    exact q
  · rw [decide_eq_false fun z : 0 < x ∧ x < y => c z.1] at q
    exact q
def sp_last_node (K : PySem.W.Frag) (mg : Str → Option Value) : Sp := fun vs H Q _ => match vs with | [uv, .ref ka] => ∃ (P : Addr → Prop) (L : Int) (u : Option Ps) (ks : List Int), UpA K L H uv u ∧ KepA P ks ka H ∧ OkD L u.toList ks ∧ NL P H ∧ Tabs (tabsL K mg) H ∧ NodeQ K mg P (duelN L u [] ks) H Q | _ => False
theorem q_last_node {H : Hp} {Q : VK} {E : XK} {uv : V} {ka : Addr} (q : ∃ (P : Addr → Prop) (L : Int) (u : Option Ps) (ks : List Int), UpA K L H uv u ∧ KepA P ks ka H ∧ OkD L u.toList ks ∧ NL P H ∧ Tabs (tabsL K mg) H ∧ NodeQ K mg P (duelN L u [] ks) H Q) : sp_last_node K mg [uv, .ref ka] H Q E := q
local macro_rules | `(tactic| walk_at "op") => `(tactic| with_reducible refine q_last_node ?_)
theorem c_last_node (T : Txt K mg base) : Cal P w K mg base 3 "last_node" (sp_last_node K mg) := by
  refine T.d_last_node.calK (as := [("up", 0), ("kept", 1)]) (k := 2) sc_last_node (by intro vs H Q E h; unfold sp_last_node at h; split at h <;> first | rfl | exact h.elim) (by decide +kernel) fun f A outer s H vs Q E hr h => ?_
  refine ⟨_, (psr_if (pt_cmpR op_isNA (pv 0) pe_non (nomark _))
    (psr_ret (pe_mk (m_Told T) hr (by decide) (by rfl) (pa_cons (pv 1) pa_nil)))
    (psr_cons (ps_asg (pe_ix ix_seq (pv 0) pe_int (fun _ _ => rfl)) (pg_tup rfl (pgs_cons (pg_name (i := 2) sc_last_node.nd rfl (.inl rfl)) (pgs_cons (pg_name (i := 3) sc_last_node.nd rfl (.inl rfl)) pgs_nil))))
    (psr_cons (ps_set (i := 4) sc_last_node.nd rfl (.inl rfl) (pe_tup (pa_cons (pv 2) (pa_cons (pe_lamE (T := tabsL K mg) (q := "last_node.<locals>.<lambda>") s_last_node e_last_node_0 (by rfl) T.tb_last_node rfl (show ("last_node" : Str) ++ ".<locals>." ++ "<lambda>" = ("last_node.<locals>.<lambda>" : Str) from by decide +kernel) (by unfold tabsL; simp) T.hu_last_node (by rfl) (freeIn_ok (sc := defScope s_last_node) (lsc := lamS s_last_node e_last_node_0) (by decide +kernel))) pa_nil))))
    (psr_cons (ps_set (i := 5) sc_last_node.nd rfl (.inl rfl) (pe_tup (pa_cons (pe_op op_sub (pv 3) (pv 2)) (pa_cons (pe_lamE (T := tabsL K mg) (q := "last_node.<locals>.<lambda>") s_last_node e_last_node_1 (by rfl) T.tb_last_node rfl (show ("last_node" : Str) ++ ".<locals>." ++ "<lambda>" = ("last_node.<locals>.<lambda>" : Str) from by decide +kernel) (by unfold tabsL; simp) T.hu_last_node (by rfl) (freeIn_ok (sc := defScope s_last_node) (lsc := lamS s_last_node e_last_node_1) (by decide +kernel))) pa_nil))))
    (psr_ret (pe_mk (m_Die T) hr (by decide) (by rfl) (pa_cons (pe_lst (pa_cons (pv 4) (pa_cons (pv 5) pa_nil))) pa_nil))))))), ?_⟩
  try simp only [cxOf_K, cxOf_K', cxOf_mg, cxOf_mg']
  unfold sp_last_node at h
  split at h
  case h_2 => exact h.elim
  rename_i uv ka
  rw [show L2.start ["up", "kept", "top", "bottom", "first", "second"] [uv, V.ref ka] = [some (uv), some (V.ref ka), none, none, none, none] from rfl]
  obtain ⟨P, L, u, ks, hu, hk, ok, hNL, hT, q⟩ := h
  walk_at "sts"
  cases u with
  | none =>
    replace hu : uv = .non := hu
    subst hu
    refine L_dT rfl ?_
    walk_at "sts"
    refine fun x dx nx nd ne => ?_
    have s1 := same_made (C := cA mg "Told") nx nd ne
    have hn := ok.n
    refine ⟨dx, ks, upd_same, .of (s1 _ _ hk.2), by omega, fun p H' keep hx' hp' => ⟨rfl, ?_⟩⟩
    have s2 : Same H H' := fun b o hb => keep b o (s1 _ _ hb) (ne_of_none hb nx)
    refine ⟨[], [], by simp, by simp, rfl, fun H2 _ sm _ => q _ _ (.same (s2.trans sm)) ?_⟩
    exact ⟨x, dx, p, rfl, sm _ _ hx', sm _ _ hp'⟩
  | some p =>
    replace hu : PosA K L H uv p := hu
    have hu' := hu
    obtain ⟨q0, t, rfl, h1, h2⟩ := hu'
    refine L_dF (fun z => nomatch z) ?_
    walk_at "sts"
    refine L_ixT h1 rfl ?_
    refine L_gTup h2 rfl ?_
    walk_at "sts"
    refine ⟨hT, fun f0 c0 H1 ex1 T1 hf1 l1 k1 => ?_⟩
    walk_at "sts"
    walk_at "nw"
    rename_i q1 hq1 H2 s2 e2
    walk_at "sts"
    refine ⟨T1.ext s2, fun f1 c1 H3 ex3 T3 hf3 l3 k3 => ?_⟩
    walk_at "sts"
    walk_at "nw"
    rename_i q2 hq2 H4 s4 e4
    walk_at "sts"
    walk_at "nw"
    rename_i p5 hp5 H5 s5 e5
    walk_at "sts"
    refine fun x dx nx nd ne => ?_
    have s6 := same_made (C := cA mg "Die") nx nd ne
    refine ⟨dx, [.ref q1, .ref q2], upd_same, .of (s6 _ _ e5), fun pp H6 keep hx6 hp6 => ⟨rfl, ?_⟩⟩
    have s56 : Same H5 H6 := fun b o hb => keep b o (s6 _ _ hb) (ne_of_none hb nx)
    have ev12 : Ev (tabsL K mg) H1 H3 := (Ev.same s2).trans (.made ex3 T3)
    have ev36 : Ev (tabsL K mg) H3 H6 := .same (s4.trans (s5.trans s56))
    have evH : Ev (tabsL K mg) H H6 := (Ev.made ex1 T1).trans (ev12.trans ev36)
    refine ⟨[("up", 0), ("kept", 1)], [.ref q0, .ref ka], by simp, by decide +kernel, rfl, fun H7 inj sm hat => ?_⟩
    have ev7 : Ev (tabsL K mg) H6 H7 := .same sm
    obtain ⟨a0, g0, _, g1⟩ := hat 0 _ _ rfl rfl
    obtain ⟨a1, g2, _, g3⟩ := hat 1 _ _ rfl rfl
    have cells : ∀ (i : Nat) y w, ([("kept" : Str), "up"] : List Str)[i]? = some y → ([V.ref ka, V.ref q0] : List V)[i]? = some w → ∃ c, (cellsFrom (s.heap.objs.size + 1) (defScope s_last_node).names []).lookup y = some c ∧ H7 c = some (CellO c w) := fun i y w hi hw => by
      match i, hi, hw with
      | 0, hi, hw => cases hi; cases hw; exact ⟨a1, g2, g3⟩
      | 1, hi, hw => cases hi; cases hw; exact ⟨a0, g0, g1⟩
    have cells1 : ∀ (i : Nat) y w, ([("kept" : Str)] : List Str)[i]? = some y → ([V.ref ka] : List V)[i]? = some w → ∃ c, (cellsFrom (s.heap.objs.size + 1) (defScope s_last_node).names []).lookup y = some c ∧ H7 c = some (CellO c w) := fun i y w hi hw => by
      match i, hi, hw with
      | 0, hi, hw => cases hi; cases hw; exact ⟨a1, g2, g3⟩
    have ev17 := ev12.trans (ev36.trans ev7)
    have ev37 := ev36.trans ev7
    have L0 : LamAt_last_node_l0 [.ref ka, .ref q0] f0 H7 := ⟨c0, _, ev17.ex _ _ l1 (fun _ z => nomatch z), ev17.ex _ _ k1 codeO_ne, heldC_of inj (frIs_ok (by decide +kernel)) rfl cells⟩
    have L1 : LamAt_last_node_l1 [.ref ka] f1 H7 := ⟨c1, _, ev37.ex _ _ l3 (fun _ z => nomatch z), ev37.ex _ _ k3 codeO_ne, heldC_of inj (frIs_ok (by decide +kernel)) rfl cells1⟩
    have evA := evH.trans ev7
    exact q _ _ evA ⟨ok, f0, f1, ⟨x, dx, pp, q1, q2, rfl, ev7.ins hx6, ev7.tup hp6, ((Ev.made ex3 T3).trans ev37).tup e2, ((Ev.same (s5.trans s56) : Ev (tabsL K mg) _ _).trans ev7).tup e4⟩, ⟨ka, _, L0, hk.ev evA, PosA.ev hu evA⟩, ka, L1, hk.ev evA⟩
def sp_last_node_l0 (K : PySem.W.Frag) (mg : Str → Option Value) : List V → Hp → VK → Prop := fun ws H Q => match ws with | [.ref ka, uv] => ∃ (P : Addr → Prop) (L : Int) (u : Ps) (ks : List Int), KepA P ks ka H ∧ PosA K L H uv u ∧ ks.length ≤ 30 ∧ ∀ v H', Same H H' → TolA mg (srtI (ks ++ [u.1])) v H' → Q v H' | _ => False
/-- the lambda called -/
abbrev tClo_last_node_l0 (K : PySem.W.Frag) (mg : Str → Option Value) (i : Nat) : TE := tClo "last_node.<locals>.<lambda>" (lamP s_last_node e_last_node_0) (lamB e_last_node_0) (lamS s_last_node e_last_node_0) ["kept", "up"] i (sp_last_node_l0 K mg)
theorem c_last_node_l0 (T : Txt K mg base) : LOk P w K mg base 3 "last_node.<locals>.<lambda>" (lamP s_last_node e_last_node_0) (lamB e_last_node_0) (lamS s_last_node e_last_node_0) ["kept", "up"] (sp_last_node_l0 K mg) := by
  refine lok_of (N := ["kept", "up"]) (k := 2) (nscope_by (by decide +kernel)) (fun _ _ _ _ => rfl) fun f c cl A outer s H ws Q hr len h => ?_
  refine ⟨_, (pe_mk (m_Told T) hr (by decide) (by rfl) (pa_cons (pe_op op_addA (pv 0) (pe_lst (pa_cons (pe_ix ix_seq (pv 1) pe_int (fun _ _ => rfl)) pa_nil))) pa_nil)), ?_⟩
  try simp only [ncx_K, ncx_mg]
  unfold sp_last_node_l0 at h
  split at h
  case h_2 => exact h.elim
  rename_i ka uv
  rw [show startF ["kept", "up"] [] ([V.ref ka, uv].map some) = [some (V.ref ka), some (uv)] from rfl]
  obtain ⟨P, L, u, ks, hk, ⟨q0, t, rfl, h1, h2⟩, hl, q⟩ := h
  walk_at "sts"
  refine L_ixT h1 rfl ?_
  walk_at "sts"
  walk_at "nw"
  rename_i p1 hp1 H1 s1 e1
  walk_at "sts"
  refine L_addL (s1 _ _ hk.2) e1 (sz_dec (by simp; omega)) ?_
  walk_at "nwp"
  rename_i p2 hp2 H2 s2 e2
  have e2' : H2 p2 = some (.lst ((ks ++ [u.1]).map V.int)) := by rw [e2, List.map_append]; rfl
  walk_at "sts"
  refine fun x dx nx nd ne => ?_
  have s3 := same_made (C := cA mg "Told") nx nd ne
  refine ⟨dx, ks ++ [u.1], upd_same, .of (s3 _ _ e2'), by rw [List.length_append]; simp; omega, fun p H' keep hx' hp' => ⟨rfl, ?_⟩⟩
  have s4 : Same H2 H' := fun b o hb => keep b o (s3 _ _ hb) (ne_of_none hb nx)
  exact q _ _ (s1.trans (s2.trans s4)) ⟨x, dx, p, rfl, hx', hp'⟩
def sp_last_node_l1 (K : PySem.W.Frag) (mg : Str → Option Value) : List V → Hp → VK → Prop := fun ws H Q => match ws with | [.ref ka] => ∃ (P : Addr → Prop) (ks : List Int), KepA P ks ka H ∧ ks.length ≤ 30 ∧ ∀ v H', Same H H' → TolA mg (srtI ks) v H' → Q v H' | _ => False
/-- the lambda called -/
abbrev tClo_last_node_l1 (K : PySem.W.Frag) (mg : Str → Option Value) (i : Nat) : TE := tClo "last_node.<locals>.<lambda>" (lamP s_last_node e_last_node_1) (lamB e_last_node_1) (lamS s_last_node e_last_node_1) ["kept"] i (sp_last_node_l1 K mg)
theorem c_last_node_l1 (T : Txt K mg base) : LOk P w K mg base 3 "last_node.<locals>.<lambda>" (lamP s_last_node e_last_node_1) (lamB e_last_node_1) (lamS s_last_node e_last_node_1) ["kept"] (sp_last_node_l1 K mg) := by
  refine lok_of (N := ["kept"]) (k := 2) (nscope_by (by decide +kernel)) (fun _ _ _ _ => rfl) fun f c cl A outer s H ws Q hr len h => ?_
  refine ⟨_, (pe_mk (m_Told T) hr (by decide) (by rfl) (pa_cons (pv 0) pa_nil)), ?_⟩
  try simp only [ncx_K, ncx_mg]
  unfold sp_last_node_l1 at h
  split at h
  case h_2 => exact h.elim
  rename_i ka
  rw [show startF ["kept"] [] ([V.ref ka].map some) = [some (V.ref ka)] from rfl]
  obtain ⟨P, ks, hk, hl, q⟩ := h
  walk_at "sts"
  refine fun x dx nx nd ne => ?_
  have s3 := same_made (C := cA mg "Told") nx nd ne
  refine ⟨dx, ks, upd_same, .of (s3 _ _ hk.2), by omega, fun p H' keep hx' hp' => ⟨rfl, ?_⟩⟩
  have s4 : Same H H' := fun b o hb => keep b o (s3 _ _ hb) (ne_of_none hb nx)
  exact q _ _ s4 ⟨x, dx, p, rfl, hx', hp'⟩
theorem paired_drop1 {α β : Type} {F : α → β → Prop} : ∀ {xs : List α} {ys : List β}, Paired F xs ys → Paired F (xs.drop 1) (ys.drop 1)
  | _, _, .nil => .nil
  | _, _, .cons _ t => t
def dP (L : Int) (p : Ps) : PyData := .tuple [.int p.1, d2 (low p.2 L)]
theorem posA_dp {K : PySem.W.Frag} {L : Int} {H : Hp} : ∀ {us : List V} {c : List Ps}, Paired (PosA K L H) us c → DpAll K H us (c.map (dP L))
  | _, [], h => by cases h; exact .nil
  | _, p :: c, h => by
    cases h with | cons h1 h2 =>
    obtain ⟨q, t, rfl, h3, h4⟩ := h1
    exact .cons (.tup h3 (.cons (.int _) (.cons (.tup h4 (.cons (.int _) (.cons (.int _) .nil))) .nil))) (posA_dp h2)
theorem shp_dP {L : Int} {c : List Ps} : SeqAt.shaped (.list (c.map (dP L))) = true := (shp_lst (n := 2) (shp_map fun p _ => shp_tup (n := 1) (shp_cons shp_int (shp_cons (shp_tup (n := 0) (shp_cons shp_int (shp_cons shp_int shp_nil))) shp_nil)))).ok
def spq_duel_node (D : Nat) (K : PySem.W.Frag) (mg : Str → Option Value) : Sp := fun vs H Q _ => match vs with | [uv, .ref ca, .ref ka] => ∃ (P : Addr → Prop) (L : Int) (u : Option Ps) (c : List Ps) (ks : List Int), (u = none → c ≠ [] → 1 ≤ D) ∧ UpA K L H uv u ∧ ComA K P L c ca H ∧ KepA P ks ka H ∧ OkD L (u.toList ++ c) ks ∧ NL P H ∧ Tabs (tabsL K mg) H ∧ NodeQ K mg P (duelN L u c ks) H Q | _ => False
def spr_duel_node : Nat → PySem.W.Frag → (Str → Option Value) → Sp
  | 0, _, _ => fun _ _ _ _ => False
  | D + 1, K, mg => spq_duel_node D K mg
abbrev sp_duel_node (K : PySem.W.Frag) (mg : Str → Option Value) : Sp := spr_duel_node 2 K mg
theorem cr_duel_node (T : Txt K mg base) : ∀ D : Nat, Cal P w K mg base (3 + D) "duel_node" (spr_duel_node D K mg)
  | 0 => T.d_duel_node.calF
  | D + 1 => by
    have ih := cr_duel_node T D
    refine T.d_duel_node.calK (as := [("up", 0), ("coming", 1), ("kept", 2), ("other", 6)]) (k := 3 + D) sc_duel_node (by intro vs H Q E h; replace h : spq_duel_node D K mg vs H Q E := h; unfold spq_duel_node at h; split at h <;> first | rfl | exact h.elim) (by decide +kernel) fun f A outer s H vs Q E hr h => ?_
    refine ⟨_, (psr_if (pt_cmpR (op_eqA hr) (pv 1) (pe_lst pa_nil) (nomark _))
    (psr_ret (pe_c (c_last_node T) hr (by omega) (by rfl) (pa_cons (pv 0) (pa_cons (pv 2) pa_nil))))
    (psr_cons (ps_set (i := 6) sc_duel_node.nd rfl (.inr rfl) (pe_ix ix_seq (pv 1) pe_int (fun _ _ => rfl)))
    (psr_if (pt_cmpR op_isNA (pv 0) pe_non (nomark _))
    (psr_ret (pe_c ih hr (by omega) (by rfl) (pa_cons (pv 6) (pa_cons (pe_slice sl_list (pv 1) (po_some pe_int) po_none) (pa_cons (pv 2) pa_nil)))))
    (psr_cons (ps_set (i := 3) sc_duel_node.nd rfl (.inl rfl) (pe_c (c_duel_sides T) hr (by omega) (by rfl) (pa_cons (pe_ix ix_seq (pv 0) pe_int (fun _ _ => rfl)) (pa_cons (pe_ix ix_seq (pv 6) pe_int (fun _ _ => rfl)) pa_nil))))
    (psr_cons (ps_set (i := 4) sc_duel_node.nd rfl (.inl rfl) (pe_tup (pa_cons (pe_ix ix_seq (pv 3) pe_int (fun _ _ => rfl)) (pa_cons (pe_lamE (T := tabsL K mg) (q := "duel_node.<locals>.<lambda>") s_duel_node e_duel_node_0 (by rfl) T.tb_duel_node rfl (show ("duel_node" : Str) ++ ".<locals>." ++ "<lambda>" = ("duel_node.<locals>.<lambda>" : Str) from by decide +kernel) (by unfold tabsL; simp) T.hu_duel_node (by rfl) (freeIn_ok (sc := defScope s_duel_node) (lsc := lamS s_duel_node e_duel_node_0) (by decide +kernel))) pa_nil))))
    (psr_cons (ps_set (i := 5) sc_duel_node.nd rfl (.inl rfl) (pe_tup (pa_cons (pe_ix ix_seq (pv 3) pe_int (fun _ _ => rfl)) (pa_cons (pe_lamE (T := tabsL K mg) (q := "duel_node.<locals>.<lambda>") s_duel_node e_duel_node_1 (by rfl) T.tb_duel_node rfl (show ("duel_node" : Str) ++ ".<locals>." ++ "<lambda>" = ("duel_node.<locals>.<lambda>" : Str) from by decide +kernel) (by unfold tabsL; simp) T.hu_duel_node (by rfl) (freeIn_ok (sc := defScope s_duel_node) (lsc := lamS s_duel_node e_duel_node_1) (by decide +kernel))) pa_nil))))
    (psr_ret (pe_mk (m_Die T) hr (by omega) (by rfl) (pa_cons (pe_lst (pa_cons (pv 4) (pa_cons (pv 5) pa_nil))) pa_nil))))))))), ?_⟩
    try simp only [cxOf_K, cxOf_K', cxOf_mg, cxOf_mg']
    replace h : spq_duel_node D K mg vs H Q E := h
    unfold spq_duel_node at h
    split at h
    case h_2 => exact h.elim
    rename_i uv ca ka
    rw [show L2.start ["up", "coming", "kept", "sides", "first", "second", "other"] [uv, V.ref ca, V.ref ka] = [some (uv), some (V.ref ca), some (V.ref ka), none, none, none, none] from rfl]
    obtain ⟨P, L, u, c, ks, hD, hu, hc, hk, ok, hNL, hT, q⟩ := h
    have hc' := hc
    obtain ⟨hPc, us, hca, hcp⟩ := hc'
    walk_at "sts"
    walk_at "nw"
    rename_i p1 hp1 H1 s1 e1
    walk_at "sts"
    refine L_eqD (d := .list (c.map (dP L))) (e := .list []) (.lst (.of (s1 _ _ hca)) ((posA_dp hcp).same s1)) (.lst (.of e1) .nil) shp_dP (shp_lst (n := 0) shp_nil).ok ?_
    rw [eqv_nil, List.isEmpty_map]
    refine ⟨c.isEmpty, rfl, ?_⟩
    have ev1 : Ev (tabsL K mg) H H1 := .same s1
    have hc2 := hc
    cases c with
    | nil =>
      rw [List.append_nil] at ok
      rw [show ([] : List Ps).isEmpty = true from rfl]
      walk_at "sts"
      refine ⟨P, L, u, ks, UpA.ev ev1 hu, hk.ev ev1, ok, hNL.ev ev1, ev1.tb hT, fun x H2 ev2 at2 => ?_⟩
      refine ⟨[], [], by simp, by simp, rfl, fun H3 _ sm _ => q _ _ (ev1.trans (ev2.trans (.same sm))) (AtN.ev at2 (Ev.same sm : Ev (tabsL K mg) _ _))⟩
    | cons o c =>
      cases hcp with | cons ho hcp2 =>
      rw [show (o :: c).isEmpty = false from rfl]
      walk_at "sts"
      refine L_ixL (.of (s1 _ _ hca)) (atI_int (by decide) rfl) ?_
      walk_at "sts"
      cases u with
      | none =>
        replace hu : uv = .non := hu
        subst hu
        refine L_dT rfl ?_
        walk_at "sts"
        obtain ⟨_, us1, hca1, hcp1⟩ := hc2
        refine L_slL (.of (s1 _ _ hca1)) fun p2 hp2 => ?_
        rw [show us1 = us1.map id by rw [List.map_id], cutV_map, show cutG us1 (some 1) none = us1.drop 1 from cutG_drop us1 1, List.map_id]
        have s2 := same_new (o := .lst (us1.drop 1)) hp2
        have e2 : upd H1 p2 (.lst (us1.drop 1)) p2 = some (.lst (us1.drop 1)) := upd_same
        generalize upd H1 p2 (.lst (us1.drop 1)) = H2 at s2 e2 ⊢
        have ev12 := ev1.trans (Ev.same s2 : Ev (tabsL K mg) H1 H2)
        walk_at "sts"
        cases D with
        | zero => exact absurd (hD rfl (by simp)) (by decide)
        | succ D' =>
          rw [show spr_duel_node (D' + 1) K mg = spq_duel_node D' K mg from rfl]
          unfold spq_duel_node
          dsimp only
          refine ⟨P, L, some o, c, ks, (fun z => nomatch z), PosA.ev ho ev12, ⟨hNL.new (s1.free hp2), us1.drop 1, e2, paired_drop1 (ys := o :: c) (paired_imp2 (fun _ _ h => PosA.ev h ev12) hcp1)⟩, hk.ev ev12, ok, hNL.ev ev12, ev12.tb hT, fun x H3 ev3 at3 => ?_⟩
          refine ⟨[], [], by simp, by simp, rfl, fun H4 _ sm _ => q _ _ (ev12.trans (ev3.trans (.same sm))) (AtN.ev at3 (Ev.same sm : Ev (tabsL K mg) _ _))⟩
      | some p =>
        replace hu : PosA K L H uv p := hu
        have hu' := hu
        obtain ⟨q0, t0, rfl, g1, g2⟩ := hu'
        have ho' := ho
        obtain ⟨q1, t1, rfl, g3, g4⟩ := ho'
        have bp := ok.b (p := p) (by simp)
        have bo := ok.b (p := o) (by simp)
        refine L_dF (fun z => nomatch z) ?_
        walk_at "sts"
        refine L_ixT (s1.seqT g1) rfl ?_
        walk_at "sts"
        refine L_ixT (s1.seqT g3) rfl ?_
        walk_at "sts"
        refine ⟨low p.2 L, low o.2 L, s1.seqT g2, s1.seqT g4, bp.1, bo.1, bp.2.1, bp.2.2, bo.2.1, bo.2.2, fun p2 H2 s2 e2 => ?_⟩
        have ev2 : Ev (tabsL K mg) H1 H2 := .same s2
        walk_at "sts"
        refine L_ixT (.of e2) rfl ?_
        walk_at "sts"
        refine ⟨(ev1.trans ev2).tb hT, fun f0 c0 H3 ex3 T3 hf3 l3 k3 => ?_⟩
        have ev3 : Ev (tabsL K mg) H2 H3 := .made ex3 T3
        walk_at "sts"
        walk_at "nw"
        rename_i r0 hr0 H4 s4 e4
        walk_at "sts"
        refine L_ixT (.of (s4 _ _ (ev3.tup e2))) rfl ?_
        walk_at "sts"
        refine ⟨T3.ext s4, fun f1 c1 H5 ex5 T5 hf5 l5 k5 => ?_⟩
        have ev5 : Ev (tabsL K mg) H4 H5 := .made ex5 T5
        walk_at "sts"
        walk_at "nw"
        rename_i r1 hr1 H6 s6 e6
        walk_at "sts"
        walk_at "nw"
        rename_i p7 hp7 H7 s7 e7
        walk_at "sts"
        refine fun x dx nx nd ne => ?_
        have s8 := same_made (C := cA mg "Die") nx nd ne
        refine ⟨dx, [.ref r0, .ref r1], upd_same, .of (s8 _ _ e7), fun pp H8 keep hx8 hp8 => ⟨rfl, ?_⟩⟩
        have s78 : Same H7 H8 := fun b o hb => keep b o (s8 _ _ hb) (ne_of_none hb nx)
        have ev34 : Ev (tabsL K mg) H3 H4 := .same s4
        have ev58 : Ev (tabsL K mg) H5 H8 := .same (s6.trans (s7.trans s78))
        refine ⟨[("up", 0), ("coming", 1), ("kept", 2), ("other", 6)], [.ref q0, .ref ca, .ref ka, .ref q1], by simp, by decide +kernel, rfl, fun H9 inj sm hat => ?_⟩
        have ev9 : Ev (tabsL K mg) H8 H9 := .same sm
        obtain ⟨a0, g5, _, g6⟩ := hat 0 _ _ rfl rfl
        obtain ⟨a1, g7, _, g8⟩ := hat 1 _ _ rfl rfl
        obtain ⟨a2, g9, _, g10⟩ := hat 2 _ _ rfl rfl
        obtain ⟨a3, g11, _, g12⟩ := hat 3 _ _ rfl rfl
        have cells : ∀ (i : Nat) y w, ([("coming" : Str), "kept", "other", "up"] : List Str)[i]? = some y → ([V.ref ca, V.ref ka, V.ref q1, V.ref q0] : List V)[i]? = some w → ∃ c, (cellsFrom (s.heap.objs.size + 1) (defScope s_duel_node).names []).lookup y = some c ∧ H9 c = some (CellO c w) := fun i y w hi hw => by
          match i, hi, hw with
          | 0, hi, hw => cases hi; cases hw; exact ⟨a1, g7, g8⟩
          | 1, hi, hw => cases hi; cases hw; exact ⟨a2, g9, g10⟩
          | 2, hi, hw => cases hi; cases hw; exact ⟨a3, g11, g12⟩
          | 3, hi, hw => cases hi; cases hw; exact ⟨a0, g5, g6⟩
        have ev59 := ev58.trans ev9
        have ev39 := ev34.trans (ev5.trans ev59)
        have L0 : LamAt_duel_node_l0 [.ref ca, .ref ka, .ref q1, .ref q0] f0 H9 := ⟨c0, _, ev39.ex _ _ l3 (fun _ z => nomatch z), ev39.ex _ _ k3 codeO_ne, heldC_of inj (frIs_ok (by decide +kernel)) rfl cells⟩
        have L1 : LamAt_duel_node_l1 [.ref ca, .ref ka, .ref q1, .ref q0] f1 H9 := ⟨c1, _, ev59.ex _ _ l5 (fun _ z => nomatch z), ev59.ex _ _ k5 codeO_ne, heldC_of inj (frIs_ok (by decide +kernel)) rfl cells⟩
        have evA := ev1.trans (ev2.trans (ev3.trans ev39))
        have hh : DueH K P L p o c ks ca ka (.ref q1) (.ref q0) H9 := ⟨hc.ev evA, hk.ev evA, PosA.ev ho evA, PosA.ev hu evA⟩
        exact q _ _ evA ⟨ok, f0, f1, ⟨x, dx, pp, r0, r1, rfl, ev9.ins hx8, ev9.tup hp8, (ev5.trans ev59).tup e4, ((Ev.same (s7.trans s78) : Ev (tabsL K mg) _ _).trans ev9).tup e6⟩, ⟨ca, ka, _, _, L0, hh⟩, ca, ka, _, _, L1, hh⟩
theorem c_duel_node (T : Txt K mg base) : Cal P w K mg base 5 "duel_node" (sp_duel_node K mg) := cr_duel_node T 2
theorem q_duel {H : Hp} {Q : VK} {E : XK} {uv : V} {ca ka : Addr} (q : ∃ (P : Addr → Prop) (L : Int) (u : Option Ps) (c : List Ps) (ks : List Int), UpA K L H uv u ∧ ComA K P L c ca H ∧ KepA P ks ka H ∧ OkD L (u.toList ++ c) ks ∧ NL P H ∧ Tabs (tabsL K mg) H ∧ NodeQ K mg P (duelN L u c ks) H Q) : sp_duel_node K mg [uv, .ref ca, .ref ka] H Q E := by
  obtain ⟨P, L, u, c, ks, h⟩ := q
  exact ⟨P, L, u, c, ks, fun _ _ => Nat.le_refl _, h⟩
def sp_played (K : PySem.W.Frag) (mg : Str → Option Value) : Sp := fun vs H Q _ => match vs with | [wv, lv, .ref ca, .ref ka] => ∃ (P : Addr → Prop) (L : Int) (w l : Ps) (c : List Ps) (ks : List Int), PosA K L H wv w ∧ PosA K L H lv l ∧ ComA K P L c ca H ∧ KepA P ks ka H ∧ OkD L (w :: l :: c) ks ∧ NL P H ∧ Tabs (tabsL K mg) H ∧ NodeQ K mg P (playN L w l c ks) H Q | _ => False
theorem q_played {H : Hp} {Q : VK} {E : XK} {wv : V} {lv : V} {ca : Addr} {ka : Addr} (q : ∃ (P : Addr → Prop) (L : Int) (w l : Ps) (c : List Ps) (ks : List Int), PosA K L H wv w ∧ PosA K L H lv l ∧ ComA K P L c ca H ∧ KepA P ks ka H ∧ OkD L (w :: l :: c) ks ∧ NL P H ∧ Tabs (tabsL K mg) H ∧ NodeQ K mg P (playN L w l c ks) H Q) : sp_played K mg [wv, lv, .ref ca, .ref ka] H Q E := q
local macro_rules | `(tactic| walk_at "op") => `(tactic| with_reducible refine q_played ?_)
theorem c_played (T : Txt K mg base) : Cal P w K mg base 6 "played" (sp_played K mg) := by
  refine T.d_played.cal (k := 5) sc_played (by intro vs H Q E h; unfold sp_played at h; split at h <;> first | rfl | exact h.elim) fun f cdv A outer s H vs Q E hr h => ?_
  refine ⟨_, (pss_cons (ps_set (i := 4) sc_played.nd rfl (.inl rfl) (pe_c (c_plus T) hr (by decide) (by rfl) (pa_cons (pe_ix ix_seq (pv 0) pe_int (fun _ _ => rfl)) (pa_cons (pe_ix ix_seq (pv 1) pe_int (fun _ _ => rfl)) pa_nil))))
    (pss_cons (ps_if (pt_val (pe_c (c_below T) hr (by decide) (by rfl) (pa_cons (pv 4) (pa_cons (pe_glob (v := .ref (cA mg "SURE")) (by rfl) T.m_SURE rfl) pa_nil))))
    (pss_one (ps_ret (pe_c (c_duel_node T) hr (by decide) (by rfl) (pa_cons (pe_tup (pa_cons (pe_ix ix_seq (pv 0) pe_int (fun _ _ => rfl)) (pa_cons (pv 4) pa_nil))) (pa_cons (pv 2) (pa_cons (pv 3) pa_nil))))))
    pss_nil)
    (pss_cons (ps_set (i := 5) sc_played.nd rfl (.inl rfl) (pe_c (c_minus T) hr (by decide) (by rfl) (pa_cons (pv 4) (pa_cons (pe_glob (v := .ref (cA mg "SURE")) (by rfl) T.m_SURE rfl) pa_nil))))
    (pss_cons (ps_if (pt_cmpR (op_eqA hr) (pv 5) (pe_glob (v := .ref (cA mg "NOUGHT")) (by rfl) T.m_NOUGHT rfl) (nomark _))
    (pss_one (ps_ret (pe_c (c_duel_node T) hr (by decide) (by rfl) (pa_cons pe_non (pa_cons (pv 2) (pa_cons (pe_op op_addA (pv 3) (pe_lst (pa_cons (pe_ix ix_seq (pv 0) pe_int (fun _ _ => rfl)) pa_nil))) pa_nil))))))
    pss_nil)
    (pss_one (ps_ret (pe_c (c_duel_node T) hr (by decide) (by rfl) (pa_cons (pe_tup (pa_cons (pe_ix ix_seq (pv 1) pe_int (fun _ _ => rfl)) (pa_cons (pv 5) pa_nil))) (pa_cons (pv 2) (pa_cons (pe_op op_addA (pv 3) (pe_lst (pa_cons (pe_ix ix_seq (pv 0) pe_int (fun _ _ => rfl)) pa_nil))) pa_nil)))))))))), ?_⟩
  try simp only [cxOf_K, cxOf_K', cxOf_mg, cxOf_mg']
  unfold sp_played at h
  split at h
  case h_2 => exact h.elim
  rename_i wv lv ca ka
  rw [show L2.start ["winner", "loser", "coming", "kept", "total", "rest"] [wv, lv, V.ref ca, V.ref ka] = [some (wv), some (lv), some (V.ref ca), some (V.ref ka), none, none] from rfl]
  obtain ⟨P, L, w0, l, c, ks, hw, hl, hc, hk, ok, hNL, hT, q⟩ := h
  have hw' := hw
  have hl' := hl
  obtain ⟨q0, t0, rfl, g1, g2⟩ := hw'
  obtain ⟨q1, t1, rfl, g3, g4⟩ := hl'
  have bw := ok.b (p := w0) (by simp)
  have bl := ok.b (p := l) (by simp)
  have ow := ok.op w0 (by simp)
  have ol := ok.op l (by simp)
  have l1 := ok.l1
  have l2 := ok.l2
  have hL : 0 < L := by omega
  have fr : ∀ {H' : Hp} {t : Addr} {s : Int}, -1000000000000 ≤ s ∧ s ≤ 1000000000000 → SqT K H' t [.int (low s L).1, .int (low s L).2] → Fr2 K H' t (low s L).1 (low s L).2 := fun hs ht => by
    have b := low_bL hL l2 hs
    exact ⟨ht, b.1, b.2.1.mono (by decide), b.2.2.mono (by decide)⟩
  have sure : ∀ H', Fr2 K H' (cA mg "SURE") 1 1 := fun H' => ⟨.inr T.t_SURE, by decide, (bd_64 (by decide)).mono (by decide), (bd_64 (by decide)).mono (by decide)⟩
  obtain ⟨w1, w2⟩ := ow
  obtain ⟨o1, o2⟩ := ol
  unfold playN at q
  walk_at "sts"
  refine L_ixT g1 rfl ?_
  walk_at "sts"
  refine L_ixT g3 rfl ?_
  walk_at "sts"
  refine ⟨_, _, _, _, fr ⟨by omega, by omega⟩ g2, fr ⟨by omega, by omega⟩ g4, fun t2 H2 hp2 s2 e2 => ?_⟩
  rw [low_add hL] at e2
  have ev2 : Ev (tabsL K mg) H H2 := .same s2
  walk_at "sts"
  refine ⟨_, _, _, _, fr ⟨by omega, by omega⟩ (.of e2), sure H2, ?_⟩
  rw [show decide ((low (w0.2 + l.2) L).1 * 1 < 1 * (low (w0.2 + l.2) L).2) = decide (w0.2 + l.2 < L) from by rw [decide_eq_decide]; exact low_lt1 hL]
  walk_at "sts"
  have hn := ok.n
  rw [List.length_cons, List.length_cons] at hn
  refine L_d (fun c1 => ?_) (fun c1 => ?_)
  · rw [if_pos c1] at q
    walk_at "sts"
    refine L_ixT (s2.seqT g1) rfl ?_
    walk_at "sts"
    walk_at "nw"
    rename_i p3 hp3 H3 s3 e3
    have ev3 := ev2.trans (Ev.same s3 : Ev (tabsL K mg) H2 H3)
    walk_at "sts"
    refine q_duel ⟨P, L, some (w0.1, w0.2 + l.2), c, ks, ⟨p3, t2, rfl, .of e3, .of (s3 _ _ e2)⟩, hc.ev ev3, hk.ev ev3, ⟨l1, l2, ?_, ?_⟩, hNL.ev ev3, ev3.tb hT, q.ev ev3⟩
    · intro p hp
      rcases List.mem_cons.mp hp with rfl | hp
      · exact ⟨by show 0 < w0.2 + l.2; omega, c1⟩
      · exact ok.op p (List.mem_cons_of_mem _ (List.mem_cons_of_mem _ hp))
    · show (c.length + 1) + ks.length ≤ 24
      omega
  rw [if_neg c1] at q
  walk_at "sts"
  refine ⟨_, _, _, _, fr ⟨by omega, by omega⟩ (.of e2), sure H2, fun t3 H3 hp3 s3 e3 => ?_⟩
  rw [low_sub1 hL] at e3
  have s23 := s2.trans s3
  walk_at "sts"
  refine L_eqD (d := d2 (low (w0.2 + l.2 - L) L)) (e := d2 (0, 1)) (.tup (.of e3) (.cons (.int _) (.cons (.int _) .nil))) (.tup (.inr T.t_NOUGHT) (.cons (.int _) (.cons (.int _) .nil))) (shp_tup (n := 0) (shp_cons shp_int (shp_cons shp_int shp_nil))).ok (shp_tup (n := 0) (shp_cons shp_int (shp_cons shp_int shp_nil))).ok ?_
  rw [eqv_d2, show decide (low (w0.2 + l.2 - L) L = (0, 1)) = decide (w0.2 + l.2 = L) from by rw [decide_eq_decide, low_zero hL]; omega]
  walk_at "sts"
  refine L_d (fun c2 => ?_) (fun c2 => ?_)
  · rw [if_pos c2] at q
    walk_at "sts"
    refine L_ixT (s23.seqT g1) rfl ?_
    walk_at "sts"
    walk_at "nw"
    rename_i p4 hp4 H4 s4 e4
    walk_at "sts"
    refine L_addL ((s23.trans s4) _ _ hk.2) e4 (sz_dec (by simp; omega)) ?_
    walk_at "nwp"
    rename_i p5 hp5 H5 s5 e5
    have s05 := s23.trans (s4.trans s5)
    have ev5 : Ev (tabsL K mg) H H5 := .same s05
    walk_at "sts"
    refine q_duel ⟨P, L, none, c, ks ++ [w0.1], rfl, hc.ev ev5, ⟨hNL.new ((s23.trans s4).free hp5), by rw [e5, List.map_append]; rfl⟩, ⟨l1, l2, fun p hp => ok.op p (by simp at hp; simp [hp]), ?_⟩, hNL.ev ev5, ev5.tb hT, q.ev ev5⟩
    show c.length + (ks ++ [w0.1]).length ≤ 24
    simp
    omega
  · rw [if_neg c2] at q
    walk_at "sts"
    refine L_ixT (s23.seqT g3) rfl ?_
    walk_at "sts"
    walk_at "nw"
    rename_i p6 hp6 H6 s6 e6
    walk_at "sts"
    refine L_ixT ((s23.trans s6).seqT g1) rfl ?_
    walk_at "sts"
    walk_at "nw"
    rename_i p4 hp4 H4 s4 e4
    walk_at "sts"
    have s64 := s6.trans s4
    refine L_addL ((s23.trans s64) _ _ hk.2) e4 (sz_dec (by simp; omega)) ?_
    walk_at "nwp"
    rename_i p5 hp5 H5 s5 e5
    have s05 := s23.trans (s64.trans s5)
    have ev5 : Ev (tabsL K mg) H H5 := .same s05
    walk_at "sts"
    refine q_duel ⟨P, L, some (l.1, w0.2 + l.2 - L), c, ks ++ [w0.1], ⟨p6, t3, rfl, .of ((s4.trans s5) _ _ e6), .of ((s64.trans s5) _ _ e3)⟩, hc.ev ev5, ⟨hNL.new ((s23.trans s64).free hp5), by rw [e5, List.map_append]; rfl⟩, ⟨l1, l2, ?_, ?_⟩, hNL.ev ev5, ev5.tb hT, q.ev ev5⟩
    · intro p hp
      rcases List.mem_cons.mp hp with rfl | hp
      · exact ⟨by show 0 < w0.2 + l.2 - L; omega, by show w0.2 + l.2 - L < L; omega⟩
      · exact ok.op p (List.mem_cons_of_mem _ (List.mem_cons_of_mem _ hp))
    · show (c.length + 1) + (ks ++ [w0.1]).length ≤ 24
      simp
      omega
def sp_duel_node_l0 (K : PySem.W.Frag) (mg : Str → Option Value) : List V → Hp → VK → Prop := fun ws H Q => match ws with | [.ref ca, .ref ka, ov, uv] => ∃ (P : Addr → Prop) (L : Int) (u o : Ps) (c : List Ps) (ks : List Int), DueH K P L u o c ks ca ka ov uv H ∧ OkD L (u :: o :: c) ks ∧ NL P H ∧ Tabs (tabsL K mg) H ∧ NodeQ K mg P (playN L u o c ks) H Q | _ => False
/-- the lambda called -/
abbrev tClo_duel_node_l0 (K : PySem.W.Frag) (mg : Str → Option Value) (i : Nat) : TE := tClo "duel_node.<locals>.<lambda>" (lamP s_duel_node e_duel_node_0) (lamB e_duel_node_0) (lamS s_duel_node e_duel_node_0) ["coming", "kept", "other", "up"] i (sp_duel_node_l0 K mg)
theorem c_duel_node_l0 (T : Txt K mg base) : LOk P w K mg base 7 "duel_node.<locals>.<lambda>" (lamP s_duel_node e_duel_node_0) (lamB e_duel_node_0) (lamS s_duel_node e_duel_node_0) ["coming", "kept", "other", "up"] (sp_duel_node_l0 K mg) := by
  refine lok_of (N := ["coming", "kept", "other", "up"]) (k := 6) (nscope_by (by decide +kernel)) (fun _ _ _ _ => rfl) fun f c cl A outer s H ws Q hr len h => ?_
  refine ⟨_, (pe_c (c_played T) hr (by decide) (by rfl) (pa_cons (pv 3) (pa_cons (pv 2) (pa_cons (pe_slice sl_list (pv 0) (po_some pe_int) po_none) (pa_cons (pv 1) pa_nil))))), ?_⟩
  try simp only [ncx_K, ncx_mg]
  unfold sp_duel_node_l0 at h
  split at h
  case h_2 => exact h.elim
  rename_i ca ka ov uv
  rw [show startF ["coming", "kept", "other", "up"] [] ([V.ref ca, V.ref ka, ov, uv].map some) = [some (V.ref ca), some (V.ref ka), some (ov), some (uv)] from rfl]
  obtain ⟨P, L, u, o, c, ks, ⟨⟨hPc, us, hca, hcp⟩, hk, ho, hu⟩, ok, hNL, hT, q⟩ := h
  walk_at "sts"
  refine L_slL (.of hca) fun p2 hp2 => ?_
  rw [show us = us.map id by rw [List.map_id], cutV_map, show cutG us (some 1) none = us.drop 1 from cutG_drop us 1, List.map_id]
  have s2 := same_new (o := .lst (us.drop 1)) hp2
  have e2 : upd H p2 (.lst (us.drop 1)) p2 = some (.lst (us.drop 1)) := upd_same
  generalize upd H p2 (.lst (us.drop 1)) = H2 at s2 e2 ⊢
  have ev2 : Ev (tabsL K mg) H H2 := .same s2
  walk_at "sts"
  exact ⟨P, L, u, o, c, ks, PosA.ev hu ev2, PosA.ev ho ev2, ⟨hNL.new hp2, us.drop 1, e2, paired_drop1 (ys := o :: c) (paired_imp2 (fun _ _ h => PosA.ev h ev2) hcp)⟩, hk.ev ev2, ok, hNL.ev ev2, ev2.tb hT, q.ev ev2⟩
def sp_duel_node_l1 (K : PySem.W.Frag) (mg : Str → Option Value) : List V → Hp → VK → Prop := fun ws H Q => match ws with | [.ref ca, .ref ka, ov, uv] => ∃ (P : Addr → Prop) (L : Int) (u o : Ps) (c : List Ps) (ks : List Int), DueH K P L u o c ks ca ka ov uv H ∧ OkD L (u :: o :: c) ks ∧ NL P H ∧ Tabs (tabsL K mg) H ∧ NodeQ K mg P (playN L o u c ks) H Q | _ => False
/-- the lambda called -/
abbrev tClo_duel_node_l1 (K : PySem.W.Frag) (mg : Str → Option Value) (i : Nat) : TE := tClo "duel_node.<locals>.<lambda>" (lamP s_duel_node e_duel_node_1) (lamB e_duel_node_1) (lamS s_duel_node e_duel_node_1) ["coming", "kept", "other", "up"] i (sp_duel_node_l1 K mg)
theorem c_duel_node_l1 (T : Txt K mg base) : LOk P w K mg base 7 "duel_node.<locals>.<lambda>" (lamP s_duel_node e_duel_node_1) (lamB e_duel_node_1) (lamS s_duel_node e_duel_node_1) ["coming", "kept", "other", "up"] (sp_duel_node_l1 K mg) := by
  refine lok_of (N := ["coming", "kept", "other", "up"]) (k := 6) (nscope_by (by decide +kernel)) (fun _ _ _ _ => rfl) fun f c cl A outer s H ws Q hr len h => ?_
  refine ⟨_, (pe_c (c_played T) hr (by decide) (by rfl) (pa_cons (pv 2) (pa_cons (pv 3) (pa_cons (pe_slice sl_list (pv 0) (po_some pe_int) po_none) (pa_cons (pv 1) pa_nil))))), ?_⟩
  try simp only [ncx_K, ncx_mg]
  unfold sp_duel_node_l1 at h
  split at h
  case h_2 => exact h.elim
  rename_i ca ka ov uv
  rw [show startF ["coming", "kept", "other", "up"] [] ([V.ref ca, V.ref ka, ov, uv].map some) = [some (V.ref ca), some (V.ref ka), some (ov), some (uv)] from rfl]
  obtain ⟨P, L, u, o, c, ks, ⟨⟨hPc, us, hca, hcp⟩, hk, ho, hu⟩, ok, hNL, hT, q⟩ := h
  walk_at "sts"
  refine L_slL (.of hca) fun p2 hp2 => ?_
  rw [show us = us.map id by rw [List.map_id], cutV_map, show cutG us (some 1) none = us.drop 1 from cutG_drop us 1, List.map_id]
  have s2 := same_new (o := .lst (us.drop 1)) hp2
  have e2 : upd H p2 (.lst (us.drop 1)) p2 = some (.lst (us.drop 1)) := upd_same
  generalize upd H p2 (.lst (us.drop 1)) = H2 at s2 e2 ⊢
  have ev2 : Ev (tabsL K mg) H H2 := .same s2
  walk_at "sts"
  exact ⟨P, L, o, u, c, ks, PosA.ev ho ev2, PosA.ev hu ev2, ⟨hNL.new hp2, us.drop 1, e2, paired_drop1 (ys := o :: c) (paired_imp2 (fun _ _ h => PosA.ev h ev2) hcp)⟩, hk.ev ev2, ⟨ok.l1, ok.l2, fun p hp => ok.op p (by rcases List.mem_cons.mp hp with h | h; exact h ▸ List.mem_cons_of_mem _ List.mem_cons_self; rcases List.mem_cons.mp h with h | h; exact h ▸ List.mem_cons_self; exact List.mem_cons_of_mem _ (List.mem_cons_of_mem _ h)), ok.n⟩, hNL.ev ev2, ev2.tb hT, q.ev ev2⟩
/-- the lambda at f runs -/
def Ru (K : PySem.W.Frag) (mg : Str → Option Value) (f : Addr) (H : Hp) (Q : VK) : Prop := tClo_last_node_l0 K mg 0 [some (.ref f)] H Q ∨ tClo_last_node_l1 K mg 0 [some (.ref f)] H Q ∨ tClo_duel_node_l0 K mg 0 [some (.ref f)] H Q ∨ tClo_duel_node_l1 K mg 0 [some (.ref f)] H Q
theorem ru_at {f : Addr} {H : Hp} {Q : VK} {σ : L2.St} {i : Nat} (h : Ru K mg f H Q) (hs : σ[i]? = some (some (.ref f))) : tOrE (tClo_last_node_l0 K mg i) (tOrE (tClo_last_node_l1 K mg i) (tOrE (tClo_duel_node_l0 K mg i) (tClo_duel_node_l1 K mg i))) σ H Q := h.imp (fun h => tClo_at h hs) fun h => h.imp (fun h => tClo_at h hs) fun h => h.imp (fun h => tClo_at h hs) fun h => tClo_at h hs
theorem ru_last0 {P : Addr → Prop} {L : Int} {u : Ps} {ks : List Int} {ka f : Addr} {uv : V} {H : Hp} {Q : VK} (Lm : LamAt_last_node_l0 [.ref ka, uv] f H) (hk : KepA P ks ka H) (hu : PosA K L H uv u) (hl : ks.length ≤ 30) (hb : Tabs (tabsL K mg) H) (q : NodeQ K mg P (.tol (ks ++ [u.1])) H Q) : Ru K mg f H Q := by
  refine .inl (L_clo Lm rfl (fun Hd sub keep tb => ⟨P, L, u, ks, hk.keep keep, PosA.keep hu keep, hl, fun x H1 s1 at1 H2 s12 exx => ?_⟩) fun H Q Q' h m => ?_)
  · have e1 : Ev (tabsL K mg) Hd H1 := .same s1
    exact q x H2 (Ev.made (exx e1.ex) ((e1.tb (tb _ hb)).ext s12)) (TolA.ev at1 (.same s12 : Ev (tabsL K mg) H1 H2))
  · obtain ⟨P, L, u, ks, h1, h2, h3, h4⟩ := h
    exact ⟨P, L, u, ks, h1, h2, h3, fun x H' e at1 => m _ _ (h4 x H' e at1)⟩
theorem ru_last1 {P : Addr → Prop} {ks : List Int} {ka f : Addr} {H : Hp} {Q : VK} (Lm : LamAt_last_node_l1 [.ref ka] f H) (hk : KepA P ks ka H) (hl : ks.length ≤ 30) (hb : Tabs (tabsL K mg) H) (q : NodeQ K mg P (.tol ks) H Q) : Ru K mg f H Q := by
  refine .inr (.inl (L_clo Lm rfl (fun Hd sub keep tb => ⟨P, ks, hk.keep keep, hl, fun x H1 s1 at1 H2 s12 exx => ?_⟩) fun H Q Q' h m => ?_))
  · have e1 : Ev (tabsL K mg) Hd H1 := .same s1
    exact q x H2 (Ev.made (exx e1.ex) ((e1.tb (tb _ hb)).ext s12)) (TolA.ev at1 (.same s12 : Ev (tabsL K mg) H1 H2))
  · obtain ⟨P, ks, h1, h2, h3⟩ := h
    exact ⟨P, ks, h1, h2, fun x H' e at1 => m _ _ (h3 x H' e at1)⟩
theorem ru_due0 {P : Addr → Prop} {L : Int} {u o : Ps} {c : List Ps} {ks : List Int} {ca ka f : Addr} {ov uv : V} {H : Hp} {Q : VK} (Lm : LamAt_duel_node_l0 [.ref ca, .ref ka, ov, uv] f H) (hh : DueH K P L u o c ks ca ka ov uv H) (ok : OkD L (u :: o :: c) ks) (hb : Tabs (tabsL K mg) H) (hn : NL P H) (q : NodeQ K mg P (playN L u o c ks) H Q) : Ru K mg f H Q := by
  refine .inr (.inr (.inl (L_clo Lm rfl (fun Hd sub keep tb => ⟨P, L, u, o, c, ks, hh.keep keep, ok, hn.drop keep, tb _ hb, fun x H1 e1 at1 H2 s12 exx => ?_⟩) fun H Q Q' h m => ?_)))
  · exact q x H2 (Ev.made (exx e1.ex) ((e1.tb (tb _ hb)).ext s12)) (at1.ev (.same s12 : Ev (tabsL K mg) H1 H2))
  · obtain ⟨P, L, u, o, c, ks, h1, h2, h3, h4, h5⟩ := h
    exact ⟨P, L, u, o, c, ks, h1, h2, h3, h4, fun x H' e a => m _ _ (h5 x H' e a)⟩
theorem ru_due1 {P : Addr → Prop} {L : Int} {u o : Ps} {c : List Ps} {ks : List Int} {ca ka f : Addr} {ov uv : V} {H : Hp} {Q : VK} (Lm : LamAt_duel_node_l1 [.ref ca, .ref ka, ov, uv] f H) (hh : DueH K P L u o c ks ca ka ov uv H) (ok : OkD L (u :: o :: c) ks) (hb : Tabs (tabsL K mg) H) (hn : NL P H) (q : NodeQ K mg P (playN L o u c ks) H Q) : Ru K mg f H Q := by
  refine .inr (.inr (.inr (L_clo Lm rfl (fun Hd sub keep tb => ⟨P, L, u, o, c, ks, hh.keep keep, ok, hn.drop keep, tb _ hb, fun x H1 e1 at1 H2 s12 exx => ?_⟩) fun H Q Q' h m => ?_)))
  · exact q x H2 (Ev.made (exx e1.ex) ((e1.tb (tb _ hb)).ext s12)) (at1.ev (.same s12 : Ev (tabsL K mg) H1 H2))
  · obtain ⟨P, L, u, o, c, ks, h1, h2, h3, h4, h5⟩ := h
    exact ⟨P, L, u, o, c, ks, h1, h2, h3, h4, fun x H' e a => m _ _ (h5 x H' e a)⟩
def pick : List (Int × Addr) → Int → Option Addr
  | [], _ => none
  | w :: ws, x => if x < w.1 then some w.2 else pick ws (x - w.1)
/-- which lambda a throw comes to -/
def picks (ws : List (Int × Addr)) : V → Option Addr
  | .int x => if x < 0 then none else pick ws x
  | _ => none
/-- what may be thrown -/
def Thr (t : V) : Prop := (∃ x, t = .int x) ∨ (∃ b, t = .bl b) ∨ ∃ z, t = .str z
def WayP (H : Hp) (u : V) (w : Int × Addr) : Prop := ∃ q, u = .ref q ∧ H q = some (.tup [.int w.1, .ref w.2])
theorem drop_at {α : Type} : ∀ {l : List α} {i : Nat} {x : α}, l[i]? = some x → l.drop i = x :: l.drop (i + 1)
  | [], _, _, h => by simp at h
  | _ :: _, 0, _, h => by cases h; rfl
  | _ :: l, i + 1, _, h => drop_at (l := l) (i := i) h
/-! generic: wants Nd, told, parts, AtN, AtN.ev, Ru -/
/-- a way whose lambda leads to a node -/
def WayN (K : PySem.W.Frag) (mg : Str → Option Value) (P : Addr → Prop) (H : Hp) (w : Int × Addr) (pn : Int × Nd) : Prop := w.1 = pn.1 ∧ ∀ H1, Ev (tabsL K mg) H H1 → ∀ Q1 : VK, (∀ x H2, Ev (tabsL K mg) H1 H2 → AtN K mg P pn.2 x H2 → Q1 x H2) → Ru K mg w.2 H1 Q1
def pickN : List (Int × Nd) → Int → Option Nd
  | [], _ => none
  | w :: ws, x => if x < w.1 then some w.2 else pickN ws (x - w.1)
/-- the node behind a throw -/
def nxtN (n : Nd) (t : V) : Option Nd := match t with
  | .int x => if (told n).isSome then none else if x < 0 then none else pickN (parts n) x
  | _ => none
/-- a Die with the node's ways -/
def DieN (K : PySem.W.Frag) (mg : Str → Option Value) (P : Addr → Prop) (n : Nd) (v : V) (H : Hp) : Prop := ∃ a dx p us ws, v = .ref a ∧ H a = some (.ins (cA mg "Die") dx [("ways", .ref p)]) ∧ H p = some (.tup us) ∧ us.length ≤ 1000 ∧ Paired (WayP H) us ws ∧ Paired (WayN K mg P H) ws (parts n)
theorem at_end {P : Addr → Prop} {v : V} {H : Hp} {l : List Int} : ∀ {n : Nd}, AtN K mg P n v H → told n = some l → TolA mg l v H
  | .tol _, h, e => by cases e; exact h
  | .lst _ _ _, _, e => nomatch e
  | .due _ _ _ _ _, _, e => nomatch e
theorem at_die {P : Addr → Prop} {v : V} {H : Hp} : ∀ {n : Nd}, AtN K mg P n v H → told n = none → Tabs (tabsL K mg) H → NL P H → DieN K mg P n v H
  | .tol _, _, e, _, _ => nomatch e
  | .lst L u ks, h, _, hb, _ => by
    obtain ⟨ok, f0, f1, ⟨a, dx, p, q0, q1, rfl, h1, h2, h3, h4⟩, ⟨ka, uv, l0, k0, p0⟩, ka2, l1, k1⟩ := h
    have hn := ok.n
    refine ⟨a, dx, p, [.ref q0, .ref q1], [((low u.2 L).1, f0), ((low u.2 L).2 - (low u.2 L).1, f1)], rfl, h1, h2, by simp, .cons ⟨q0, rfl, h3⟩ (.cons ⟨q1, rfl, h4⟩ .nil), .cons ⟨rfl, fun H1 ev Q q => ?_⟩ (.cons ⟨rfl, fun H1 ev Q q => ?_⟩ .nil)⟩
    · exact ru_last0 (l0.ext ev.ex) (k0.ev ev) (PosA.ev p0 ev) (by omega) (ev.tb hb) q
    · exact ru_last1 (l1.ext ev.ex) (k1.ev ev) (by omega) (ev.tb hb) q
  | .due L u o c ks, h, _, hb, hn => by
    obtain ⟨ok, f0, f1, ⟨a, dx, p, q0, q1, rfl, h1, h2, h3, h4⟩, ⟨ca, ka, ov, uv, l0, h0⟩, ca2, ka2, ov2, uv2, l1, h1'⟩ := h
    refine ⟨a, dx, p, [.ref q0, .ref q1], [((sidesD L u.2 o.2).1, f0), ((sidesD L u.2 o.2).2, f1)], rfl, h1, h2, by simp, .cons ⟨q0, rfl, h3⟩ (.cons ⟨q1, rfl, h4⟩ .nil), .cons ⟨rfl, fun H1 ev Q q => ?_⟩ (.cons ⟨rfl, fun H1 ev Q q => ?_⟩ .nil)⟩
    · exact ru_due0 (l0.ext ev.ex) (h0.ev ev) ok (ev.tb hb) (hn.ev ev) q
    · exact ru_due1 (l1.ext ev.ex) (h1'.ev ev) ok (ev.tb hb) (hn.ev ev) q
/-- is it told? -/
theorem at_told {P : Addr → Prop} {n : Nd} {v : V} {H : Hp} (h : AtN K mg P n v H) (hb : Tabs (tabsL K mg) H) (hn : NL P H) : ∃ a dx p, v = .ref a ∧ ((∃ ks, told n = some ks ∧ H a = some (.ins (cA mg "Told") dx [("places", .ref p)]) ∧ H p = some (.tup (ks.map V.int))) ∨ (told n = none ∧ H a = some (.ins (cA mg "Die") dx [("ways", .ref p)]))) := by
  cases e : told n with
  | some l =>
    obtain ⟨a, dx, p, rfl, h1, h2⟩ := at_end h e
    exact ⟨a, dx, p, rfl, .inl ⟨l, rfl, h1, h2⟩⟩
  | none =>
    obtain ⟨a, dx, p, us, ws, rfl, h1, _⟩ := at_die h e hb hn
    exact ⟨a, dx, p, rfl, .inr ⟨rfl, h1⟩⟩
def sp_Told_sides (K : PySem.W.Frag) (mg : Str → Option Value) : Sp := fun vs H Q _ => match vs with | [.ref a] => Q (.int 0) H | _ => False
theorem q_Told_sides {H : Hp} {Q : VK} {E : XK} {a : Addr} (q : Q (.int 0) H) : sp_Told_sides K mg [.ref a] H Q E := q
local macro_rules | `(tactic| walk_at "op") => `(tactic| with_reducible refine q_Told_sides ?_)
theorem c_Told_sides (T : Txt K mg base) : Met P w K mg base 1 (cA mg "Told") "sides" (sp_Told_sides K mg) := by
  refine MethAt.met T.k_Told T.d_Told_sides (k := 0) sc_Told_sides (by intro vs H Q E h; unfold sp_Told_sides at h; split at h <;> first | rfl | exact h.elim) fun f cdv A outer s H vs Q E hr h => ?_
  refine ⟨_, (pss_one (ps_ret pe_int)), ?_⟩
  try simp only [cxOf_K, cxOf_K', cxOf_mg, cxOf_mg']
  unfold sp_Told_sides at h
  split at h
  case h_2 => exact h.elim
  rename_i a
  rw [show L2.start ["self"] [V.ref a] = [some (V.ref a)] from rfl]
  walk_at "sts"
  exact h
def sp_Told_parts (K : PySem.W.Frag) (mg : Str → Option Value) : Sp := fun vs H Q _ => match vs with | [.ref a] => NewL H [] Q | _ => False
theorem q_Told_parts {H : Hp} {Q : VK} {E : XK} {a : Addr} (q : NewL H [] Q) : sp_Told_parts K mg [.ref a] H Q E := q
local macro_rules | `(tactic| walk_at "op") => `(tactic| with_reducible refine q_Told_parts ?_)
theorem c_Told_parts (T : Txt K mg base) : Met P w K mg base 1 (cA mg "Told") "parts" (sp_Told_parts K mg) := by
  refine MethAt.met T.k_Told T.d_Told_parts (k := 0) sc_Told_parts (by intro vs H Q E h; unfold sp_Told_parts at h; split at h <;> first | rfl | exact h.elim) fun f cdv A outer s H vs Q E hr h => ?_
  refine ⟨_, (pss_one (ps_ret (pe_lst pa_nil))), ?_⟩
  try simp only [cxOf_K, cxOf_K', cxOf_mg, cxOf_mg']
  unfold sp_Told_parts at h
  split at h
  case h_2 => exact h.elim
  rename_i a
  rw [show L2.start ["self"] [V.ref a] = [some (V.ref a)] from rfl]
  walk_at "sts"
  walk_at "nw"
  rename_i p hp H1 s1 e1
  exact h p H1 hp s1 e1
def sp_Die_kept (K : PySem.W.Frag) (mg : Str → Option Value) : Sp := fun vs H Q _ => match vs with | [.ref a] => Q .non H | _ => False
theorem q_Die_kept {H : Hp} {Q : VK} {E : XK} {a : Addr} (q : Q .non H) : sp_Die_kept K mg [.ref a] H Q E := q
local macro_rules | `(tactic| walk_at "op") => `(tactic| with_reducible refine q_Die_kept ?_)
theorem c_Die_kept (T : Txt K mg base) : Met P w K mg base 1 (cA mg "Die") "kept" (sp_Die_kept K mg) := by
  refine MethAt.met T.k_Die T.d_Die_kept (k := 0) sc_Die_kept (by intro vs H Q E h; unfold sp_Die_kept at h; split at h <;> first | rfl | exact h.elim) fun f cdv A outer s H vs Q E hr h => ?_
  refine ⟨_, (pss_one (ps_ret pe_non)), ?_⟩
  try simp only [cxOf_K, cxOf_K', cxOf_mg, cxOf_mg']
  unfold sp_Die_kept at h
  split at h
  case h_2 => exact h.elim
  rename_i a
  rw [show L2.start ["self"] [V.ref a] = [some (V.ref a)] from rfl]
  walk_at "sts"
  exact h
def sp_Die_sides (K : PySem.W.Frag) (mg : Str → Option Value) : Sp := fun vs H Q _ => match vs with | [.ref a] => ∃ dx p us ws, H a = some (.ins (cA mg "Die") dx [("ways", .ref p)]) ∧ H p = some (.tup us) ∧ Paired (WayP H) us ws ∧ us.length ≤ 1000 ∧ ∀ H', Same H H' → Q (.int (ws.map (·.1)).sum) H' | _ => False
theorem q_Die_sides {H : Hp} {Q : VK} {E : XK} {a : Addr} (q : ∃ dx p us ws, H a = some (.ins (cA mg "Die") dx [("ways", .ref p)]) ∧ H p = some (.tup us) ∧ Paired (WayP H) us ws ∧ us.length ≤ 1000 ∧ ∀ H', Same H H' → Q (.int (ws.map (·.1)).sum) H') : sp_Die_sides K mg [.ref a] H Q E := q
local macro_rules | `(tactic| walk_at "op") => `(tactic| with_reducible refine q_Die_sides ?_)
theorem c_Die_sides (T : Txt K mg base) : Met P w K mg base 1 (cA mg "Die") "sides" (sp_Die_sides K mg) := by
  refine MethAt.met T.k_Die T.d_Die_sides (k := 0) sc_Die_sides (by intro vs H Q E h; unfold sp_Die_sides at h; split at h <;> first | rfl | exact h.elim) fun f cdv A outer s H vs Q E hr h => ?_
  refine ⟨_, (pss_one (ps_ret (pe_callB (cr_sum rfl) (by rfl) T.n_sum (by decide +kernel) (pa_cons (pe_lc (own := [("many", 1), ("make", 2)]) (g := (gTup K 2 (gCons (gName 1) (gCons (gName 2) gNil)))) (tt := tYes) (te := (tVar 1)) rfl sc_Die_sides.nd (pi_tup (pe_fld (pv 0) rfl)) (blkOk_by (N := ["self", "many", "make"]) (sc := defScope s_Die_sides) (by decide +kernel)) (fun _ _ _ _ _ => by exact (pg_tup rfl (pgs_cons (pg_name (i := 1) sc_Die_sides.nd rfl (.inl rfl)) (pgs_cons (pg_name (i := 2) sc_Die_sides.nd rfl (.inl rfl)) pgs_nil)))) (fun _ _ _ _ _ => pts_nil) (fun _ _ _ _ _ => by exact (pv 1))) pa_nil)))), ?_⟩
  try simp only [cxOf_K, cxOf_K', cxOf_mg, cxOf_mg']
  unfold sp_Die_sides at h
  split at h
  case h_2 => exact h.elim
  rename_i a
  rw [show L2.start ["self", "many", "make"] [V.ref a] = [some (V.ref a), none, none] from rfl]
  obtain ⟨dx, p, us, ws, ha, hp, hP, hl, q⟩ := h
  walk_at "sts"
  refine L_fldv ha T.k_Die T.na_Die_ways rfl ?_
  refine ⟨p, rfl, ⟨_, .of hp⟩, ?_⟩
  refine lc_fm walk_tup (fun i => ws[i]?.map fun w => V.int w.1) (by omega) (fun H' e => .of (e _ _ hp)) ?_ ?_
  · rintro j x1 Ha Hb R R' hj sm ⟨rfl, hx1⟩ q1 q2
    obtain ⟨w, hw, q0, rfl, hq⟩ := paired_nth hP hx1
    refine L_gTup (.of (sm _ _ hq)) rfl ?_
    walk_at "sts"
    refine ⟨rfl, ?_⟩
    walk_at "sts"
    exact q1 _ _ (by rw [hw]; rfl) (.refl _)
  intro p1 H1 hp1 s1 e1
  rw [Paired.length hP, fm_get (fun w : Int × Addr => V.int w.1) ws] at e1
  have e2 : H1 p1 = some (.lst ((ws.map (·.1)).map V.int)) := by rw [e1, List.map_map]; rfl
  walk_at "sts"
  refine L_sum (.of e2) ?_
  exact q _ s1
theorem ComA.shr {K : PySem.W.Frag} {P : Addr → Prop} {L : Int} {c : List Ps} {ca : Addr} {H : Hp} {D : Addr} (h : ComA K P L c ca H) (n : H D = none) : ComA K (fun b => P b ∧ b ≠ D) L c ca H := by
  obtain ⟨hp, us, h1, h2⟩ := h
  exact ⟨⟨hp, fun z => by rw [z, n] at h1; cases h1⟩, us, h1, h2⟩
theorem ComA.wk {K : PySem.W.Frag} {P P' : Addr → Prop} {L : Int} {c : List Ps} {ca : Addr} {H : Hp} (k : ∀ b, P b → P' b) (h : ComA K P L c ca H) : ComA K P' L c ca H := ⟨k _ h.1, h.2⟩
theorem KepA.shr {P : Addr → Prop} {ks : List Int} {ka : Addr} {H : Hp} {D : Addr} (h : KepA P ks ka H) (n : H D = none) : KepA (fun b => P b ∧ b ≠ D) ks ka H := ⟨⟨h.1, fun z => by have := h.2; rw [z, n] at this; cases this⟩, h.2⟩
theorem KepA.wk {P P' : Addr → Prop} {ks : List Int} {ka : Addr} {H : Hp} (k : ∀ b, P b → P' b) (h : KepA P ks ka H) : KepA P' ks ka H := ⟨k _ h.1, h.2⟩
theorem DueH.shr {K : PySem.W.Frag} {P : Addr → Prop} {L : Int} {u o : Ps} {c : List Ps} {ks : List Int} {ca ka : Addr} {ov uv : V} {H : Hp} {D : Addr} (h : DueH K P L u o c ks ca ka ov uv H) (n : H D = none) : DueH K (fun b => P b ∧ b ≠ D) L u o c ks ca ka ov uv H := ⟨h.1.shr n, h.2.1.shr n, h.2.2⟩
theorem DueH.wk {K : PySem.W.Frag} {P P' : Addr → Prop} {L : Int} {u o : Ps} {c : List Ps} {ks : List Int} {ca ka : Addr} {ov uv : V} {H : Hp} (k : ∀ b, P b → P' b) (h : DueH K P L u o c ks ca ka ov uv H) : DueH K P' L u o c ks ca ka ov uv H := ⟨h.1.wk k, h.2.1.wk k, h.2.2⟩
theorem AtN.shr {K : PySem.W.Frag} {mg : Str → Option Value} {P : Addr → Prop} {H : Hp} {v : V} {D : Addr} : ∀ {n : Nd}, AtN K mg P n v H → H D = none → AtN K mg (fun b => P b ∧ b ≠ D) n v H
  | .tol _, h, _ => h
  | .lst _ _ _, ⟨ok, f0, f1, d, ⟨ka, uv, l0, k0, p0⟩, ka2, l1, k1⟩, n => ⟨ok, f0, f1, d, ⟨ka, uv, l0, k0.shr n, p0⟩, ka2, l1, k1.shr n⟩
  | .due _ _ _ _ _, ⟨ok, f0, f1, d, ⟨ca, ka, ov, uv, l0, h0⟩, ca2, ka2, ov2, uv2, l1, h1⟩, n => ⟨ok, f0, f1, d, ⟨ca, ka, ov, uv, l0, h0.shr n⟩, ca2, ka2, ov2, uv2, l1, h1.shr n⟩
theorem AtN.wk {K : PySem.W.Frag} {mg : Str → Option Value} {P P' : Addr → Prop} {H : Hp} {v : V} (k : ∀ b, P b → P' b) : ∀ {n : Nd}, AtN K mg P n v H → AtN K mg P' n v H
  | .tol _, h => h
  | .lst _ _ _, ⟨ok, f0, f1, d, ⟨ka, uv, l0, k0, p0⟩, ka2, l1, k1⟩ => ⟨ok, f0, f1, d, ⟨ka, uv, l0, k0.wk k, p0⟩, ka2, l1, k1.wk k⟩
  | .due _ _ _ _ _, ⟨ok, f0, f1, d, ⟨ca, ka, ov, uv, l0, h0⟩, ca2, ka2, ov2, uv2, l1, h1⟩ => ⟨ok, f0, f1, d, ⟨ca, ka, ov, uv, l0, h0.wk k⟩, ca2, ka2, ov2, uv2, l1, h1.wk k⟩
/-- a dict of fractions by whole numbers, its keys in order -/
def Q2k (K : PySem.W.Frag) (f : Int → Rat) (H : Hp) (kv : Key × V) (k : Int) : Prop := kv.1 = (Sum.inl k : Key) ∧ ∃ t, kv.2 = .ref t ∧ SqT K H t [.int (qt (f k)).1, .int (qt (f k)).2]
def DictA (K : PySem.W.Frag) (H : Hp) (d : Addr) (ks : List Int) (f : Int → Rat) : Prop := ∃ kvs, H d = some (.dK kvs) ∧ Paired (Q2k K f H) kvs ks
theorem Q2k.to {K : PySem.W.Frag} {f : Int → Rat} {H H' : Hp} {kv : Key × V} {k : Int} (h : Q2k K f H kv k) (e : Same H H') : Q2k K f H' kv k := by
  obtain ⟨h1, t, h2, h3⟩ := h
  exact ⟨h1, t, h2, e.seqT h3⟩
theorem DictA.to {K : PySem.W.Frag} {f : Int → Rat} {H H' : Hp} {d : Addr} {ks : List Int} (h : DictA K H d ks f) (e : Same H H') : DictA K H' d ks f := by
  obtain ⟨kvs, h1, h2⟩ := h
  exact ⟨kvs, e _ _ h1, paired_imp2 (fun _ _ h => Q2k.to h e) h2⟩
structure BoutA (K : PySem.W.Frag) (mg : Str → Option Value) (x di du : Addr) (ks : List Int) (I U : Int → Rat) (M : Rat) (H : Hp) : Prop where
  ex : ∃ dx tm, H x = some (.ins (cA mg "Bout") dx [("ins", .ref di), ("ups", .ref du), ("much", .ref tm)]) ∧ DictA K H di ks I ∧ DictA K H du ks U ∧ SqT K H tm [.int (qt M).1, .int (qt M).2] ∧ di ≠ du
theorem frq {K : PySem.W.Frag} {H : Hp} {t : Addr} {r : Rat} (h : SqT K H t [.int (qt r).1, .int (qt r).2]) (b : BdQ 990 r) : Fr2 K H t (qt r).1 (qt r).2 := ⟨h, by have := q_dp r; show 1 ≤ (r.den : Int); omega, b.1, b.2⟩
theorem bdq_add {n m : Nat} {a b : Rat} (h : BdQ n a) (k : BdQ m b) : BdQ (n + m + 1) (a + b) := by
  have e := q_add a b
  have hd : (qt a).2 * (qt b).2 ≠ 0 := Int.mul_ne_zero (by have := q_dp a; show (a.den : Int) ≠ 0; omega) (by have := q_dp b; show (b.den : Int) ≠ 0; omega)
  have b1 := (h.1.mul k.2).add (k.1.mul h.2)
  have b2 := h.2.mul k.2
  have := shr_bd hd (b1.mono (show max (n + m) (m + n) + 1 ≤ n + m + 1 by omega)) (b2.mono (show n + m ≤ n + m + 1 by omega))
  rw [e] at this
  exact this
theorem bdq_sub {n m : Nat} {a b : Rat} (h : BdQ n a) (k : BdQ m b) : BdQ (n + m + 1) (a - b) := by
  have e := q_sub a b
  have hd : (qt a).2 * (qt b).2 ≠ 0 := Int.mul_ne_zero (by have := q_dp a; show (a.den : Int) ≠ 0; omega) (by have := q_dp b; show (b.den : Int) ≠ 0; omega)
  have b1 := (h.1.mul k.2).sub (k.1.mul h.2)
  have b2 := h.2.mul k.2
  have := shr_bd hd (b1.mono (show max (n + m) (m + n) + 1 ≤ n + m + 1 by omega)) (b2.mono (show n + m ≤ n + m + 1 by omega))
  rw [e] at this
  exact this
theorem bdq_mul {n m : Nat} {a b : Rat} (h : BdQ n a) (k : BdQ m b) : BdQ (n + m) (a * b) := by
  have e := q_mul a b
  have hd : (qt a).2 * (qt b).2 ≠ 0 := Int.mul_ne_zero (by have := q_dp a; show (a.den : Int) ≠ 0; omega) (by have := q_dp b; show (b.den : Int) ≠ 0; omega)
  have := shr_bd hd (h.1.mul k.1) (h.2.mul k.2)
  rw [e] at this
  exact this
theorem bdq_div {n m : Nat} {a b : Rat} (hb : b ≠ 0) (h : BdQ n a) (k : BdQ m b) : BdQ (n + m) (a / b) := by
  have e := q_div a b hb
  have hd : (qt a).2 * (qt b).1 ≠ 0 := Int.mul_ne_zero (by have := q_dp a; show (a.den : Int) ≠ 0; omega) (q_num0 hb)
  have := shr_bd hd (h.1.mul k.2) ((h.2.mul k.1).mono (by omega))
  rw [e] at this
  exact this
theorem bdq_1 : BdQ 1 1 := ⟨by unfold Bd; decide, by unfold Bd; decide⟩
theorem bdq_2 : BdQ 2 2 := ⟨by unfold Bd; decide, by unfold Bd; decide⟩
theorem bdq_0 : BdQ 1 0 := ⟨by unfold Bd; decide, by unfold Bd; decide⟩
theorem dictA_at {K : PySem.W.Frag} {f : Int → Rat} {H : Hp} {kvs : List (Key × V)} {ks : List Int} {a : Int} (h : Paired (Q2k K f H) kvs ks) (ha : a ∈ ks) : ∃ t, valV kvs (Sum.inl a : Key) = some (.ref t) ∧ SqT K H t [.int (qt (f a)).1, .int (qt (f a)).2] := by
  induction h with
  | nil => cases ha
  | @cons kv k kvs ks h1 h2 ih =>
    obtain ⟨e1, t, e2, e3⟩ := h1
    by_cases c : k = a
    · subst c
      refine ⟨t, ?_, e3⟩
      unfold valV
      rw [List.find?_cons_of_pos (by exact decide_eq_true e1)]
      show some kv.2 = _
      rw [e2]
    · have ha2 : a ∈ ks := (List.mem_cons.mp ha).resolve_left fun z => c z.symm
      obtain ⟨t2, h3, h4⟩ := ih ha2
      refine ⟨t2, ?_, h4⟩
      unfold valV at h3 ⊢
      rw [List.find?_cons_of_neg (by rw [decide_eq_true_iff, e1]; exact fun z => c (Sum.inl.inj z))]
      exact h3
theorem dictA_none {K : PySem.W.Frag} {f : Int → Rat} {H : Hp} {kvs : List (Key × V)} {ks : List Int} {a : Int} (h : Paired (Q2k K f H) kvs ks) (ha : a ∉ ks) : (kvs.any fun kv => decide (kv.1 = (Sum.inl a : Key))) = false := by
  induction h with
  | nil => rfl
  | @cons kv k kvs ks h1 h2 ih =>
    rw [List.any_cons, ih fun z => ha (List.mem_cons_of_mem _ z), Bool.or_false, decide_eq_false_iff_not, h1.1]
    exact fun z => ha (by rw [Sum.inl.inj z]; exact List.mem_cons_self)
theorem dictA_some {K : PySem.W.Frag} {f : Int → Rat} {H : Hp} {kvs : List (Key × V)} {ks : List Int} {a : Int} (h : Paired (Q2k K f H) kvs ks) (ha : a ∈ ks) : (kvs.any fun kv => decide (kv.1 = (Sum.inl a : Key))) = true := by
  induction h with
  | nil => cases ha
  | @cons kv k kvs ks h1 h2 ih =>
    rw [List.any_cons, Bool.or_eq_true, decide_eq_true_iff, h1.1]
    rcases List.mem_cons.mp ha with z | z
    · exact .inl (by rw [z])
    · exact .inr (ih z)
theorem paired_mapL {α β : Type} {F G : α → β → Prop} {g : α → α} (k : ∀ a b, F a b → G (g a) b) {xs : List α} {ys : List β} (h : Paired F xs ys) : Paired G (xs.map g) ys := by
  induction h with
  | nil => exact .nil
  | cons h1 _ ih => exact .cons (k _ _ h1) ih
def setF (f : Int → Rat) (a : Int) (r : Rat) : Int → Rat := fun b => if b = a then r else f b
theorem dictA_put {K : PySem.W.Frag} {f : Int → Rat} {H : Hp} {kvs : List (Key × V)} {ks : List Int} {a : Int} {r : Rat} {t : Addr} (h : Paired (Q2k K f H) kvs ks) (ht : SqT K H t [.int (qt r).1, .int (qt r).2]) : Paired (Q2k K (setF f a r) H) (putK kvs (Sum.inl a : Key) (.ref t)) (if a ∈ ks then ks else ks ++ [a]) := by
  unfold putK
  by_cases ha : a ∈ ks
  · rw [if_pos ha, if_pos (dictA_some h ha)]
    refine paired_mapL (fun kv k ⟨h1, t1, h2, h3⟩ => ?_) h
    by_cases c : k = a
    · subst c
      rw [if_pos h1]
      exact ⟨h1, t, rfl, by unfold setF; rw [if_pos rfl]; exact ht⟩
    · rw [if_neg (by rw [h1]; exact fun z => c (Sum.inl.inj z))]
      exact ⟨h1, t1, h2, by unfold setF; rw [if_neg c]; exact h3⟩
  · rw [if_neg ha, if_neg (by rw [dictA_none h ha]; decide)]
    refine paired_app ?_ (.cons ⟨rfl, t, rfl, by unfold setF; rw [if_pos rfl]; exact ht⟩ .nil)
    have key : ∀ {kvs : List (Key × V)} {ks : List Int}, Paired (Q2k K f H) kvs ks → a ∉ ks → Paired (Q2k K (setF f a r) H) kvs ks := by
      intro kvs ks h
      induction h with
      | nil => intro _; exact .nil
      | cons h1 _ ih =>
        intro hn
        refine .cons ?_ (ih fun z => hn (List.mem_cons_of_mem _ z))
        obtain ⟨e1, t1, e2, e3⟩ := h1
        exact ⟨e1, t1, e2, by unfold setF; rw [if_neg fun z => hn (by rw [z]; exact List.mem_cons_self)]; exact e3⟩
    exact key h ha
theorem putK_le {kvs : List (Key × V)} {k : Key} {v : V} {n : Nat} (h : kvs.length ≤ n) : (putK kvs k v).length ≤ n + 1 := Nat.le_trans putK_len (by omega)
def sp_Bout___init__ (K : PySem.W.Frag) (mg : Str → Option Value) : Sp := fun vs H Q _ => match vs with | [.ref x] => ∃ dx, H x = some (.ins (cA mg "Bout") dx []) ∧ ∀ di du H', (∀ b o, H b = some o → b ≠ x → H' b = some o) → H' x = some (.ins (cA mg "Bout") dx [("ins", .ref di), ("ups", .ref du), ("much", .ref (cA mg "NOUGHT"))]) → H' di = some (.dK []) → H' du = some (.dK []) → di ≠ du → H di = none → H du = none → Q .non H' | _ => False
theorem q_Bout___init__ {H : Hp} {Q : VK} {E : XK} {x : Addr} (q : ∃ dx, H x = some (.ins (cA mg "Bout") dx []) ∧ ∀ di du H', (∀ b o, H b = some o → b ≠ x → H' b = some o) → H' x = some (.ins (cA mg "Bout") dx [("ins", .ref di), ("ups", .ref du), ("much", .ref (cA mg "NOUGHT"))]) → H' di = some (.dK []) → H' du = some (.dK []) → di ≠ du → H di = none → H du = none → Q .non H') : sp_Bout___init__ K mg [.ref x] H Q E := q
local macro_rules | `(tactic| walk_at "op") => `(tactic| with_reducible refine q_Bout___init__ ?_)
theorem m_Bout (T : Txt K mg base) : Mak P w K mg base 1 "Bout" (cA mg "Bout") (sp_Bout___init__ K mg) := by
  refine InitAt.mak T.m_Bout T.i_Bout (k := 0) sc_Bout___init__ (by intro vs H Q E h; unfold sp_Bout___init__ at h; split at h <;> first | rfl | exact h.elim) fun f cdv A outer s H vs Q E hr h => ?_
  refine ⟨_, (pss_cons (ps_fld (pv 0) pe_dnewK rfl)
    (pss_cons (ps_fld (pv 0) pe_dnewK rfl)
    (pss_one (ps_fld (pv 0) (pe_glob (v := .ref (cA mg "NOUGHT")) (by rfl) T.m_NOUGHT rfl) rfl)))), ?_⟩
  try simp only [cxOf_K, cxOf_K', cxOf_mg, cxOf_mg']
  unfold sp_Bout___init__ at h
  split at h
  case h_2 => exact h.elim
  rename_i x
  rw [show L2.start ["self"] [V.ref x] = [some (V.ref x)] from rfl]
  obtain ⟨dx, hx, q⟩ := h
  walk_at "sts"
  intro di hdi
  have ndi : di ≠ x := fun z => by rw [z, hx] at hdi; cases hdi
  have s1 := same_new (o := .dK []) hdi
  have e1 : upd H di (.dK []) di = some (.dK []) := upd_same
  generalize upd H di (.dK []) = H1 at s1 e1 ⊢
  walk_at "sts"
  refine L_sFldv (s1 _ _ hx) T.k_Bout T.na_Bout_ins (by decide) ?_
  have x2 : upd H1 x (.ins (cA mg "Bout") dx [("ins", .ref di)]) x = some (.ins (cA mg "Bout") dx [("ins", .ref di)]) := upd_same
  have d2' : upd H1 x (.ins (cA mg "Bout") dx [("ins", .ref di)]) di = some (.dK []) := by rw [upd_ne ndi]; exact e1
  have k2 : ∀ b o, H b = some o → b ≠ x → upd H1 x (.ins (cA mg "Bout") dx [("ins", .ref di)]) b = some o := fun b o hb ne => by rw [upd_ne ne]; exact s1 _ _ hb
  show tSeq _ _ _ _ (upd H1 x (.ins (cA mg "Bout") dx [("ins", .ref di)]))
  generalize upd H1 x (.ins (cA mg "Bout") dx [("ins", .ref di)]) = H2 at x2 d2' k2 ⊢
  walk_at "sts"
  intro du hdu
  have ndu : du ≠ x := fun z => by rw [z, x2] at hdu; cases hdu
  have nddu : di ≠ du := fun z => by rw [← z, d2'] at hdu; cases hdu
  have hdu0 : H du = none := by
    cases e : H du with
    | none => rfl
    | some o => rw [k2 du o e ndu] at hdu; cases hdu
  have s3 := same_new (o := .dK []) hdu
  have e3 : upd H2 du (.dK []) du = some (.dK []) := upd_same
  generalize upd H2 du (.dK []) = H3 at s3 e3 ⊢
  walk_at "sts"
  refine L_sFldv (s3 _ _ x2) T.k_Bout T.na_Bout_ups (by show 1 < 1000; decide) ?_
  have x4 : upd H3 x (.ins (cA mg "Bout") dx [("ins", .ref di), ("ups", .ref du)]) x = some (.ins (cA mg "Bout") dx [("ins", .ref di), ("ups", .ref du)]) := upd_same
  have d4 : upd H3 x (.ins (cA mg "Bout") dx [("ins", .ref di), ("ups", .ref du)]) di = some (.dK []) := by rw [upd_ne ndi]; exact s3 _ _ d2'
  have u4 : upd H3 x (.ins (cA mg "Bout") dx [("ins", .ref di), ("ups", .ref du)]) du = some (.dK []) := by rw [upd_ne ndu]; exact e3
  have k4 : ∀ b o, H b = some o → b ≠ x → upd H3 x (.ins (cA mg "Bout") dx [("ins", .ref di), ("ups", .ref du)]) b = some o := fun b o hb ne => by rw [upd_ne ne]; exact s3 _ _ (k2 b o hb ne)
  show sFld _ _ _ _ _ _ (upd H3 x (.ins (cA mg "Bout") dx [("ins", .ref di), ("ups", .ref du)]))
  generalize upd H3 x (.ins (cA mg "Bout") dx [("ins", .ref di), ("ups", .ref du)]) = H4 at x4 d4 u4 k4 ⊢
  walk_at "sts"
  refine L_sFldv x4 T.k_Bout T.na_Bout_much (by show 2 < 1000; decide) ?_
  exact q di du _ (fun b o hb ne => by rw [upd_ne ne]; exact k4 b o hb ne) upd_same (by rw [upd_ne ndi]; exact d4) (by rw [upd_ne ndu]; exact u4) nddu hdi hdu0
/-- the share in which one that came and one that comes are both drawn -/
def togF (I U : Int → Rat) (M : Rat) (a : Int) (m : Rat) : Rat := if 1 < M + m then I a * m + U a * (M + m - 1) else I a * m
theorem rd_to {H H' : Hp} {a : Addr} {u : HO} (s : Same H H') (h : Rd H a u) : Rd H' a u := h.elim (fun h => .inl (s _ _ h)) (fun ⟨o, h⟩ => .inr ⟨o, s _ _ h⟩)
theorem L_dgetr {H : Hp} {a : Addr} {y v : V} {k : Key} {kvs : List (Key × V)} {R : V → Prop} (e : y = kV k) (h : Rd H a (.dK kvs)) (hv : valV kvs k = some v) (q : R v) : ∃ a' v, V.ref a = .ref a' ∧ DGet H a' y (some v) ∧ R v := ⟨a, v, rfl, .inl ⟨kvs, k, h, e, by rw [hv]⟩, q⟩
def DictR (K : PySem.W.Frag) (H : Hp) (d : Addr) (ks : List Int) (f : Int → Rat) : Prop := ∃ kvs, Rd H d (.dK kvs) ∧ Paired (Q2k K f H) kvs ks
/-- a bout whose dicts may be locked -/
def BoutR (K : PySem.W.Frag) (mg : Str → Option Value) (x di du : Addr) (ks : List Int) (I U : Int → Rat) (M : Rat) (H : Hp) : Prop := ∃ dx tm, H x = some (.ins (cA mg "Bout") dx [("ins", .ref di), ("ups", .ref du), ("much", .ref tm)]) ∧ DictR K H di ks I ∧ DictR K H du ks U ∧ SqT K H tm [.int (qt M).1, .int (qt M).2]
def sp_Bout_together (K : PySem.W.Frag) (mg : Str → Option Value) : Sp := fun vs H Q _ => match vs with | [.ref x, .int a, .ref mt] => ∃ (di du : Addr) (ks : List Int) (I U : Int → Rat) (M m : Rat), BoutR K mg x di du ks I U M H ∧ a ∈ ks ∧ SqT K H mt [.int (qt m).1, .int (qt m).2] ∧ BdQ 800 (I a) ∧ BdQ 800 (U a) ∧ BdQ 40 M ∧ BdQ 40 m ∧ NewT H [.int (qt (togF I U M a m)).1, .int (qt (togF I U M a m)).2] Q | _ => False
theorem q_Bout_together {H : Hp} {Q : VK} {E : XK} {x : Addr} {a : Int} {mt : Addr} (q : ∃ (di du : Addr) (ks : List Int) (I U : Int → Rat) (M m : Rat), BoutR K mg x di du ks I U M H ∧ a ∈ ks ∧ SqT K H mt [.int (qt m).1, .int (qt m).2] ∧ BdQ 800 (I a) ∧ BdQ 800 (U a) ∧ BdQ 40 M ∧ BdQ 40 m ∧ NewT H [.int (qt (togF I U M a m)).1, .int (qt (togF I U M a m)).2] Q) : sp_Bout_together K mg [.ref x, .int a, .ref mt] H Q E := q
local macro_rules | `(tactic| walk_at "op") => `(tactic| with_reducible refine q_Bout_together ?_)
theorem c_Bout_together (T : Txt K mg base) : Met P w K mg base 4 (cA mg "Bout") "together" (sp_Bout_together K mg) := by
  refine MethAt.met T.k_Bout T.d_Bout_together (k := 3) sc_Bout_together (by intro vs H Q E h; unfold sp_Bout_together at h; split at h <;> first | rfl | exact h.elim) fun f cdv A outer s H vs Q E hr h => ?_
  refine ⟨_, (pss_cons (ps_set (i := 3) sc_Bout_together.nd rfl (.inl rfl) (pe_c (c_times T) hr (by decide) (by rfl) (pa_cons (pe_dget (hu_of hr) (pe_fld (pv 0) rfl) (pv 1) (fun _ _ => rfl)) (pa_cons (pv 2) pa_nil))))
    (pss_cons (ps_set (i := 4) sc_Bout_together.nd rfl (.inl rfl) (pe_c (c_plus T) hr (by decide) (by rfl) (pa_cons (pe_fld (pv 0) rfl) (pa_cons (pv 2) pa_nil))))
    (pss_cons (ps_if (pt_val (pe_c (c_below T) hr (by decide) (by rfl) (pa_cons (pe_glob (v := .ref (cA mg "SURE")) (by rfl) T.m_SURE rfl) (pa_cons (pv 4) pa_nil))))
    (pss_one (ps_set (i := 3) sc_Bout_together.nd rfl (.inl rfl) (pe_c (c_plus T) hr (by decide) (by rfl) (pa_cons (pv 3) (pa_cons (pe_c (c_times T) hr (by decide) (by rfl) (pa_cons (pe_dget (hu_of hr) (pe_fld (pv 0) rfl) (pv 1) (fun _ _ => rfl)) (pa_cons (pe_c (c_minus T) hr (by decide) (by rfl) (pa_cons (pv 4) (pa_cons (pe_glob (v := .ref (cA mg "SURE")) (by rfl) T.m_SURE rfl) pa_nil))) pa_nil))) pa_nil)))))
    pss_nil)
    (pss_one (ps_ret (pv 3)))))), ?_⟩
  try simp only [cxOf_K, cxOf_K', cxOf_mg, cxOf_mg']
  unfold sp_Bout_together at h
  split at h
  case h_2 => exact h.elim
  rename_i x a mt
  rw [show L2.start ["self", "at", "share_of_it", "found", "total"] [V.ref x, V.int a, V.ref mt] = [some (V.ref x), some (V.int a), some (V.ref mt), none, none] from rfl]
  obtain ⟨di, du, ks, I, U, M, m, ⟨dx, tm, hx, ⟨kvi, hdi, pi_⟩, ⟨kvu, hdu, pu⟩, htm⟩, ha, hm, bI, bU, bM, bm, q⟩ := h
  obtain ⟨ti, vi, gi⟩ := dictA_at pi_ ha
  obtain ⟨tu, vu, gu⟩ := dictA_at pu ha
  have sure : ∀ H', Fr2 K H' (cA mg "SURE") (qt 1).1 (qt 1).2 := fun H' => frq (.inr T.t_SURE) (bdq_1.mono (by decide))
  unfold togF at q
  walk_at "sts"
  refine L_fldv hx T.k_Bout T.na_Bout_ins rfl ?_
  walk_at "sts"
  refine L_dgetr (k := Sum.inl a) rfl hdi vi ?_
  walk_at "sts"
  refine ⟨_, _, _, _, frq gi (bI.mono (by decide)), frq hm (bm.mono (by decide)), fun p1 H1 hp1 s1 e1 => ?_⟩
  rw [q_mul] at e1
  walk_at "sts"
  refine L_fldv (s1 _ _ hx) T.k_Bout T.na_Bout_much rfl ?_
  walk_at "sts"
  refine ⟨_, _, _, _, frq (s1.seqT htm) (bM.mono (by decide)), frq (s1.seqT hm) (bm.mono (by decide)), fun p2 H2 hp2 s2 e2 => ?_⟩
  rw [q_add] at e2
  have bT := bdq_add bM bm
  walk_at "sts"
  refine ⟨_, _, _, _, sure H2, frq (.of e2) (bT.mono (by decide)), ?_⟩
  rw [show decide ((qt 1).1 * (qt (M + m)).2 < (qt (M + m)).1 * (qt 1).2) = decide (1 < M + m) from by rw [decide_eq_decide]; exact q_lt 1 (M + m)]
  walk_at "sts"
  have s12 := s1.trans s2
  refine L_d (fun c => ?_) (fun c => ?_)
  · rw [if_pos c] at q
    walk_at "sts"
    refine L_fldv (s12 _ _ hx) T.k_Bout T.na_Bout_ups rfl ?_
    walk_at "sts"
    refine L_dgetr (k := Sum.inl a) rfl (rd_to s12 hdu) vu ?_
    walk_at "sts"
    refine ⟨_, _, _, _, frq (.of e2) (bT.mono (by decide)), sure H2, fun p3 H3 hp3 s3 e3 => ?_⟩
    rw [q_sub] at e3
    have bS := bdq_sub bT bdq_1
    walk_at "sts"
    refine ⟨_, _, _, _, frq ((s12.trans s3).seqT gu) (bU.mono (by decide)), frq (.of e3) (bS.mono (by decide)), fun p4 H4 hp4 s4 e4 => ?_⟩
    rw [q_mul] at e4
    walk_at "sts"
    refine ⟨_, _, _, _, frq (.of (s4 _ _ (s3 _ _ (s2 _ _ e1)))) ((bdq_mul bI bm).mono (by decide)), frq (.of e4) ((bdq_mul bU bS).mono (by decide)), fun p5 H5 hp5 s5 e5 => ?_⟩
    rw [q_add] at e5
    walk_at "sts"
    exact q p5 H5 ((s12.trans (s3.trans s4)).free hp5) (s12.trans (s3.trans (s4.trans s5))) e5
  · rw [if_neg c] at q
    walk_at "sts"
    exact q p1 H2 hp1 s12 (s2 _ _ e1)
theorem upd_keepK {H : Hp} {D b : Addr} {kvs : List (Key × V)} {o o' : HO} (h : H D = some (.dK kvs)) (hb : H b = some o') (ne : ∀ l, o' ≠ .dK l) : L2.upd H D o b = some o' := by
  rw [upd_ne fun z => by rw [z, h] at hb; exact ne _ (Option.some.inj hb).symm]
  exact hb
theorem sqT_updK {K : PySem.W.Frag} {H : Hp} {D a : Addr} {kvs : List (Key × V)} {xs : List V} {o : HO} (h : H D = some (.dK kvs)) (ha : SqT K H a xs) : SqT K (L2.upd H D o) a xs := by
  rcases ha with (ha | ⟨oo, ha⟩) | ha
  · exact .inl (.inl (upd_keepK h ha (fun _ z => nomatch z)))
  · exact .inl (.inr ⟨oo, upd_keepK h ha (fun _ z => nomatch z)⟩)
  · exact .inr ha
theorem Q2k.muK {K : PySem.W.Frag} {f : Int → Rat} {H : Hp} {D : Addr} {kvs : List (Key × V)} {kv : Key × V} {k : Int} {o : HO} (e : H D = some (.dK kvs)) (h : Q2k K f H kv k) : Q2k K f (L2.upd H D o) kv k := by
  obtain ⟨h1, t, h2, h3⟩ := h
  exact ⟨h1, t, h2, sqT_updK e h3⟩
theorem DictA.muK {K : PySem.W.Frag} {f : Int → Rat} {H : Hp} {D d : Addr} {kvs : List (Key × V)} {ks : List Int} {o : HO} (e : H D = some (.dK kvs)) (n : d ≠ D) (h : DictA K H d ks f) : DictA K (L2.upd H D o) d ks f := by
  obtain ⟨kv2, h1, h2⟩ := h
  exact ⟨kv2, by rw [upd_ne n]; exact h1, paired_imp2 (fun _ _ h => Q2k.muK e h) h2⟩
theorem DictA.put {K : PySem.W.Frag} {f : Int → Rat} {H : Hp} {d t : Addr} {kvs : List (Key × V)} {ks : List Int} {a : Int} {r : Rat} (e : H d = some (.dK kvs)) (p : Paired (Q2k K f H) kvs ks) (ht : SqT K H t [.int (qt r).1, .int (qt r).2]) : DictA K (L2.upd H d (.dK (putK kvs (Sum.inl a : Key) (.ref t)))) d (if a ∈ ks then ks else ks ++ [a]) (setF f a r) :=
  ⟨_, upd_same, paired_imp2 (fun _ _ h => Q2k.muK e h) (dictA_put p ht)⟩
theorem keys_of {K : PySem.W.Frag} {f : Int → Rat} {H : Hp} {kvs : List (Key × V)} {ks : List Int} (h : Paired (Q2k K f H) kvs ks) : kvs.map (fun kv => kV kv.1) = ks.map V.int := by
  induction h with
  | nil => rfl
  | cons h1 _ ih => rw [List.map_cons, List.map_cons, ih, h1.1]; rfl
theorem paired_memR {α β : Type} {F G : α → β → Prop} : ∀ {xs : List α} {ys : List β}, (∀ x y, y ∈ ys → F x y → G x y) → Paired F xs ys → Paired G xs ys
  | _, _, _, .nil => .nil
  | _, _, k, .cons h t => .cons (k _ _ List.mem_cons_self h) (paired_memR (fun x y hy => k x y (List.mem_cons_of_mem _ hy)) t)
/-- the heap but for a dict -/
def ButK (d : Addr) (H H' : Hp) : Prop := ∀ b o, H b = some o → b ≠ d → H' b = some o
theorem ButK.sqT {K : PySem.W.Frag} {d : Addr} {H H' : Hp} {a : Addr} {xs : List V} {kvs : List (Key × V)} (b : ButK d H H') (e : H d = some (.dK kvs)) (h : SqT K H a xs) : SqT K H' a xs := by
  rcases h with (h | ⟨o, h⟩) | h
  · exact .inl (.inl (b _ _ h fun z => by rw [z, e] at h; cases h))
  · exact .inl (.inr ⟨o, b _ _ h fun z => by rw [z, e] at h; cases h⟩)
  · exact .inr h
theorem sqT_updI {K : PySem.W.Frag} {H : Hp} {D a C dx : Addr} {fs : List (Str × V)} {xs : List V} {o : HO} (h : H D = some (.ins C dx fs)) (ha : SqT K H a xs) : SqT K (L2.upd H D o) a xs := by
  rcases ha with (ha | ⟨oo, ha⟩) | ha
  · exact .inl (.inl (by rw [upd_ne fun z => by rw [z, h] at ha; cases ha]; exact ha))
  · exact .inl (.inr ⟨oo, by rw [upd_ne fun z => by rw [z, h] at ha; cases ha]; exact ha⟩)
  · exact .inr ha
theorem DictA.muI {K : PySem.W.Frag} {f : Int → Rat} {H : Hp} {D d C dx : Addr} {fs : List (Str × V)} {ks : List Int} {o : HO} (e : H D = some (.ins C dx fs)) (h : DictA K H d ks f) : DictA K (L2.upd H D o) d ks f := by
  obtain ⟨kv2, h1, h2⟩ := h
  exact ⟨kv2, by rw [upd_ne fun z => by rw [z, e] at h1; cases h1]; exact h1, paired_imp2 (fun _ _ ⟨g1, t, g2, g3⟩ => ⟨g1, t, g2, sqT_updI e g3⟩) h2⟩
/-- the first of some keys taken so much less -/
def lessF (U : Int → Rat) (ks : List Int) (i : Nat) (r : Rat) : Int → Rat := fun b => if b ∈ ks.take i then U b * r else U b
def sp_Bout_all_ups (K : PySem.W.Frag) (mg : Str → Option Value) : Sp := fun vs H Q _ => match vs with | [.ref x, .ref fa] => ∃ (dx di du tm : Addr) (ks : List Int) (U : Int → Rat) (r : Rat), H x = some (.ins (cA mg "Bout") dx [("ins", .ref di), ("ups", .ref du), ("much", .ref tm)]) ∧ DictA K H du ks U ∧ ks.Nodup ∧ ks.length ≤ 1000 ∧ SqT K H fa [.int (qt r).1, .int (qt r).2] ∧ BdQ 990 r ∧ (∀ a ∈ ks, BdQ 990 (U a)) ∧ ∀ H', ButK du H H' → DictA K H' du ks (fun a => U a * r) → Q .non H' | _ => False
theorem q_Bout_all_ups {H : Hp} {Q : VK} {E : XK} {x : Addr} {fa : Addr} (q : ∃ (dx di du tm : Addr) (ks : List Int) (U : Int → Rat) (r : Rat), H x = some (.ins (cA mg "Bout") dx [("ins", .ref di), ("ups", .ref du), ("much", .ref tm)]) ∧ DictA K H du ks U ∧ ks.Nodup ∧ ks.length ≤ 1000 ∧ SqT K H fa [.int (qt r).1, .int (qt r).2] ∧ BdQ 990 r ∧ (∀ a ∈ ks, BdQ 990 (U a)) ∧ ∀ H', ButK du H H' → DictA K H' du ks (fun a => U a * r) → Q .non H') : sp_Bout_all_ups K mg [.ref x, .ref fa] H Q E := q
local macro_rules | `(tactic| walk_at "op") => `(tactic| with_reducible refine q_Bout_all_ups ?_)
theorem c_Bout_all_ups (T : Txt K mg base) : Met P w K mg base 4 (cA mg "Bout") "all_ups" (sp_Bout_all_ups K mg) := by
  refine MethAt.met T.k_Bout T.d_Bout_all_ups (k := 3) sc_Bout_all_ups (by intro vs H Q E h; unfold sp_Bout_all_ups at h; split at h <;> first | rfl | exact h.elim) fun f cdv A outer s H vs Q E hr h => ?_
  refine ⟨_, (pss_one (ps_for PassesOwn.never rfl (pi_list (pe_callTy (call_listD rfl) (by rfl) T.n_list (by decide +kernel) (pa_cons (pe_fld (pv 0) rfl) pa_nil))) (pg_name (i := 2) sc_Bout_all_ups.nd rfl (.inl rfl))
    (pss_one (ps_dput (hu_of hr) (pe_fld (pv 0) rfl) (pv 2) (pe_c (c_times T) hr (by decide) (by rfl) (pa_cons (pe_dget (hu_of hr) (pe_fld (pv 0) rfl) (pv 2) (fun _ _ => rfl)) (pa_cons (pv 1) pa_nil))) rfl)))), ?_⟩
  try simp only [cxOf_K, cxOf_K', cxOf_mg, cxOf_mg']
  unfold sp_Bout_all_ups at h
  split at h
  case h_2 => exact h.elim
  rename_i x fa
  rw [show L2.start ["self", "factor", "at"] [V.ref x, V.ref fa] = [some (V.ref x), some (V.ref fa), none] from rfl]
  obtain ⟨dx, di, du, tm, ks, U, r, hx, ⟨kv0, hd0, p0⟩, hnd, hl, hf, br, bU, q⟩ := h
  walk_at "sts"
  refine L_fldv hx T.k_Bout T.na_Bout_ups rfl ?_
  walk_at "sts"
  refine ⟨du, kv0, rfl, .inl hd0, fun l hl0 => ?_⟩
  have s1 := same_new (o := .lst (kv0.map fun kv => kV kv.1)) hl0
  have e1 : upd H l (.lst (kv0.map fun kv => kV kv.1)) l = some (.lst (ks.map V.int)) := by rw [upd_same, keys_of p0]
  generalize upd H l (.lst (kv0.map fun kv => kV kv.1)) = H1 at s1 e1 ⊢
  refine ⟨l, rfl, ⟨_, .of e1⟩, ?_⟩
  have nld : l ≠ du := fun z => by rw [z, hd0] at hl0; cases hl0
  refine f_it walk_list (fun i σ' H' => ∃ v2 : Option V, σ' = [some (.ref x), some (.ref fa), v2] ∧ ButK du H1 H' ∧ DictA K H' du ks (lessF U ks i r)) ⟨_, rfl, fun _ _ h _ => h, kv0, s1 _ _ hd0, paired_imp2 (fun _ _ h => Q2k.to h s1) (by
    have : lessF U ks 0 r = U := by funext b; unfold lessF; rw [List.take_zero, if_neg (fun z => nomatch z)]
    rw [this]
    exact p0)⟩ (fun _ _ _ _ ⟨_, _, b, _⟩ => .of (b _ _ e1 nld)) ?_ ?_
  · rintro i y σ' Hy H4 hi ⟨v2, rfl, b4, kv4, hd4, p4⟩ ⟨rfl, hx2⟩
    rw [List.getElem?_map] at hx2
    obtain ⟨a, ha, rfl⟩ := Option.map_eq_some_iff.mp hx2
    have ham := List.mem_of_getElem? ha
    obtain ⟨t4, v4, g4⟩ := dictA_at p4 ham
    have hxn : x ≠ du := fun z => by rw [z, hd0] at hx; cases hx
    have hx4 := b4 _ _ (s1 _ _ hx) hxn
    have nti : a ∉ ks.take i := fun z => by
      obtain ⟨j, hj, e⟩ := List.getElem_of_mem z
      rw [List.getElem_take] at e
      rw [List.length_take] at hj
      have := (List.getElem?_inj (i := j) (j := i) (by omega) hnd).mp (by rw [ha, List.getElem?_eq_getElem (by omega), e])
      omega
    have ea : lessF U ks i r a = U a := by unfold lessF; rw [if_neg nti]
    rw [ea] at g4
    walk_at "sts"
    refine L_fldv hx4 T.k_Bout T.na_Bout_ups rfl ?_
    walk_at "sts"
    refine L_dgetv (k := Sum.inl a) rfl hd4 v4 ?_
    walk_at "sts"
    refine ⟨_, _, _, _, frq g4 ((bU a ham).mono (by decide)), frq (b4.sqT (s1 _ _ hd0) (s1.seqT hf)) (br.mono (by decide)), fun p5 H5 hp5 s5 e5 => ?_⟩
    rw [q_mul] at e5
    walk_at "sts"
    refine L_fldv (s5 _ _ hx4) T.k_Bout T.na_Bout_ups rfl ?_
    walk_at "sts"
    refine L_dputv (k := Sum.inl a) rfl (s5 _ _ hd4) (by have := Paired.length p4; omega) ?_
    walk_at "sts"
    have pp := DictA.put (a := a) (r := U a * r) (s5 _ _ hd4) (paired_imp2 (fun _ _ h => Q2k.to h s5) p4) (.of e5)
    rw [if_pos ham] at pp
    refine ⟨_, rfl, fun b o hb nb => by rw [upd_ne nb]; exact s5 _ _ (b4 b o hb nb), ?_⟩
    have ef : setF (lessF U ks i r) a (U a * r) = lessF U ks (i + 1) r := by
      funext b
      unfold setF lessF
      rw [List.take_succ, ha]
      by_cases c : b = a
      · subst c
        rw [if_pos rfl, if_pos (List.mem_append_right _ (by simp))]
      · rw [if_neg c]
        by_cases z : b ∈ ks.take i
        · rw [if_pos z, if_pos (List.mem_append_left _ z)]
        · rw [if_neg z, if_neg fun y => by
            rcases List.mem_append.mp y with y | y
            · exact z y
            · exact c (by simpa using y)]
    rw [ef] at pp
    exact pp
  · rintro σ' H4 ⟨v2, rfl, b4, kv4, hd4, p4⟩
    rw [List.length_map] at p4
    walk_at "sts"
    refine q H4 (fun b o hb nb => b4 b o (s1 _ _ hb) nb) ⟨kv4, hd4, paired_memR (fun kv k hk h => ?_) p4⟩
    obtain ⟨h1, t, h2, h3⟩ := h
    refine ⟨h1, t, h2, ?_⟩
    have e : lessF U ks ks.length r k = U k * r := by unfold lessF; rw [List.take_length, if_pos hk]
    rw [e] at h3
    exact h3
/-- what stands behind one that comes -/
def comeI (I U : Int → Rat) (M : Rat) (a : Int) (m : Rat) : Int → Rat := if M + m < 1 then setF I a 0 else fun b => if b = a then 1 - (1 - m) / (2 - (M + m)) else I b + U b * ((1 - m) / (2 - (M + m)))
def comeU (U : Int → Rat) (M : Rat) (a : Int) (m : Rat) : Int → Rat := if M + m < 1 then setF (fun b => U b * (M / (M + m))) a (m / (M + m)) else if M + m = 1 then fun _ => 0 else setF (fun b => U b * (1 - (1 - m) / (2 - (M + m)))) a ((1 - m) / (2 - (M + m)))
def comeM (M m : Rat) : Rat := if M + m < 1 then M + m else M + m - 1
def addF (I U : Int → Rat) (ks : List Int) (i : Nat) (w : Rat) : Int → Rat := fun b => if b ∈ ks.take i then I b + U b * w else I b
theorem setF_eq {f : Int → Rat} {a : Int} {r : Rat} : setF f a r a = r := if_pos rfl
theorem setF_ne {f : Int → Rat} {a b : Int} {r : Rat} (h : b ≠ a) : setF f a r b = f b := if_neg h
theorem addF_in {I U : Int → Rat} {ks : List Int} {i : Nat} {w : Rat} {b : Int} (h : b ∈ ks.take i) : addF I U ks i w b = I b + U b * w := if_pos h
theorem addF_no {I U : Int → Rat} {ks : List Int} {i : Nat} {w : Rat} {b : Int} (h : b ∉ ks.take i) : addF I U ks i w b = I b := if_neg h
def sp_Bout_come (K : PySem.W.Frag) (mg : Str → Option Value) : Sp := fun vs H Q _ => match vs with | [.ref x, .int a, .ref mt] => ∃ (di du : Addr) (ks : List Int) (I U : Int → Rat) (M m : Rat), BoutA K mg x di du ks I U M H ∧ a ∉ ks ∧ ks.Nodup ∧ ks.length ≤ 900 ∧ SqT K H mt [.int (qt m).1, .int (qt m).2] ∧ (∀ b ∈ ks, BdQ 800 (I b) ∧ BdQ 800 (U b)) ∧ BdQ 40 M ∧ BdQ 40 m ∧ 0 ≤ M ∧ 0 < m ∧ m < 1 ∧ M < 1 ∧ BdQ 100 (M / (M + m)) ∧ BdQ 100 ((1 - m) / (2 - (M + m))) ∧ ∀ H', (∀ b o, H b = some o → (b ≠ di ∧ b ≠ du) → b ≠ x → H' b = some o) → BoutA K mg x di du (ks ++ [a]) (comeI I U M a m) (comeU U M a m) (comeM M m) H' → Q .non H' | _ => False
theorem q_Bout_come {H : Hp} {Q : VK} {E : XK} {x : Addr} {a : Int} {mt : Addr} (q : ∃ (di du : Addr) (ks : List Int) (I U : Int → Rat) (M m : Rat), BoutA K mg x di du ks I U M H ∧ a ∉ ks ∧ ks.Nodup ∧ ks.length ≤ 900 ∧ SqT K H mt [.int (qt m).1, .int (qt m).2] ∧ (∀ b ∈ ks, BdQ 800 (I b) ∧ BdQ 800 (U b)) ∧ BdQ 40 M ∧ BdQ 40 m ∧ 0 ≤ M ∧ 0 < m ∧ m < 1 ∧ M < 1 ∧ BdQ 100 (M / (M + m)) ∧ BdQ 100 ((1 - m) / (2 - (M + m))) ∧ ∀ H', (∀ b o, H b = some o → (b ≠ di ∧ b ≠ du) → b ≠ x → H' b = some o) → BoutA K mg x di du (ks ++ [a]) (comeI I U M a m) (comeU U M a m) (comeM M m) H' → Q .non H') : sp_Bout_come K mg [.ref x, .int a, .ref mt] H Q E := q
local macro_rules | `(tactic| walk_at "op") => `(tactic| with_reducible refine q_Bout_come ?_)
theorem c_Bout_come (T : Txt K mg base) : Met P w K mg base 5 (cA mg "Bout") "come" (sp_Bout_come K mg) := by
  refine MethAt.met T.k_Bout T.d_Bout_come (k := 4) sc_Bout_come (by intro vs H Q E h; unfold sp_Bout_come at h; split at h <;> first | rfl | exact h.elim) fun f cdv A outer s H vs Q E hr h => ?_
  refine ⟨_, (pss_cons (ps_set (i := 3) sc_Bout_come.nd rfl (.inl rfl) (pe_c (c_plus T) hr (by decide) (by rfl) (pa_cons (pe_fld (pv 0) rfl) (pa_cons (pv 2) pa_nil))))
    (pss_cons (ps_dput (hu_of hr) (pe_fld (pv 0) rfl) (pv 1) (pe_glob (v := .ref (cA mg "NOUGHT")) (by rfl) T.m_NOUGHT rfl) rfl)
    (pss_cons (ps_if (pt_val (pe_c (c_below T) hr (by decide) (by rfl) (pa_cons (pv 3) (pa_cons (pe_glob (v := .ref (cA mg "SURE")) (by rfl) T.m_SURE rfl) pa_nil))))
    (pss_cons (ps_expr (pe_mt (c_Bout_all_ups T) hr (by decide) (pv 0) (pa_cons (pe_c (c_over T) hr (by decide) (by rfl) (pa_cons (pe_fld (pv 0) rfl) (pa_cons (pv 3) pa_nil))) pa_nil)))
    (pss_cons (ps_dput (hu_of hr) (pe_fld (pv 0) rfl) (pv 1) (pe_c (c_over T) hr (by decide) (by rfl) (pa_cons (pv 2) (pa_cons (pv 3) pa_nil))) rfl)
    (pss_cons (ps_fld (pv 0) (pv 3) rfl)
    (pss_one ps_retN))))
    pss_nil)
    (pss_cons (ps_set (i := 4) sc_Bout_come.nd rfl (.inl rfl) (pe_c (c_minus T) hr (by decide) (by rfl) (pa_cons (pe_tup (pa_cons pe_int (pa_cons pe_int pa_nil))) (pa_cons (pv 3) pa_nil))))
    (pss_cons (ps_set (i := 5) sc_Bout_come.nd rfl (.inl rfl) (pe_c (c_over T) hr (by decide) (by rfl) (pa_cons (pe_c (c_minus T) hr (by decide) (by rfl) (pa_cons (pe_glob (v := .ref (cA mg "SURE")) (by rfl) T.m_SURE rfl) (pa_cons (pv 2) pa_nil))) (pa_cons (pv 4) pa_nil))))
    (pss_cons (ps_for PassesOwn.never rfl (pi_list (pe_callTy (call_listD rfl) (by rfl) T.n_list (by decide +kernel) (pa_cons (pe_fld (pv 0) rfl) pa_nil))) (pg_name (i := 6) sc_Bout_come.nd rfl (.inl rfl))
    (pss_one (ps_dput (hu_of hr) (pe_fld (pv 0) rfl) (pv 6) (pe_c (c_plus T) hr (by decide) (by rfl) (pa_cons (pe_dget (hu_of hr) (pe_fld (pv 0) rfl) (pv 6) (fun _ _ => rfl)) (pa_cons (pe_c (c_times T) hr (by decide) (by rfl) (pa_cons (pe_dget (hu_of hr) (pe_fld (pv 0) rfl) (pv 6) (fun _ _ => rfl)) (pa_cons (pv 5) pa_nil))) pa_nil))) rfl)))
    (pss_cons (ps_dput (hu_of hr) (pe_fld (pv 0) rfl) (pv 1) (pe_c (c_minus T) hr (by decide) (by rfl) (pa_cons (pe_glob (v := .ref (cA mg "SURE")) (by rfl) T.m_SURE rfl) (pa_cons (pv 5) pa_nil))) rfl)
    (pss_cons (ps_expr (pe_mt (c_Bout_all_ups T) hr (by decide) (pv 0) (pa_cons (pe_c (c_minus T) hr (by decide) (by rfl) (pa_cons (pe_glob (v := .ref (cA mg "SURE")) (by rfl) T.m_SURE rfl) (pa_cons (pv 5) pa_nil))) pa_nil)))
    (pss_cons (ps_dput (hu_of hr) (pe_fld (pv 0) rfl) (pv 1) (pv 5) rfl)
    (pss_cons (ps_fld (pv 0) (pe_c (c_minus T) hr (by decide) (by rfl) (pa_cons (pv 3) (pa_cons (pe_glob (v := .ref (cA mg "SURE")) (by rfl) T.m_SURE rfl) pa_nil))) rfl)
    (pss_one (ps_if (pt_cmpR (op_eqA hr) (pe_fld (pv 0) rfl) (pe_glob (v := .ref (cA mg "NOUGHT")) (by rfl) T.m_NOUGHT rfl) (nomark _))
    (pss_one (ps_expr (pe_mt (c_Bout_all_ups T) hr (by decide) (pv 0) (pa_cons (pe_glob (v := .ref (cA mg "NOUGHT")) (by rfl) T.m_NOUGHT rfl) pa_nil))))
    pss_nil)))))))))))), ?_⟩
  try simp only [cxOf_K, cxOf_K', cxOf_mg, cxOf_mg']
  unfold sp_Bout_come at h
  split at h
  case h_2 => exact h.elim
  rename_i x a mt
  rw [show L2.start ["self", "at", "much", "total", "odds", "win", "other"] [V.ref x, V.int a, V.ref mt] = [some (V.ref x), some (V.int a), some (V.ref mt), none, none, none, none] from rfl]
  obtain ⟨di, du, ks, I, U, M, m, ⟨dx, tm, hx, ⟨kvi, hdi, pi_⟩, ⟨kvu, hdu, pu⟩, htm, nd⟩, ha, hnd, hl, hm, bIU, bM, bm, M0, m0, m1, M1, bf, bw, q⟩ := h
  have sure : ∀ H', Fr2 K H' (cA mg "SURE") (qt 1).1 (qt 1).2 := fun H' => frq (.inr T.t_SURE) (bdq_1.mono (by decide))
  have bT := bdq_add bM bm
  have kil : kvi.length = ks.length := Paired.length pi_
  have kul : kvu.length = ks.length := Paired.length pu
  have nix : di ≠ x := fun z => by rw [z, hx] at hdi; cases hdi
  have nux : du ≠ x := fun z => by rw [z, hx] at hdu; cases hdu
  walk_at "sts"
  refine L_fldv hx T.k_Bout T.na_Bout_much rfl ?_
  walk_at "sts"
  refine ⟨_, _, _, _, frq htm (bM.mono (by decide)), frq hm (bm.mono (by decide)), fun t1 H1 ht1 s1 e1 => ?_⟩
  rw [q_add] at e1
  walk_at "sts"
  refine L_fldv (s1 _ _ hx) T.k_Bout T.na_Bout_ins rfl ?_
  walk_at "sts"
  refine L_dputv (k := Sum.inl a) rfl (s1 _ _ hdi) (by omega) ?_
  have ppi := DictA.put (a := a) (r := 0) (s1 _ _ hdi) (paired_imp2 (fun _ _ h => Q2k.to h s1) pi_) (.inr T.t_NOUGHT)
  rw [if_neg ha] at ppi
  have b2 : ButK di H1 (upd H1 di (.dK (putK kvi (Sum.inl a : Key) (.ref (cA mg "NOUGHT"))))) := fun b o hb nb => by rw [upd_ne nb]; exact hb
  have hx2 := b2 _ _ (s1 _ _ hx) nix.symm
  have hdu2 := b2 _ _ (s1 _ _ hdu) nd.symm
  have pu2 : Paired (Q2k K U (upd H1 di (.dK (putK kvi (Sum.inl a : Key) (.ref (cA mg "NOUGHT")))))) kvu ks := paired_imp2 (fun _ _ h => Q2k.muK (s1 _ _ hdi) (Q2k.to h s1)) pu
  have e12 := b2 _ _ e1 (fun z => by have := s1 _ _ hdi; rw [← z, e1] at this; cases this)
  have hm2 := b2.sqT (s1 _ _ hdi) (s1.seqT hm)
  have htm2 := b2.sqT (s1 _ _ hdi) (s1.seqT htm)
  generalize upd H1 di (.dK (putK kvi (Sum.inl a : Key) (.ref (cA mg "NOUGHT")))) = H2 at ppi b2 hx2 hdu2 pu2 e12 hm2 htm2 ⊢
  walk_at "sts"
  refine ⟨_, _, _, _, frq (.of e12) (bT.mono (by decide)), sure H2, ?_⟩
  rw [show decide ((qt (M + m)).1 * (qt 1).2 < (qt 1).1 * (qt (M + m)).2) = decide (M + m < 1) from by rw [decide_eq_decide]; exact q_lt (M + m) 1]
  walk_at "sts"
  have Tpos : 0 < M + m := by grind
  have Tne : M + m ≠ 0 := by grind
  refine L_d (fun c => ?_) (fun c => ?_)
  · have eI : comeI I U M a m = setF I a 0 := if_pos c
    have eU : comeU U M a m = setF (fun b => U b * (M / (M + m))) a (m / (M + m)) := if_pos c
    have eM : comeM M m = M + m := if_pos c
    rw [eI, eU, eM] at q
    walk_at "sts"
    refine L_methv hx2 rfl ?_
    walk_at "sts"
    refine L_fldv hx2 T.k_Bout T.na_Bout_much rfl ?_
    walk_at "sts"
    refine ⟨_, _, _, _, frq htm2 (bM.mono (by decide)), frq (.of e12) (bT.mono (by decide)), q_num0 Tne, fun t3 H3 ht3 s3 e3 => ?_⟩
    rw [q_div _ _ Tne] at e3
    walk_at "sts"
    refine ⟨dx, di, du, tm, ks, U, M / (M + m), s3 _ _ hx2, ⟨kvu, s3 _ _ hdu2, paired_imp2 (fun _ _ h => Q2k.to h s3) pu2⟩, hnd, by omega, .of e3, bf.mono (by decide), fun b hb => (bIU b hb).2.mono (by decide), fun H4 b4 ⟨kv4, d4, p4⟩ => ?_⟩
    have hd3 := s3 _ _ hdu2
    have hm4 := b4.sqT hd3 (s3.seqT hm2)
    have e14 := b4 _ _ (s3 _ _ e12) (fun z => by rw [z] at e12; rw [hdu2] at e12; cases e12)
    have hx4 := b4 _ _ (s3 _ _ hx2) nux.symm
    have nud : di ≠ du := nd
    obtain ⟨kvi2, hdi2, ppi2⟩ := ppi
    have hdi4 := b4 _ _ (s3 _ _ hdi2) nd
    have ppi4 : Paired (Q2k K (setF I a 0) H4) kvi2 (ks ++ [a]) := paired_imp2 (fun _ _ ⟨h1, t, h2, h3⟩ => ⟨h1, t, h2, b4.sqT hd3 (s3.seqT h3)⟩) ppi2
    walk_at "sts"
    refine ⟨_, _, _, _, frq hm4 (bm.mono (by decide)), frq (.of e14) (bT.mono (by decide)), q_num0 Tne, fun t5 H5 ht5 s5 e5 => ?_⟩
    rw [q_div _ _ Tne] at e5
    walk_at "sts"
    refine L_fldv (s5 _ _ hx4) T.k_Bout T.na_Bout_ups rfl ?_
    walk_at "sts"
    refine L_dputv (k := Sum.inl a) rfl (s5 _ _ d4) (by have := Paired.length p4; omega) ?_
    have pp := DictA.put (a := a) (r := m / (M + m)) (s5 _ _ d4) (paired_imp2 (fun _ _ h => Q2k.to h s5) p4) (.of e5)
    rw [if_neg ha] at pp
    have b6 : ButK du H5 (upd H5 du (.dK (putK kv4 (Sum.inl a : Key) (.ref t5)))) := fun b o hb nb => by rw [upd_ne nb]; exact hb
    have ppi6 : DictA K (upd H5 du (.dK (putK kv4 (Sum.inl a : Key) (.ref t5)))) di (ks ++ [a]) (setF I a 0) := DictA.muK (s5 _ _ d4) nd ⟨kvi2, s5 _ _ hdi4, paired_imp2 (fun _ _ h => Q2k.to h s5) ppi4⟩
    have hx6 := b6 _ _ (s5 _ _ hx4) nux.symm
    have e16 := b6 _ _ (s5 _ _ e14) (fun z => by rw [z, d4] at e14; cases e14)
    have K6 : ∀ b o, H b = some o → (b ≠ di ∧ b ≠ du) → b ≠ x → upd H5 du (.dK (putK kv4 (Sum.inl a : Key) (.ref t5))) b = some o := fun b o hb nk nx => by
      have n1 : b ≠ di := nk.1
      have n2 : b ≠ du := nk.2
      exact b6 _ _ (s5 _ _ (b4 _ _ (s3 _ _ (b2 _ _ (s1 _ _ hb) n1)) n2)) n2
    generalize upd H5 du (.dK (putK kv4 (Sum.inl a : Key) (.ref t5))) = H6 at pp b6 ppi6 hx6 e16 K6 ⊢
    walk_at "sts"
    refine L_sFldv hx6 T.k_Bout T.na_Bout_much (by show 3 < 1000; decide) ?_
    walk_at "sts"
    refine q _ (fun b o hb nk nx => by rw [upd_ne nx]; exact K6 b o hb nk nx) ⟨dx, t1, by rw [upd_same]; rfl, DictA.muI hx6 ppi6, DictA.muI hx6 pp, sqT_updI hx6 (.of e16), nd⟩
  · have eI : comeI I U M a m = fun b => if b = a then 1 - (1 - m) / (2 - (M + m)) else I b + U b * ((1 - m) / (2 - (M + m))) := if_neg c
    have eM : comeM M m = M + m - 1 := if_neg c
    rw [eI, eM] at q
    have One : 2 - (M + m) ≠ 0 := by grind
    walk_at "sts"
    walk_at "nw"
    rename_i t3 ht3 H3 s3 e3
    walk_at "sts"
    refine ⟨_, _, _, _, frq (r := 2) (.of e3) (bdq_2.mono (by decide)), frq (.of (s3 _ _ e12)) (bT.mono (by decide)), fun t4 H4 ht4 s4 e4 => ?_⟩
    rw [q_sub] at e4
    have bO := bdq_sub bdq_2 bT
    walk_at "sts"
    refine ⟨_, _, _, _, sure H4, frq ((s3.trans s4).seqT hm2) (bm.mono (by decide)), fun t5 H5 ht5 s5 e5 => ?_⟩
    rw [q_sub] at e5
    have bN := bdq_sub bdq_1 bm
    walk_at "sts"
    refine ⟨_, _, _, _, frq (.of e5) (bN.mono (by decide)), frq (.of (s5 _ _ e4)) (bO.mono (by decide)), q_num0 One, fun t6 H6 ht6 s6 e6 => ?_⟩
    rw [q_div _ _ One] at e6
    generalize hw : (1 - m) / (2 - (M + m)) = w at *
    walk_at "sts"
    have s26 := s3.trans (s4.trans (s5.trans s6))
    refine L_fldv (s26 _ _ hx2) T.k_Bout T.na_Bout_ups rfl ?_
    walk_at "sts"
    have pu6 : Paired (Q2k K U H6) kvu ks := paired_imp2 (fun _ _ h => Q2k.to h s26) pu2
    refine ⟨du, kvu, rfl, .inl (s26 _ _ hdu2), fun l hl0 => ?_⟩
    have s7 := same_new (o := .lst (kvu.map fun kv => kV kv.1)) hl0
    have e7 : upd H6 l (.lst (kvu.map fun kv => kV kv.1)) l = some (.lst (ks.map V.int)) := by rw [upd_same, keys_of pu6]
    generalize upd H6 l (.lst (kvu.map fun kv => kV kv.1)) = H7 at s7 e7 ⊢
    refine ⟨l, rfl, ⟨_, .of e7⟩, ?_⟩
    obtain ⟨kvi2, hdi2, ppi2⟩ := ppi
    have s27 := s26.trans s7
    have nldi : l ≠ di := fun z => by rw [z, s26 _ _ hdi2] at hl0; cases hl0
    have ab : a ∉ ks := ha
    refine f_it walk_list (fun i σ' H' => ∃ v6 : Option V, σ' = [some (.ref x), some (.int a), some (.ref mt), some (.ref t1), some (.ref t4), some (.ref t6), v6] ∧ ButK di H7 H' ∧ DictA K H' di (ks ++ [a]) (addF (setF I a 0) U ks i w)) ⟨_, rfl, fun _ _ h _ => h, kvi2, s27 _ _ hdi2, paired_imp2 (fun _ _ h => Q2k.to h s27) (by
      have : addF (setF I a 0) U ks 0 w = setF I a 0 := by funext b; unfold addF; rw [List.take_zero, if_neg (fun z => nomatch z)]
      rw [this]
      exact ppi2)⟩ (fun _ _ _ _ ⟨_, _, b, _⟩ => .of (b _ _ e7 nldi)) ?_ ?_
    · rintro i y σ' Hy H8 hi ⟨v6, rfl, b8, kv8, hd8, p8⟩ ⟨rfl, hx8⟩
      rw [List.getElem?_map] at hx8
      obtain ⟨b, hb, rfl⟩ := Option.map_eq_some_iff.mp hx8
      have hbm := List.mem_of_getElem? hb
      have nba : b ≠ a := fun z => ab (by rw [← z]; exact hbm)
      obtain ⟨t9, v9, g9⟩ := dictA_at p8 (List.mem_append_left [a] hbm)
      obtain ⟨tu, vu, gu⟩ := dictA_at pu6 hbm
      have nti : b ∉ ks.take i := fun z => by
        obtain ⟨j, hj, e⟩ := List.getElem_of_mem z
        rw [List.getElem_take] at e
        rw [List.length_take] at hj
        have := (List.getElem?_inj (i := j) (j := i) (by omega) hnd).mp (by rw [hb, List.getElem?_eq_getElem (by omega), e])
        omega
      have ea : addF (setF I a 0) U ks i w b = I b := by unfold addF setF; rw [if_neg nti, if_neg nba]
      rw [ea] at g9
      have x8 := b8 _ _ (s27 _ _ hx2) nix.symm
      have du8 := b8 _ _ (s27 _ _ hdu2) nd.symm
      have di7 := s27 _ _ hdi2
      walk_at "sts"
      refine L_fldv x8 T.k_Bout T.na_Bout_ins rfl ?_
      walk_at "sts"
      refine L_dgetv (k := Sum.inl b) rfl hd8 v9 ?_
      walk_at "sts"
      refine L_fldv x8 T.k_Bout T.na_Bout_ups rfl ?_
      walk_at "sts"
      refine L_dgetv (k := Sum.inl b) rfl du8 vu ?_
      walk_at "sts"
      refine ⟨_, _, _, _, frq (b8.sqT di7 (s7.seqT gu)) ((bIU b hbm).2.mono (by decide)), frq (b8.sqT di7 (.of (s7 _ _ e6))) (bw.mono (by decide)), fun p10 H10 hp10 s10 e10 => ?_⟩
      rw [q_mul] at e10
      walk_at "sts"
      refine ⟨_, _, _, _, frq (s10.seqT g9) ((bIU b hbm).1.mono (by decide)), frq (.of e10) ((bdq_mul (bIU b hbm).2 bw).mono (by decide)), fun p11 H11 hp11 s11 e11 => ?_⟩
      rw [q_add] at e11
      have s811 := s10.trans s11
      walk_at "sts"
      refine L_fldv (s811 _ _ x8) T.k_Bout T.na_Bout_ins rfl ?_
      walk_at "sts"
      refine L_dputv (k := Sum.inl b) rfl (s811 _ _ hd8) (by have := Paired.length p8; rw [List.length_append] at this; simp at this; omega) ?_
      walk_at "sts"
      have pp := DictA.put (a := b) (r := I b + U b * w) (s811 _ _ hd8) (paired_imp2 (fun _ _ h => Q2k.to h s811) p8) (.of e11)
      rw [if_pos (List.mem_append_left [a] hbm)] at pp
      refine ⟨_, rfl, fun c o hc nc => by rw [upd_ne nc]; exact s811 _ _ (b8 c o hc nc), ?_⟩
      have ef : setF (addF (setF I a 0) U ks i w) b (I b + U b * w) = addF (setF I a 0) U ks (i + 1) w := by
        funext c
        have ht : ks.take (i + 1) = ks.take i ++ [b] := by rw [List.take_succ, hb]; rfl
        by_cases z : c = b
        · subst z
          rw [setF_eq, addF_in (by rw [ht]; exact List.mem_append_right _ List.mem_cons_self), setF_ne nba]
        · rw [setF_ne z]
          by_cases y : c ∈ ks.take i
          · rw [addF_in y, addF_in (by rw [ht]; exact List.mem_append_left _ y)]
          · rw [addF_no y, addF_no (by rw [ht]; exact fun v => (List.mem_append.mp v).elim y fun v => z (by simpa using v))]
      rw [ef] at pp
      exact pp
    · rintro σ' H8 ⟨v6, rfl, b8, kv8, hd8, p8⟩
      rw [List.length_map] at p8
      have x8 := b8 _ _ (s27 _ _ hx2) nix.symm
      have du8 := b8 _ _ (s27 _ _ hdu2) nd.symm
      have di7 := s27 _ _ hdi2
      have w8 : SqT K H8 t6 [.int (qt w).1, .int (qt w).2] := b8.sqT di7 (.of (s7 _ _ e6))
      have T8 : SqT K H8 t1 [.int (qt (M + m)).1, .int (qt (M + m)).2] := b8.sqT di7 (s27.seqT (.of e12))
      have pu8 : Paired (Q2k K U H8) kvu ks := paired_imp2 (fun _ _ ⟨h1, t, h2, h3⟩ => ⟨h1, t, h2, b8.sqT di7 (s7.seqT h3)⟩) pu6
      have K8 : ∀ b o, H b = some o → (b ≠ di ∧ b ≠ du) → H8 b = some o := fun b o hb nk => by
        have n1 : b ≠ di := nk.1
        exact b8 _ _ (s27 _ _ (b2 _ _ (s1 _ _ hb) n1)) n1
      clear b8 s27 s7 s26 s6 s5 s4 s3 pu6 pu2 ppi2 hdi2
      walk_at "sts"
      refine ⟨_, _, _, _, sure H8, frq w8 (bw.mono (by decide)), fun t9 H9 ht9 s9 e9 => ?_⟩
      rw [q_sub] at e9
      have bV := bdq_sub bdq_1 bw
      walk_at "sts"
      refine L_fldv (s9 _ _ x8) T.k_Bout T.na_Bout_ins rfl ?_
      walk_at "sts"
      refine L_dputv (k := Sum.inl a) rfl (s9 _ _ hd8) (by have := Paired.length p8; rw [List.length_append] at this; simp at this; omega) ?_
      have pp := DictA.put (a := a) (r := 1 - w) (s9 _ _ hd8) (paired_imp2 (fun _ _ h => Q2k.to h s9) p8) (.of e9)
      rw [if_pos (List.mem_append_right ks List.mem_cons_self)] at pp
      have eF : DictA K (upd H9 di (.dK (putK kv8 (Sum.inl a : Key) (.ref t9)))) di (ks ++ [a]) (fun b => if b = a then 1 - w else I b + U b * w) := by
        obtain ⟨kv, h1, h2⟩ := pp
        refine ⟨kv, h1, paired_memR (fun kv k hk ⟨g1, t, g2, g3⟩ => ⟨g1, t, g2, ?_⟩) h2⟩
        have e : setF (addF (setF I a 0) U ks ks.length w) a (1 - w) k = if k = a then 1 - w else I k + U k * w := by
          by_cases z : k = a
          · rw [if_pos z, z, setF_eq]
          · rw [if_neg z, setF_ne z, addF_in (by rw [List.take_length]; exact (List.mem_append.mp hk).resolve_right fun y => z (by simpa using y)), setF_ne z]
        rw [e] at g3
        exact g3
      clear pp
      have b10 : ButK di H9 (upd H9 di (.dK (putK kv8 (Sum.inl a : Key) (.ref t9)))) := fun b o hb nb => by rw [upd_ne nb]; exact hb
      have x10 := b10 _ _ (s9 _ _ x8) nix.symm
      have du10 := b10 _ _ (s9 _ _ du8) nd.symm
      have sT : ∀ {c xs}, SqT K H8 c xs → SqT K (upd H9 di (.dK (putK kv8 (Sum.inl a : Key) (.ref t9)))) c xs := fun h => b10.sqT (s9 _ _ hd8) (s9.seqT h)
      have pu10 : Paired (Q2k K U (upd H9 di (.dK (putK kv8 (Sum.inl a : Key) (.ref t9))))) kvu ks := paired_imp2 (fun _ _ ⟨h1, t, h2, h3⟩ => ⟨h1, t, h2, sT h3⟩) pu8
      have w10 := sT w8
      have T10 := sT T8
      have K10 : ∀ b o, H b = some o → (b ≠ di ∧ b ≠ du) → upd H9 di (.dK (putK kv8 (Sum.inl a : Key) (.ref t9))) b = some o := fun b o hb nk => by
        have n1 : b ≠ di := nk.1
        exact b10 _ _ (s9 _ _ (K8 b o hb nk)) n1
      generalize upd H9 di (.dK (putK kv8 (Sum.inl a : Key) (.ref t9))) = H10 at eF b10 x10 du10 sT pu10 w10 T10 K10 ⊢
      walk_at "sts"
      refine L_methv x10 rfl ?_
      walk_at "sts"
      refine ⟨_, _, _, _, sure H10, frq w10 (bw.mono (by decide)), fun t11 H11 ht11 s11 e11 => ?_⟩
      rw [q_sub] at e11
      walk_at "sts"
      refine ⟨dx, di, du, tm, ks, U, 1 - w, s11 _ _ x10, ⟨kvu, s11 _ _ du10, paired_imp2 (fun _ _ h => Q2k.to h s11) pu10⟩, hnd, by omega, .of e11, bV.mono (by decide), fun b hb => (bIU b hb).2.mono (by decide), fun H12 b12 ⟨kv12, d12, p12⟩ => ?_⟩
      have du11 := s11 _ _ du10
      have x12 := b12 _ _ (s11 _ _ x10) nux.symm
      have sT12 : ∀ {c xs}, SqT K H10 c xs → SqT K H12 c xs := fun h => b12.sqT du11 (s11.seqT h)
      have w12 := sT12 w10
      have T12 := sT12 T10
      obtain ⟨kvF, hdF, pF⟩ := eF
      have eF12 : DictA K H12 di (ks ++ [a]) (fun b => if b = a then 1 - w else I b + U b * w) := ⟨kvF, b12 _ _ (s11 _ _ hdF) nd, paired_imp2 (fun _ _ ⟨h1, t, h2, h3⟩ => ⟨h1, t, h2, sT12 h3⟩) pF⟩
      have K12 : ∀ b o, H b = some o → (b ≠ di ∧ b ≠ du) → H12 b = some o := fun b o hb nk => by
        have n2 : b ≠ du := nk.2
        exact b12 _ _ (s11 _ _ (K10 b o hb nk)) n2
      walk_at "sts"
      refine L_fldv x12 T.k_Bout T.na_Bout_ups rfl ?_
      walk_at "sts"
      refine L_dputv (k := Sum.inl a) rfl d12 (by have := Paired.length p12; omega) ?_
      have pp := DictA.put (a := a) (r := w) d12 p12 w12
      rw [if_neg ha] at pp
      have b13 : ButK du H12 (upd H12 du (.dK (putK kv12 (Sum.inl a : Key) (.ref t6)))) := fun b o hb nb => by rw [upd_ne nb]; exact hb
      have x13 := b13 _ _ x12 nux.symm
      have eF13 : DictA K (upd H12 du (.dK (putK kv12 (Sum.inl a : Key) (.ref t6)))) di (ks ++ [a]) (fun b => if b = a then 1 - w else I b + U b * w) := DictA.muK d12 nd eF12
      have T13 := b13.sqT d12 T12
      have K13 : ∀ b o, H b = some o → (b ≠ di ∧ b ≠ du) → upd H12 du (.dK (putK kv12 (Sum.inl a : Key) (.ref t6))) b = some o := fun b o hb nk => by
        have n2 : b ≠ du := nk.2
        exact b13 _ _ (K12 b o hb nk) n2
      generalize upd H12 du (.dK (putK kv12 (Sum.inl a : Key) (.ref t6))) = H13 at pp b13 x13 eF13 T13 K13 ⊢
      walk_at "sts"
      refine ⟨_, _, _, _, frq T13 (bT.mono (by decide)), sure H13, fun t14 H14 ht14 s14 e14 => ?_⟩
      rw [q_sub] at e14
      walk_at "sts"
      refine L_sFldv (s14 _ _ x13) T.k_Bout T.na_Bout_much (by show 3 < 1000; decide) ?_
      have x14 := s14 _ _ x13
      have eF14 := eF13.to s14
      have pp14 := pp.to s14
      have K14 : ∀ b o, H b = some o → (b ≠ di ∧ b ≠ du) → H14 b = some o := fun b o hb nk => s14 _ _ (K13 b o hb nk)
      have t14' : SqT K H14 t14 [.int (qt (M + m - 1)).1, .int (qt (M + m - 1)).2] := .of e14
      generalize hH : upd H14 x _ = H15
      have x15 : H15 x = some (.ins (cA mg "Bout") dx [("ins", .ref di), ("ups", .ref du), ("much", .ref t14)]) := by rw [← hH, upd_same]; rfl
      have eF15 : DictA K H15 di (ks ++ [a]) (fun b => if b = a then 1 - w else I b + U b * w) := by rw [← hH]; exact DictA.muI x14 eF14
      have pp15 : DictA K H15 du (ks ++ [a]) (setF (fun b => U b * (1 - w)) a w) := by rw [← hH]; exact DictA.muI x14 pp14
      have m15 : SqT K H15 t14 [.int (qt (M + m - 1)).1, .int (qt (M + m - 1)).2] := by rw [← hH]; exact sqT_updI x14 t14'
      have K15 : ∀ b o, H b = some o → (b ≠ di ∧ b ≠ du) → b ≠ x → H15 b = some o := fun b o hb nk nx => by rw [← hH, upd_ne nx]; exact K14 b o hb nk
      clear hH eF14 pp14 K14 t14' x14 e14 s14
      walk_at "sts"
      refine L_fldv x15 T.k_Bout T.na_Bout_much rfl ?_
      walk_at "sts"
      refine L_eqD (d := d2 (qt (M + m - 1))) (e := d2 (qt 0)) (.tup m15 (.cons (.int _) (.cons (.int _) .nil))) (.tup (.inr T.t_NOUGHT) (.cons (.int _) (.cons (.int _) .nil))) (shp_tup (n := 0) (shp_cons shp_int (shp_cons shp_int shp_nil))).ok (shp_tup (n := 0) (shp_cons shp_int (shp_cons shp_int shp_nil))).ok ?_
      rw [eqv_d2, show decide (qt (M + m - 1) = qt 0) = decide (M + m = 1) from by rw [decide_eq_decide, qt_inj]; constructor <;> intro h <;> grind]
      walk_at "sts"
      refine L_d (fun c2 => ?_) (fun c2 => ?_)
      · have eU : comeU U M a m = fun _ => 0 := by unfold comeU; rw [if_neg c, if_pos c2]
        rw [eU] at q
        walk_at "sts"
        refine L_methv x15 rfl ?_
        walk_at "sts"
        refine ⟨dx, di, du, t14, ks ++ [a], setF (fun b => U b * (1 - w)) a w, 0, x15, pp15, ?_, by rw [List.length_append]; simp; omega, .inr T.t_NOUGHT, bdq_0.mono (by decide), fun b hb => ?_, fun H16 b16 pu16 => ?_⟩
        · rw [List.nodup_append]
          exact ⟨hnd, by simp, fun y hy z hz => by rw [List.mem_singleton.mp hz]; exact fun e => ha (by rw [← e]; exact hy)⟩
        · by_cases z : b = a
          · rw [z, setF_eq]
            exact bw.mono (by decide)
          · rw [setF_ne z]
            exact (bdq_mul (bIU b ((List.mem_append.mp hb).resolve_right fun y => z (by simpa using y))).2 bV).mono (by decide)
        · walk_at "sts"
          obtain ⟨kvu15, du15, _⟩ := pp15
          obtain ⟨kvF, hdF, pF⟩ := eF15
          have nux' : x ≠ du := nux.symm
          refine q H16 (fun b o hb nk nx => b16 _ _ (K15 b o hb nk nx) nk.2) ⟨dx, t14, b16 _ _ x15 nux', ⟨kvF, b16 _ _ hdF nd, paired_imp2 (fun _ _ ⟨h1, t, h2, h3⟩ => ⟨h1, t, h2, b16.sqT du15 h3⟩) pF⟩, ?_, b16.sqT du15 m15, nd⟩
          obtain ⟨kv, h1, h2⟩ := pu16
          refine ⟨kv, h1, paired_imp2 (fun _ k ⟨g1, t, g2, g3⟩ => ⟨g1, t, g2, ?_⟩) h2⟩
          have e : setF (fun b => U b * (1 - w)) a w k * 0 = 0 := by
            generalize setF (fun b => U b * (1 - w)) a w k = y
            grind
          have g4 : SqT K H16 t [.int (qt (setF (fun b => U b * (1 - w)) a w k * 0)).1, .int (qt (setF (fun b => U b * (1 - w)) a w k * 0)).2] := g3
          rw [e] at g4
          exact g4
      · have eU : comeU U M a m = setF (fun b => U b * (1 - w)) a w := by unfold comeU; rw [if_neg c, if_neg c2, hw]
        rw [eU] at q
        walk_at "sts"
        exact q H15 K15 ⟨dx, t14, x15, eF15, pp15, m15, nd⟩
/-! rationals that are whole; quotients -/
def isI (r : Rat) : Prop := ∃ z : Int, r = (z : Rat)
theorem isI_mul {a b : Rat} (h : isI a) (k : isI b) : isI (a * b) := by
  obtain ⟨x, rfl⟩ := h
  obtain ⟨y, rfl⟩ := k
  exact ⟨x * y, by rw [Rat.intCast_mul]⟩
theorem isI_add {a b : Rat} (h : isI a) (k : isI b) : isI (a + b) := by
  obtain ⟨x, rfl⟩ := h
  obtain ⟨y, rfl⟩ := k
  exact ⟨x + y, by rw [Rat.intCast_add]⟩
theorem isI_sub {a b : Rat} (h : isI a) (k : isI b) : isI (a - b) := by
  obtain ⟨x, rfl⟩ := h
  obtain ⟨y, rfl⟩ := k
  exact ⟨x - y, by rw [Rat.intCast_sub]⟩
theorem isI_0 : isI 0 := ⟨0, rfl⟩
theorem isI_int (z : Int) : isI (z : Rat) := ⟨z, rfl⟩
theorem iq_pos {L : Int} (h : 0 < L) : (0 : Rat) < (L : Rat) := Rat.intCast_pos.mpr h
theorem div_pos' {a b : Rat} (ha : 0 < a) (hb : 0 < b) : 0 < a / b := by
  rw [Rat.lt_div_iff hb]
  grind
theorem div_nn {a b : Rat} (ha : 0 ≤ a) (hb : 0 < b) : 0 ≤ a / b := by
  rcases Rat.le_iff_lt_or_eq.mp ha with h | h
  · exact Rat.le_of_lt (div_pos' h hb)
  · rw [← h]
    grind
theorem div_le1 {a b : Rat} (h : a ≤ b) (hb : 0 < b) : a / b ≤ 1 := by
  have e : a / b * b = a := by grind
  rcases (Rat.le_total : a / b ≤ 1 ∨ 1 ≤ a / b) with z | z
  · exact z
  · have : b ≤ a / b * b := by
      have := Rat.mul_le_mul_of_nonneg_right z (Rat.le_of_lt hb)
      grind
    have : a / b = 1 := by
      have hne : b ≠ 0 := by grind
      have : a = b := by grind
      rw [this]
      grind
    grind
theorem bdq_isI {r : Rat} {D : Int} {n : Nat} (h0 : 0 < D) (hD : D ≤ 2 ^ n) (hi : isI (r * D)) (r0 : 0 ≤ r) (r1 : r ≤ 1) : BdQ (n + 1) r := by
  obtain ⟨z, hz⟩ := hi
  have hDq := iq_pos h0
  have e : r = (z : Rat) / D := by
    rw [← hz]
    grind
  have z0 : 0 ≤ z := by
    have : (0 : Rat) ≤ (z : Rat) := by rw [← hz]; exact Rat.mul_nonneg r0 (Rat.le_of_lt hDq)
    exact Rat.intCast_nonneg.mp this
  have z1 : z ≤ D := by
    have : (z : Rat) ≤ (D : Rat) := by
      rw [← hz]
      have := Rat.mul_le_mul_of_nonneg_right r1 (Rat.le_of_lt hDq)
      grind
    exact Rat.intCast_le_intCast.mp this
  have p2 : (2 : Int) ^ n < 2 ^ (n + 1) := by
    have : (0 : Int) < 2 ^ n := Int.pow_pos (by decide)
    rw [Int.pow_succ]
    omega
  have bd : ∀ x : Int, 0 ≤ x → x ≤ D → Bd (n + 1) x := fun x h1 h2 => by
    unfold Bd
    have : (x.natAbs : Int) < ((2 ^ (n + 1) : Nat) : Int) := by
      rw [Int.natCast_pow]
      show (x.natAbs : Int) < (2 : Int) ^ (n + 1)
      omega
    exact Int.ofNat_lt.mp this
  exact bdq_of (by omega) e (bd z z0 z1) (bd D (by omega) (by omega))
theorem pow32 (n : Nat) : (2 : Int) ^ (32 * (n + 1)) = 2 ^ (32 * n) * 4294967296 := by
  rw [Nat.mul_succ, Int.pow_add]
  rfl
theorem grow32 {n : Nat} {D d : Int} (d0 : 0 < D) (d1 : D ≤ 2 ^ (32 * n)) (e0 : 0 < d) (e1 : d ≤ 4294967296) : 0 < D * d ∧ D * d ≤ 2 ^ (32 * (n + 1)) := by
  rw [pow32]
  exact ⟨Int.mul_pos d0 e0, Int.mul_le_mul d1 e1 (by omega) (by omega)⟩
/-! the matrix of duels, step by step -/
structure BS where
  I : Int → Rat
  U : Int → Rat
  M : Rat
  G : Int → Int → Rat
def opR (m : Rat) : Prop := 0 < m ∧ m < 1
instance (m : Rat) : Decidable (opR m) := inferInstanceAs (Decidable (_ ∧ _))
def stepB (sh : Int → Rat) (ks : List Int) (b : BS) (a : Int) : BS where
  G := fun x y => if x = a ∧ y = a then sh a else if x = a ∧ y ∈ ks then togF b.I b.U b.M y (sh a) else if y = a ∧ x ∈ ks then togF b.I b.U b.M x (sh a) else b.G x y
  I := if opR (sh a) then comeI b.I b.U b.M a (sh a) else setF b.I a (sh a)
  U := if opR (sh a) then comeU b.U b.M a (sh a) else setF b.U a 0
  M := if opR (sh a) then comeM b.M (sh a) else b.M
def stB (sh : Int → Rat) (ord : List Int) : Nat → BS
  | 0 => ⟨fun _ => 0, fun _ => 0, 0, fun _ _ => 0⟩
  | i + 1 => match ord[i]? with
    | some a => stepB sh (ord.take i) (stB sh ord i) a
    | none => stB sh ord i
structure BInv (L : Int) (n : Nat) (ks : List Int) (b : BS) : Prop where
  t : ∃ t : Int, b.M = (t : Rat) / L ∧ 0 ≤ t ∧ t < L
  d : ∃ D : Int, 0 < D ∧ D ≤ 2 ^ (32 * n) ∧ ∀ k ∈ ks, isI (b.I k * D) ∧ isI (b.U k * D)
  r : ∀ k ∈ ks, 0 ≤ b.I k ∧ 0 ≤ b.U k ∧ b.I k + b.U k ≤ 1
theorem BInv.start {L : Int} (hL : 0 < L) : BInv L 0 [] ⟨fun _ => 0, fun _ => 0, 0, fun _ _ => 0⟩ :=
  ⟨⟨0, by show (0 : Rat) = _; grind, by omega, hL⟩, ⟨1, by decide, by decide, (fun _ h => nomatch h)⟩, (fun _ h => nomatch h)⟩
/-- one that is not open -/
theorem BInv.shut {L : Int} {n : Nat} {ks : List Int} {b : BS} {a : Int} {m : Rat} (h : BInv L n ks b) (hm : m = 0 ∨ m = 1) (ha : a ∉ ks) : BInv L (n + 1) (ks ++ [a]) { b with I := setF b.I a m, U := setF b.U a 0 } := by
  obtain ⟨D, d0, d1, d2'⟩ := h.d
  refine ⟨h.t, ⟨D, d0, ?_, fun k hk => ?_⟩, fun k hk => ?_⟩
  · have := pow32 n
    have : (0 : Int) < 2 ^ (32 * n) := Int.pow_pos (by decide)
    omega
  · by_cases c : k = a
    · subst c
      show isI (setF b.I k m k * D) ∧ isI (setF b.U k 0 k * D)
      rw [setF_eq, setF_eq]
      refine ⟨?_, by rw [Rat.zero_mul]; exact isI_0⟩
      rcases hm with rfl | rfl
      · rw [Rat.zero_mul]; exact isI_0
      · rw [Rat.one_mul]; exact isI_int _
    · have hk2 := (List.mem_append.mp hk).resolve_right fun y => c (by simpa using y)
      show isI (setF b.I a m k * D) ∧ isI (setF b.U a 0 k * D)
      rw [setF_ne c, setF_ne c]
      exact d2' k hk2
  · by_cases c : k = a
    · subst c
      show 0 ≤ setF b.I k m k ∧ 0 ≤ setF b.U k 0 k ∧ setF b.I k m k + setF b.U k 0 k ≤ 1
      rw [setF_eq, setF_eq]
      rcases hm with rfl | rfl <;> exact ⟨by grind, by grind, by grind⟩
    · have hk2 := (List.mem_append.mp hk).resolve_right fun y => c (by simpa using y)
      show 0 ≤ setF b.I a m k ∧ 0 ≤ setF b.U a 0 k ∧ setF b.I a m k + setF b.U a 0 k ≤ 1
      rw [setF_ne c, setF_ne c]
      exact h.r k hk2
/-- the bounds at one that comes -/
theorem BInv.bounds {L s : Int} {n : Nat} {ks : List Int} {b : BS} {m : Rat} (h : BInv L n ks b) (hL2 : L ≤ 1000000000) (hm : m = (s : Rat) / L) (s0 : 0 ≤ s) (s1 : s ≤ L) (hn : n ≤ 24) : (∀ k ∈ ks, BdQ 800 (b.I k) ∧ BdQ 800 (b.U k)) ∧ BdQ 40 b.M ∧ BdQ 40 m ∧ 0 ≤ b.M ∧ b.M < 1 := by
  obtain ⟨t, t1, t2, t3⟩ := h.t
  obtain ⟨D, d0, d1, d2'⟩ := h.d
  have hL : 0 < L := by omega
  have hLq := iq_pos hL
  refine ⟨fun k hk => ?_, ?_, ?_, ?_, ?_⟩
  · obtain ⟨r1, r2, r3⟩ := h.r k hk
    obtain ⟨i1, i2⟩ := d2' k hk
    exact ⟨(bdq_isI d0 d1 i1 r1 (by grind)).mono (by omega), (bdq_isI d0 d1 i2 r2 (by grind)).mono (by omega)⟩
  · exact bdq_of (by omega) t1 ((bd_lit (i := t) (by omega)).mono (by decide)) ((bd_lit (i := L) (by omega)).mono (by decide))
  · exact bdq_of (by omega) hm ((bd_lit (i := s) (by omega)).mono (by decide)) ((bd_lit (i := L) (by omega)).mono (by decide))
  · rw [t1]
    exact div_nn (Rat.intCast_nonneg.mpr t2) hLq
  · rw [t1, Rat.div_lt_iff hLq, Rat.one_mul]
    exact Rat.intCast_lt_intCast.mpr t3
/-- one that is open comes -/
theorem BInv.come {L s : Int} {n : Nat} {ks : List Int} {b : BS} {a : Int} {m : Rat} (h : BInv L n ks b) (hL2 : L ≤ 1000000000) (hm : m = (s : Rat) / L) (s0 : 0 < s) (s1 : s < L) (ha : a ∉ ks) : BdQ 100 (b.M / (b.M + m)) ∧ BdQ 100 ((1 - m) / (2 - (b.M + m))) ∧ BInv L (n + 1) (ks ++ [a]) { b with I := comeI b.I b.U b.M a m, U := comeU b.U b.M a m, M := comeM b.M m } := by
  obtain ⟨t, t1, t2, t3⟩ := h.t
  obtain ⟨D, d0, d1, d2'⟩ := h.d
  have hL : 0 < L := by omega
  have hLq := iq_pos hL
  have hLn : (L : Rat) ≠ 0 := by grind
  have hts : ((t + s : Int) : Rat) = (t : Rat) + s := Rat.intCast_add ..
  have htp : (0 : Rat) < ((t + s : Int) : Rat) := iq_pos (by omega)
  have h2L : ((2 * L - (t + s) : Int) : Rat) = 2 * (L : Rat) - ((t : Rat) + s) := by
    rw [Rat.intCast_sub, Rat.intCast_mul, Rat.intCast_add]
    rfl
  have h2p : (0 : Rat) < ((2 * L - (t + s) : Int) : Rat) := iq_pos (by omega)
  have hLs : ((L - s : Int) : Rat) = (L : Rat) - s := Rat.intCast_sub ..
  have f1 : b.M / (b.M + m) = (t : Rat) / ((t + s : Int) : Rat) := by
    rw [t1, hm]
    grind
  have f2 : m / (b.M + m) = (s : Rat) / ((t + s : Int) : Rat) := by
    rw [t1, hm]
    grind
  have f3 : (1 - m) / (2 - (b.M + m)) = ((L - s : Int) : Rat) / ((2 * L - (t + s) : Int) : Rat) := by
    rw [t1, hm, hLs, h2L]
    rw [h2L] at h2p
    grind
  have lit : ∀ x : Int, -4000000000 ≤ x ∧ x ≤ 4000000000 → Bd 100 x := fun x hx => (bd_lit (i := x) (by omega)).mono (by decide)
  refine ⟨bdq_of (by omega) f1 (lit t (by omega)) (lit (t + s) (by omega)), bdq_of (by omega) f3 (lit (L - s) (by omega)) (lit (2 * L - (t + s)) (by omega)), ?_⟩
  have hdq : ∀ x : Rat, ∀ d : Int, (d : Rat) ≠ 0 → x / (d : Rat) * ((D * d : Int) : Rat) = x * (D : Rat) := fun x d hd => by
    rw [Rat.intCast_mul]
    grind
  have hdk : ∀ x : Rat, ∀ d : Int, x * ((D * d : Int) : Rat) = x * (D : Rat) * (d : Rat) := fun x d => by
    rw [Rat.intCast_mul]
    grind
  by_cases c : t + s < L
  · have cq : b.M + m < 1 := by
      rw [t1, hm]
      have e : (t : Rat) / L + (s : Rat) / L = ((t + s : Int) : Rat) / L := by rw [hts]; grind
      rw [e, Rat.div_lt_iff hLq, Rat.one_mul]
      exact Rat.intCast_lt_intCast.mpr c
    have tsn : ((t + s : Int) : Rat) ≠ 0 := by grind
    obtain ⟨g0, g1⟩ := grow32 (n := n) d0 d1 (d := t + s) (by omega) (by omega)
    have eI : comeI b.I b.U b.M a m = setF b.I a 0 := if_pos cq
    have eU : comeU b.U b.M a m = setF (fun k => b.U k * (b.M / (b.M + m))) a (m / (b.M + m)) := if_pos cq
    have eM : comeM b.M m = b.M + m := if_pos cq
    rw [eI, eU, eM, f1, f2]
    refine ⟨⟨t + s, by show b.M + m = _; rw [t1, hm, hts]; grind, by omega, c⟩, ⟨D * (t + s), g0, g1, fun k hk => ?_⟩, fun k hk => ?_⟩
    · show isI (setF b.I a 0 k * _) ∧ isI (setF (fun k => b.U k * ((t : Rat) / ((t + s : Int) : Rat))) a ((s : Rat) / ((t + s : Int) : Rat)) k * _)
      by_cases z : k = a
      · rw [z, setF_eq, setF_eq, hdq _ _ tsn]
        exact ⟨by rw [Rat.zero_mul]; exact isI_0, isI_mul (isI_int _) (isI_int _)⟩
      · have hk2 := (List.mem_append.mp hk).resolve_right fun y => z (by simpa using y)
        obtain ⟨i1, i2⟩ := d2' k hk2
        rw [setF_ne z, setF_ne z, hdk]
        refine ⟨isI_mul i1 (isI_int _), ?_⟩
        have e : b.U k * ((t : Rat) / ((t + s : Int) : Rat)) * ((D * (t + s) : Int) : Rat) = b.U k * (D : Rat) * (t : Rat) := by
          rw [Rat.intCast_mul]
          generalize ((t + s : Int) : Rat) = x at *
          grind
        show isI (b.U k * ((t : Rat) / ((t + s : Int) : Rat)) * _)
        rw [e]
        exact isI_mul i2 (isI_int _)
    · show 0 ≤ setF b.I a 0 k ∧ 0 ≤ setF (fun k => b.U k * ((t : Rat) / ((t + s : Int) : Rat))) a ((s : Rat) / ((t + s : Int) : Rat)) k ∧ setF b.I a 0 k + setF (fun k => b.U k * ((t : Rat) / ((t + s : Int) : Rat))) a ((s : Rat) / ((t + s : Int) : Rat)) k ≤ 1
      have q1 : 0 ≤ (s : Rat) / ((t + s : Int) : Rat) := div_nn (Rat.intCast_nonneg.mpr (by omega)) htp
      have q2 : (s : Rat) / ((t + s : Int) : Rat) ≤ 1 := div_le1 (Rat.intCast_le_intCast.mpr (by omega)) htp
      have q3 : 0 ≤ (t : Rat) / ((t + s : Int) : Rat) := div_nn (Rat.intCast_nonneg.mpr (by omega)) htp
      have q4 : (t : Rat) / ((t + s : Int) : Rat) ≤ 1 := div_le1 (Rat.intCast_le_intCast.mpr (by omega)) htp
      by_cases z : k = a
      · rw [z, setF_eq, setF_eq]
        exact ⟨by grind, q1, by grind⟩
      · have hk2 := (List.mem_append.mp hk).resolve_right fun y => z (by simpa using y)
        obtain ⟨r1, r2, r3⟩ := h.r k hk2
        rw [setF_ne z, setF_ne z]
        have q5 := Rat.mul_le_mul_of_nonneg_left q4 r2
        rw [Rat.mul_one] at q5
        exact ⟨r1, Rat.mul_nonneg r2 q3, by show b.I k + b.U k * _ ≤ 1; grind⟩
  · have cq : ¬ b.M + m < 1 := by
      rw [t1, hm]
      have e : (t : Rat) / L + (s : Rat) / L = ((t + s : Int) : Rat) / L := by rw [hts]; grind
      rw [e, Rat.div_lt_iff hLq, Rat.one_mul]
      exact fun z => c (Rat.intCast_lt_intCast.mp z)
    have dn : ((2 * L - (t + s) : Int) : Rat) ≠ 0 := by grind
    obtain ⟨g0, g1⟩ := grow32 (n := n) d0 d1 (d := 2 * L - (t + s)) (by omega) (by omega)
    have eI : comeI b.I b.U b.M a m = fun k => if k = a then 1 - (1 - m) / (2 - (b.M + m)) else b.I k + b.U k * ((1 - m) / (2 - (b.M + m))) := if_neg cq
    have eM : comeM b.M m = b.M + m - 1 := if_neg cq
    have hLt : ((L - t : Int) : Rat) = (L : Rat) - t := Rat.intCast_sub ..
    have f4 : 1 - ((L - s : Int) : Rat) / ((2 * L - (t + s) : Int) : Rat) = ((L - t : Int) : Rat) / ((2 * L - (t + s) : Int) : Rat) := by
      rw [hLs, hLt]
      rw [h2L] at dn ⊢
      grind
    have q1 : 0 ≤ ((L - s : Int) : Rat) / ((2 * L - (t + s) : Int) : Rat) := div_nn (Rat.intCast_nonneg.mpr (by omega)) h2p
    have q2 : ((L - s : Int) : Rat) / ((2 * L - (t + s) : Int) : Rat) ≤ 1 := div_le1 (Rat.intCast_le_intCast.mpr (by omega)) h2p
    have q3 : 0 ≤ ((L - t : Int) : Rat) / ((2 * L - (t + s) : Int) : Rat) := div_nn (Rat.intCast_nonneg.mpr (by omega)) h2p
    have q4 : ((L - t : Int) : Rat) / ((2 * L - (t + s) : Int) : Rat) ≤ 1 := div_le1 (Rat.intCast_le_intCast.mpr (by omega)) h2p
    have mI : ∀ x : Rat, ∀ y : Int, isI (x * (D : Rat)) → isI (x * ((y : Rat) / ((2 * L - (t + s) : Int) : Rat)) * ((D * (2 * L - (t + s)) : Int) : Rat)) := fun x y hx => by
      have e : x * ((y : Rat) / ((2 * L - (t + s) : Int) : Rat)) * ((D * (2 * L - (t + s)) : Int) : Rat) = x * (D : Rat) * (y : Rat) := by
        rw [Rat.intCast_mul]
        generalize ((2 * L - (t + s) : Int) : Rat) = x at *
        grind
      rw [e]
      exact isI_mul hx (isI_int _)
    have keyI : ∀ k ∈ ks ++ [a], isI (comeI b.I b.U b.M a m k * ((D * (2 * L - (t + s)) : Int) : Rat)) ∧ 0 ≤ comeI b.I b.U b.M a m k := fun k hk => by
      rw [eI, f3, f4]
      dsimp only
      by_cases z : k = a
      · rw [if_pos z, hdq _ _ dn]
        exact ⟨isI_mul (isI_int _) (isI_int _), q3⟩
      · have hk2 := (List.mem_append.mp hk).resolve_right fun y => z (by simpa using y)
        obtain ⟨i1, i2⟩ := d2' k hk2
        obtain ⟨r1, r2, r3⟩ := h.r k hk2
        rw [if_neg z, Rat.add_mul, hdk]
        exact ⟨isI_add (isI_mul i1 (isI_int _)) (mI _ _ i2), Rat.add_nonneg r1 (Rat.mul_nonneg r2 q1)⟩
    have e1 : ((L - s : Int) : Rat) / ((2 * L - (t + s) : Int) : Rat) + ((L - t : Int) : Rat) / ((2 * L - (t + s) : Int) : Rat) = 1 := by rw [← f4]; grind
    generalize hw : ((L - s : Int) : Rat) / ((2 * L - (t + s) : Int) : Rat) = w at *
    generalize hv : ((L - t : Int) : Rat) / ((2 * L - (t + s) : Int) : Rat) = v at *
    have vI : ∀ k, comeI b.I b.U b.M a m k = if k = a then v else b.I k + b.U k * w := fun k => by rw [eI, f3, f4]
    have keyU : ∀ k ∈ ks ++ [a], isI (comeU b.U b.M a m k * ((D * (2 * L - (t + s)) : Int) : Rat)) ∧ 0 ≤ comeU b.U b.M a m k ∧ comeI b.I b.U b.M a m k + comeU b.U b.M a m k ≤ 1 := fun k hk => by
      rw [vI]
      by_cases c2 : b.M + m = 1
      · have eU : comeU b.U b.M a m = fun _ => 0 := by unfold comeU; rw [if_neg cq, if_pos c2]
        rw [eU]
        refine ⟨by show isI (0 * _); rw [Rat.zero_mul]; exact isI_0, by show (0 : Rat) ≤ 0; grind, ?_⟩
        by_cases z : k = a
        · rw [if_pos z]
          show v + 0 ≤ 1
          grind
        · have hk2 := (List.mem_append.mp hk).resolve_right fun y => z (by simpa using y)
          obtain ⟨r1, r2, r3⟩ := h.r k hk2
          have q5 := Rat.mul_le_mul_of_nonneg_left q2 r2
          rw [Rat.mul_one] at q5
          rw [if_neg z]
          show b.I k + b.U k * w + 0 ≤ 1
          grind
      · have eU : comeU b.U b.M a m = setF (fun k => b.U k * v) a w := by unfold comeU; rw [if_neg cq, if_neg c2, f3, f4]
        rw [eU]
        by_cases z : k = a
        · rw [if_pos z, z, setF_eq]
          refine ⟨?_, q1, by grind⟩
          rw [← hw, hdq _ _ dn]
          exact isI_mul (isI_int _) (isI_int _)
        · have hk2 := (List.mem_append.mp hk).resolve_right fun y => z (by simpa using y)
          obtain ⟨r1, r2, r3⟩ := h.r k hk2
          obtain ⟨i1, i2⟩ := d2' k hk2
          rw [if_neg z, setF_ne z]
          refine ⟨by rw [← hv]; exact mI _ _ i2, Rat.mul_nonneg r2 q3, ?_⟩
          show b.I k + b.U k * w + b.U k * v ≤ 1
          have : b.U k * w + b.U k * v = b.U k := by rw [← Rat.mul_add, e1, Rat.mul_one]
          grind
    refine ⟨⟨t + s - L, ?_, by omega, by omega⟩, ⟨D * (2 * L - (t + s)), g0, g1, fun k hk => ⟨(keyI k hk).1, (keyU k hk).1⟩⟩, fun k hk => ⟨(keyI k hk).2, (keyU k hk).2.1, (keyU k hk).2.2⟩⟩
    show comeM b.M m = _
    rw [eM, t1, hm, Rat.intCast_sub, Rat.intCast_add]
    grind
theorem gc_abs {a b : Int} : gc (if a < 0 then -a else a) b = gc a b := by
  unfold gc
  split
  · rw [Int.neg_gcd]
  · rfl
def sp__law_low (K : PySem.W.Frag) (mg : Str → Option Value) : Sp := fun vs H Q _ => match vs with | [.int t, .int b] => 0 < b ∧ Bd 2000 b ∧ NewT H [.int (low t b).1, .int (low t b).2] Q | _ => False
theorem q__law_low {H : Hp} {Q : VK} {E : XK} {t : Int} {b : Int} (q : 0 < b ∧ Bd 2000 b ∧ NewT H [.int (low t b).1, .int (low t b).2] Q) : sp__law_low K mg [.int t, .int b] H Q E := q
local macro_rules | `(tactic| walk_at "op") => `(tactic| with_reducible refine q__law_low ?_)
theorem c__law_low (T : Txt K mg base) : Cal P w K mg base 1 "_law_low" (sp__law_low K mg) := by
  refine T.d__law_low.cal (k := 0) sc__law_low (by intro vs H Q E h; unfold sp__law_low at h; split at h <;> first | rfl | exact h.elim) fun f cdv A outer s H vs Q E hr h => ?_
  refine ⟨_, (pss_cons (ps_set (i := 2) sc__law_low.nd rfl (.inl rfl) (pe_callB call_absA (by rfl) T.n_abs (by decide +kernel) (pa_cons (pv 0) pa_nil)))
    (pss_cons (ps_set (i := 3) sc__law_low.nd rfl (.inl rfl) (pv 1))
    (pss_cons (ps_while PassesOwn.never (pt_cmpR op_gt (pv 3) pe_int (nomark _))
    (pss_one (ps_par (i := 2) (j := 3) rfl sc__law_low.nd rfl rfl (by decide) rfl rfl (pa_cons (pv 3) (pa_cons (pe_op op_mod (pv 2) (pv 3)) pa_nil)) (by rfl))))
    (pss_one (ps_ret (pe_tup (pa_cons (pe_op op_fdivW (pv 0) (pv 2)) (pa_cons (pe_op op_fdivW (pv 1) (pv 2)) pa_nil)))))))), ?_⟩
  try simp only [cxOf_K, cxOf_K', cxOf_mg, cxOf_mg']
  unfold sp__law_low at h
  split at h
  case h_2 => exact h.elim
  rename_i t b
  rw [show L2.start ["_law_top", "_law_bottom", "_law_one", "_law_other"] [V.int t, V.int b] = [some (V.int t), some (V.int b), none, none] from rfl]
  obtain ⟨hb, hd, q⟩ := h
  have key : CDivW t (gc t b) ∧ CDivW b (gc t b) := by
    have g := gc_pos (a := t) hb
    have l := gc_le (a := t) hb
    have z : Bd 2000 (gc t b) := by
      unfold Bd at *
      omega
    exact ⟨z.cdiv g, z.cdiv g⟩
  have g := gc_pos (a := t) hb
  walk_at "sts"
  refine L_while (fun m σ' H' => ∃ x y : Int, σ' = [some (.int t), some (.int b), some (.int x), some (.int y)] ∧ 0 ≤ x ∧ 0 ≤ y ∧ gc x y = gc t b ∧ m = y.toNat ∧ H' = H) ⟨_, _, b, rfl, by split <;> omega, by omega, gc_abs, rfl, rfl⟩ ?_
  rintro m σ' H' ⟨x, y, rfl, hx, hy, e, rfl, rfl⟩
  walk_at "sts"
  refine L_d (fun c => ?_) (fun c => ?_)
  · refine L_N ?_
    walk_at "sts"
    refine L_I c ?_
    walk_at "sts"
    have h1 := Int.emod_nonneg x (show y ≠ 0 by omega)
    have h2 := Int.emod_lt_of_pos x c
    exact ⟨(x % y).toNat, by omega, y, x % y, rfl, by omega, h1, (gc_step c).trans e, rfl, rfl⟩
  · have hy0 : y = 0 := by omega
    subst hy0
    have hx2 : x = gc t b := by
      rw [← e, ← gc_zero, if_neg (by omega)]
    subst hx2
    walk_at "sts"
    refine L_I key.1 ?_
    walk_at "sts"
    refine L_I key.2 ?_
    walk_at "sts"
    exact L_new (sz_dec (by show 2 ≤ 1000000; decide)) q.at
/-- a fraction in the heap -/
def QtA (K : PySem.W.Frag) (H : Hp) (a : Addr) (r : Rat) : Prop := SqT K H a [.int (qt r).1, .int (qt r).2]
def sp__law_plus (K : PySem.W.Frag) (mg : Str → Option Value) : Sp := fun vs H Q _ => match vs with | [.ref a, .ref b] => ∃ r s : Rat, QtA K H a r ∧ QtA K H b s ∧ BdQ 990 r ∧ BdQ 990 s ∧ NewT H [.int (qt (r + s)).1, .int (qt (r + s)).2] Q | _ => False
theorem q__law_plus {H : Hp} {Q : VK} {E : XK} {a : Addr} {b : Addr} (q : ∃ r s : Rat, QtA K H a r ∧ QtA K H b s ∧ BdQ 990 r ∧ BdQ 990 s ∧ NewT H [.int (qt (r + s)).1, .int (qt (r + s)).2] Q) : sp__law_plus K mg [.ref a, .ref b] H Q E := q
local macro_rules | `(tactic| walk_at "op") => `(tactic| with_reducible refine q__law_plus ?_)
theorem c__law_plus (T : Txt K mg base) : Cal P w K mg base 2 "_law_plus" (sp__law_plus K mg) := by
  refine T.d__law_plus.cal (k := 1) sc__law_plus (by intro vs H Q E h; unfold sp__law_plus at h; split at h <;> first | rfl | exact h.elim) fun f cdv A outer s H vs Q E hr h => ?_
  refine ⟨_, (pss_one (ps_ret (pe_c (c__law_low T) hr (by decide) (by rfl) (pa_cons (pe_op op_addA (pe_op op_mulA (pe_ix ix_seq (pv 0) pe_int (fun _ _ => rfl)) (pe_ix ix_seq (pv 1) pe_int (fun _ _ => rfl))) (pe_op op_mulA (pe_ix ix_seq (pv 1) pe_int (fun _ _ => rfl)) (pe_ix ix_seq (pv 0) pe_int (fun _ _ => rfl)))) (pa_cons (pe_op op_mulA (pe_ix ix_seq (pv 0) pe_int (fun _ _ => rfl)) (pe_ix ix_seq (pv 1) pe_int (fun _ _ => rfl))) pa_nil))))), ?_⟩
  try simp only [cxOf_K, cxOf_K', cxOf_mg, cxOf_mg']
  unfold sp__law_plus at h
  split at h
  case h_2 => exact h.elim
  rename_i a b
  rw [show L2.start ["_law_one", "_law_other"] [V.ref a, V.ref b] = [some (V.ref a), some (V.ref b)] from rfl]
  obtain ⟨r, s, ha, hb, ⟨r1, r2⟩, ⟨s1, s2⟩, q⟩ := h
  walk_at "sts"
  refine L_ixT ha rfl ?_
  walk_at "sts"
  refine L_ixT hb rfl ?_
  refine L_mulI (r1.cmul s2) ?_
  walk_at "sts"
  refine L_ixT hb rfl ?_
  walk_at "sts"
  refine L_ixT ha rfl ?_
  refine L_mulI (s1.cmul r2) ?_
  walk_at "sts"
  refine L_ixT ha rfl ?_
  walk_at "sts"
  refine L_ixT hb rfl ?_
  refine L_mulI (r2.cmul s2) ?_
  walk_at "sts"
  have hp : 0 < (qt r).2 * (qt s).2 := Int.mul_pos (q_dp r) (q_dp s)
  refine ⟨hp, (r2.mul s2).mono (by decide), ?_⟩
  rw [← shr_low hp, q_add]
  exact q
def sp__law_times (K : PySem.W.Frag) (mg : Str → Option Value) : Sp := fun vs H Q _ => match vs with | [.ref a, .ref b] => ∃ r s : Rat, QtA K H a r ∧ QtA K H b s ∧ BdQ 990 r ∧ BdQ 990 s ∧ NewT H [.int (qt (r * s)).1, .int (qt (r * s)).2] Q | _ => False
theorem q__law_times {H : Hp} {Q : VK} {E : XK} {a : Addr} {b : Addr} (q : ∃ r s : Rat, QtA K H a r ∧ QtA K H b s ∧ BdQ 990 r ∧ BdQ 990 s ∧ NewT H [.int (qt (r * s)).1, .int (qt (r * s)).2] Q) : sp__law_times K mg [.ref a, .ref b] H Q E := q
local macro_rules | `(tactic| walk_at "op") => `(tactic| with_reducible refine q__law_times ?_)
theorem c__law_times (T : Txt K mg base) : Cal P w K mg base 2 "_law_times" (sp__law_times K mg) := by
  refine T.d__law_times.cal (k := 1) sc__law_times (by intro vs H Q E h; unfold sp__law_times at h; split at h <;> first | rfl | exact h.elim) fun f cdv A outer s H vs Q E hr h => ?_
  refine ⟨_, (pss_one (ps_ret (pe_c (c__law_low T) hr (by decide) (by rfl) (pa_cons (pe_op op_mulA (pe_ix ix_seq (pv 0) pe_int (fun _ _ => rfl)) (pe_ix ix_seq (pv 1) pe_int (fun _ _ => rfl))) (pa_cons (pe_op op_mulA (pe_ix ix_seq (pv 0) pe_int (fun _ _ => rfl)) (pe_ix ix_seq (pv 1) pe_int (fun _ _ => rfl))) pa_nil))))), ?_⟩
  try simp only [cxOf_K, cxOf_K', cxOf_mg, cxOf_mg']
  unfold sp__law_times at h
  split at h
  case h_2 => exact h.elim
  rename_i a b
  rw [show L2.start ["_law_one", "_law_other"] [V.ref a, V.ref b] = [some (V.ref a), some (V.ref b)] from rfl]
  obtain ⟨r, s, ha, hb, ⟨r1, r2⟩, ⟨s1, s2⟩, q⟩ := h
  walk_at "sts"
  refine L_ixT ha rfl ?_
  walk_at "sts"
  refine L_ixT hb rfl ?_
  refine L_mulI (r1.cmul s1) ?_
  walk_at "sts"
  refine L_ixT ha rfl ?_
  walk_at "sts"
  refine L_ixT hb rfl ?_
  refine L_mulI (r2.cmul s2) ?_
  walk_at "sts"
  have hp : 0 < (qt r).2 * (qt s).2 := Int.mul_pos (q_dp r) (q_dp s)
  refine ⟨hp, (r2.mul s2).mono (by decide), ?_⟩
  rw [← shr_low hp, q_mul]
  exact q
/-! what is kept, with its share: a table by what is kept -/
abbrev Wt := List (List Int × Rat)
def kL (k : List Int) : List Key := k.map Sum.inl
theorem kL_inj {k l : List Int} : kL k = kL l ↔ k = l := by
  unfold kL
  constructor
  · intro h
    exact (List.map_inj_right (fun _ _ e => Sum.inl.inj e)).mp h
  · rintro rfl
    rfl
theorem kL_v (k : List Int) : (kL k).map kV = k.map V.int := by
  unfold kL
  rw [List.map_map]
  rfl
def evW (g : List Int → Rat) : Wt → Rat
  | [] => 0
  | z :: Z => z.2 * g z.1 + evW g Z
def addW : Wt → List Int → Rat → Wt
  | [], k, v => [(k, 0 + v)]
  | z :: Z, k, v => if z.1 = k then (z.1, z.2 + v) :: Z else z :: addW Z k v
theorem evW_add (g : List Int → Rat) : ∀ (Z : Wt) (k : List Int) (v : Rat), evW g (addW Z k v) = evW g Z + v * g k
  | [], k, v => by
    show (0 + v) * g k + 0 = 0 + v * g k
    grind
  | z :: Z, k, v => by
    have ih := evW_add g Z k v
    unfold addW
    split
    · rename_i c
      subst c
      show (z.2 + v) * g z.1 + evW g Z = z.2 * g z.1 + evW g Z + v * g z.1
      grind
    · show z.2 * g z.1 + evW g (addW Z k v) = z.2 * g z.1 + evW g Z + v * g k
      rw [ih]
      grind
theorem evW_snoc (g : List Int → Rat) : ∀ (Z : Wt) (z : List Int × Rat), evW g (Z ++ [z]) = evW g Z + z.2 * g z.1
  | [], z => by
    show z.2 * g z.1 + 0 = 0 + z.2 * g z.1
    grind
  | y :: Z, z => by
    show y.2 * g y.1 + evW g (Z ++ [z]) = y.2 * g y.1 + evW g Z + z.2 * g z.1
    rw [evW_snoc g Z z]
    grind
def rowsW (W : Wt) : Wt := W.foldl (fun Z w => addW Z w.1 w.2) []
theorem evW_rows (g : List Int → Rat) (W : Wt) : evW g (rowsW W) = evW g W := by
  have key : ∀ (W acc : Wt), evW g (W.foldl (fun Z w => addW Z w.1 w.2) acc) = evW g acc + evW g W := by
    intro W
    induction W with
    | nil => intro acc; show evW g acc = evW g acc + 0; grind
    | cons w W ih =>
      intro acc
      rw [List.foldl_cons, ih, evW_add]
      show _ = evW g acc + (w.2 * g w.1 + evW g W)
      grind
  have := key W []
  rw [show evW g ([] : Wt) = 0 from rfl] at this
  unfold rowsW
  rw [this]
  grind
/-- shares that can be summed up -/
structure GoodW (D : Int) (Z : Wt) : Prop where
  p : ∀ z ∈ Z, 0 ≤ z.2 ∧ isI (z.2 * D)
  s : evW (fun _ => 1) Z ≤ 1
theorem mem_addW : ∀ {Z : Wt} {k : List Int} {v : Rat} {z : List Int × Rat}, z ∈ addW Z k v → (∃ y ∈ Z, z.1 = y.1 ∧ (z.2 = y.2 ∨ z.2 = y.2 + v)) ∨ (z.1 = k ∧ z.2 = 0 + v)
  | [], k, v, z, h => by
    rw [addW, List.mem_singleton] at h
    exact .inr (by rw [h]; exact ⟨rfl, rfl⟩)
  | y :: Z, k, v, z, h => by
    unfold addW at h
    split at h
    · rcases List.mem_cons.mp h with rfl | h
      · exact .inl ⟨y, List.mem_cons_self, rfl, .inr rfl⟩
      · exact .inl ⟨z, List.mem_cons_of_mem _ h, rfl, .inl rfl⟩
    · rcases List.mem_cons.mp h with rfl | h
      · exact .inl ⟨_, List.mem_cons_self, rfl, .inl rfl⟩
      · rcases mem_addW h with ⟨w, hw, e⟩ | e
        · exact .inl ⟨w, List.mem_cons_of_mem _ hw, e⟩
        · exact .inr e
theorem keys_addW : ∀ {Z : Wt} {k : List Int} {v : Rat}, (addW Z k v).map (·.1) = if k ∈ Z.map (·.1) then Z.map (·.1) else Z.map (·.1) ++ [k]
  | [], k, v => rfl
  | y :: Z, k, v => by
    have ih := keys_addW (Z := Z) (k := k) (v := v)
    unfold addW
    split
    · rename_i c
      rw [List.map_cons, List.map_cons, if_pos (by rw [c]; exact List.mem_cons_self)]
    · rename_i c
      rw [List.map_cons, List.map_cons, ih]
      by_cases d : k ∈ Z.map (·.1)
      · rw [if_pos d, if_pos (List.mem_cons_of_mem _ d)]
      · rw [if_neg d, if_neg (by
          rw [List.mem_cons]
          rintro (z | z)
          · exact c z.symm
          · exact d z), List.cons_append]
theorem nd_addW {Z : Wt} {k : List Int} {v : Rat} (h : (Z.map (·.1)).Nodup) : ((addW Z k v).map (·.1)).Nodup := by
  rw [keys_addW]
  split
  · exact h
  · rename_i d
    rw [List.nodup_append]
    exact ⟨h, by simp, fun a ha b hb => by rw [List.mem_singleton.mp hb]; exact fun e => d (e ▸ ha)⟩
theorem len_addW {Z : Wt} {k : List Int} {v : Rat} : (addW Z k v).length ≤ Z.length + 1 := by
  have h := congrArg List.length (keys_addW (Z := Z) (k := k) (v := v))
  rw [List.length_map] at h
  rw [h]
  split
  · rw [List.length_map]; omega
  · rw [List.length_append, List.length_map]; exact Nat.le_refl _
theorem GoodW.part {D : Int} {Z : Wt} {g : List Int → Rat} (d0 : 0 < D) (d1 : D ≤ 2 ^ 900) (h : GoodW D Z) (hg : ∀ k, g k = 0 ∨ g k = 1) (i : Nat) : BdQ 990 (evW g (Z.take i)) := by
  have key : ∀ Y : Wt, (∀ z ∈ Y, 0 ≤ z.2 ∧ isI (z.2 * (D : Rat))) → 0 ≤ evW g Y ∧ evW g Y ≤ evW (fun _ => 1) Y ∧ isI (evW g Y * (D : Rat)) ∧ 0 ≤ evW (fun _ => 1) Y := fun Y => by
    induction Y with
    | nil =>
      intro _
      refine ⟨by show (0 : Rat) ≤ 0; grind, by show (0 : Rat) ≤ 0; grind, by show isI (0 * _); rw [Rat.zero_mul]; exact isI_0, by show (0 : Rat) ≤ 0; grind⟩
    | cons y Y ih =>
      intro hy
      obtain ⟨a1, a2, a3, a4⟩ := ih fun z hz => hy z (List.mem_cons_of_mem _ hz)
      obtain ⟨b1, b2⟩ := hy y List.mem_cons_self
      have e : evW g (y :: Y) = y.2 * g y.1 + evW g Y := rfl
      have e1 : evW (fun _ => 1) (y :: Y) = y.2 * 1 + evW (fun _ => 1) Y := rfl
      rw [e, e1]
      rcases hg y.1 with z | z
      · rw [z]
        refine ⟨by grind, by grind, ?_, by grind⟩
        have : (y.2 * 0 + evW g Y) * (D : Rat) = evW g Y * (D : Rat) := by grind
        rw [this]
        exact a3
      · rw [z]
        refine ⟨by grind, by grind, ?_, by grind⟩
        have : (y.2 * 1 + evW g Y) * (D : Rat) = y.2 * (D : Rat) + evW g Y * (D : Rat) := by grind
        rw [this]
        exact isI_add b2 a3
  obtain ⟨a1, a2, a3, a4⟩ := key (Z.take i) fun z hz => h.p z (List.mem_of_mem_take hz)
  have tl : evW (fun _ => 1) (Z.take i) ≤ evW (fun _ => 1) Z := by
    have hz := h.p
    clear h a1 a2 a3 a4
    induction Z generalizing i with
    | nil => rw [List.take_nil]; grind
    | cons z Z ih =>
      have k4 := (key (z :: Z) hz).2.2.2
      cases i with
      | zero => exact k4
      | succ i =>
        rw [List.take_succ_cons]
        have := ih i fun y hy => hz y (List.mem_cons_of_mem _ hy)
        show z.2 * 1 + evW (fun _ => 1) (Z.take i) ≤ z.2 * 1 + evW (fun _ => 1) Z
        grind
  have hs := h.s
  exact (bdq_isI d0 d1 a3 a1 (by grind)).mono (by decide)
theorem GoodW.le1 {D : Int} : ∀ {Z : Wt} {z : List Int × Rat}, (∀ z ∈ Z, 0 ≤ z.2) → z ∈ Z → z.2 ≤ evW (fun _ => 1) Z
  | y :: Z, z, h, hz => by
    have h0 : ∀ Y : Wt, (∀ z ∈ Y, 0 ≤ z.2) → 0 ≤ evW (fun _ => 1) Y := fun Y => by
      induction Y with
      | nil => intro _; show (0 : Rat) ≤ 0; grind
      | cons y Y ih =>
        intro h
        have h1 := ih fun z hz => h z (List.mem_cons_of_mem _ hz)
        have h2 := h y List.mem_cons_self
        show 0 ≤ y.2 * 1 + evW (fun _ => 1) Y
        grind
    have h1 := h0 Z fun z hz => h z (List.mem_cons_of_mem _ hz)
    have h2 := h y List.mem_cons_self
    show z.2 ≤ y.2 * 1 + evW (fun _ => 1) Z
    rcases List.mem_cons.mp hz with rfl | hz
    · grind
    · have := GoodW.le1 (D := D) (fun z hz => h z (List.mem_cons_of_mem _ hz)) hz
      grind
theorem GoodW.bd {D : Int} {Z : Wt} (d0 : 0 < D) (d1 : D ≤ 2 ^ 900) (h : GoodW D Z) {z : List Int × Rat} (hz : z ∈ Z) : BdQ 990 z.2 := by
  obtain ⟨a, b⟩ := h.p z hz
  have := GoodW.le1 (D := D) (fun y hy => (h.p y hy).1) hz
  have hs := h.s
  exact (bdq_isI d0 d1 b a (by grind)).mono (by decide)
theorem GoodW.rows {D : Int} {W : Wt} (h : GoodW D W) (i : Nat) (hi : i ≤ W.length) : GoodW D (rowsW (W.take i)) ∧ ((rowsW (W.take i)).map (·.1)).Nodup ∧ (rowsW (W.take i)).length ≤ i := by
  have key : ∀ i, i ≤ W.length → (∀ z ∈ rowsW (W.take i), 0 ≤ z.2 ∧ isI (z.2 * (D : Rat))) ∧ ((rowsW (W.take i)).map (·.1)).Nodup ∧ (rowsW (W.take i)).length ≤ i := by
    intro i
    induction i with
    | zero => intro _; rw [List.take_zero]; exact ⟨(fun _ z => nomatch z), .nil, Nat.le_refl _⟩
    | succ i ih =>
      intro hi
      obtain ⟨a, b, c⟩ := ih (by omega)
      have e : rowsW (W.take (i + 1)) = addW (rowsW (W.take i)) W[i].1 W[i].2 := by
        rw [show W.take (i + 1) = W.take i ++ [W[i]] by rw [List.take_succ, List.getElem?_eq_getElem (by omega)]; rfl]
        unfold rowsW
        rw [List.foldl_append]
        rfl
      rw [e]
      obtain ⟨w0, w1⟩ := h.p W[i] (List.getElem_mem _)
      refine ⟨fun z hz => ?_, nd_addW b, by have := len_addW (Z := rowsW (W.take i)) (k := W[i].1) (v := W[i].2); omega⟩
      rcases mem_addW hz with ⟨y, hy, _, e | e⟩ | ⟨_, e⟩
      · rw [e]; exact a y hy
      · obtain ⟨y0, y1⟩ := a y hy
        rw [e]
        exact ⟨by grind, by rw [Rat.add_mul]; exact isI_add y1 w1⟩
      · have e2 : 0 + W[i].2 = W[i].2 := by grind
        rw [e, e2]
        exact ⟨w0, w1⟩
  obtain ⟨a, b, c⟩ := key i hi
  refine ⟨⟨a, ?_⟩, b, c⟩
  rw [evW_rows]
  have hz := h.p
  have hs := h.s
  have tl : ∀ (W : Wt) (i : Nat), (∀ z ∈ W, 0 ≤ z.2) → evW (fun _ => 1) (W.take i) ≤ evW (fun _ => 1) W := by
    intro W
    induction W with
    | nil => intro i _; rw [List.take_nil]; grind
    | cons z Z ih =>
      intro i hz
      have h0 : ∀ Y : Wt, (∀ z ∈ Y, 0 ≤ z.2) → 0 ≤ evW (fun _ => 1) Y := fun Y => by
        induction Y with
        | nil => intro _; show (0 : Rat) ≤ 0; grind
        | cons y Y ih =>
          intro h
          have h1 := ih fun z hz => h z (List.mem_cons_of_mem _ hz)
          have h2 := h y List.mem_cons_self
          show 0 ≤ y.2 * 1 + evW (fun _ => 1) Y
          grind
      cases i with
      | zero => exact h0 _ hz
      | succ i =>
        rw [List.take_succ_cons]
        have := ih i fun y hy => hz y (List.mem_cons_of_mem _ hy)
        show z.2 * 1 + evW (fun _ => 1) (Z.take i) ≤ z.2 * 1 + evW (fun _ => 1) Z
        grind
  have := tl W i fun z hz' => (hz z hz').1
  grind
def RtP (K : PySem.W.Frag) (H : Hp) (kv : List Key × V) (z : List Int × Rat) : Prop := kv.1 = kL z.1 ∧ ∃ t, kv.2 = .ref t ∧ QtA K H t z.2
theorem RtP.keep {K : PySem.W.Frag} {H H' : Hp} {d : Addr} {us : List (List Key × V)} {kv : List Key × V} {z : List Int × Rat} (h : RtP K H kv z) (hd : H d = some (.dT us)) (k : ∀ b o, H b = some o → b ≠ d → H' b = some o) : RtP K H' kv z := by
  obtain ⟨e, t, e2, ht⟩ := h
  refine ⟨e, t, e2, ?_⟩
  rcases ht with (ht | ⟨o, ht⟩) | ht
  · exact .of (k _ _ ht fun z => by rw [z, hd] at ht; cases ht)
  · exact .inl (.inr ⟨o, k _ _ ht fun z => by rw [z, hd] at ht; cases ht⟩)
  · exact .inr ht
theorem RtP.same {K : PySem.W.Frag} {H H' : Hp} {kv : List Key × V} {z : List Int × Rat} (h : RtP K H kv z) (s : Same H H') : RtP K H' kv z := by
  obtain ⟨e, t, e2, ht⟩ := h
  exact ⟨e, t, e2, s.seqT ht⟩
def lookW : Wt → List Int → Rat
  | [], _ => 0
  | z :: Z, k => if z.1 = k then z.2 else lookW Z k
theorem lookW_at : ∀ {Z : Wt} {k : List Int}, k ∈ Z.map (·.1) → ∃ z ∈ Z, z.1 = k ∧ z.2 = lookW Z k
  | [], _, h => nomatch h
  | z :: Z, k, h => by
    unfold lookW
    by_cases c : z.1 = k
    · rw [if_pos c]
      exact ⟨z, List.mem_cons_self, c, rfl⟩
    · rw [if_neg c]
      rw [List.map_cons, List.mem_cons] at h
      obtain ⟨y, hy, e⟩ := lookW_at (h.resolve_left fun z => c z.symm)
      exact ⟨y, List.mem_cons_of_mem _ hy, e⟩
theorem rt_val {K : PySem.W.Frag} {H : Hp} {k : List Int} : ∀ {kvs : List (List Key × V)} {Z : Wt}, Paired (RtP K H) kvs Z → (valV kvs (kL k) = none ∧ k ∉ Z.map (·.1) ∧ lookW Z k = 0) ∨ ∃ t, valV kvs (kL k) = some (.ref t) ∧ QtA K H t (lookW Z k) ∧ k ∈ Z.map (·.1)
  | _, _, .nil => .inl ⟨rfl, (fun h => nomatch h), rfl⟩
  | _, _, .cons (a := p) (b := z) (l₁ := kvs) (l₂ := Z) h t => by
    obtain ⟨e, t0, e2, ht⟩ := h
    by_cases c : z.1 = k
    · refine .inr ⟨t0, ?_, ?_, ?_⟩
      · rw [valV_pos (by rw [e, c]), e2]
      · unfold lookW
        rw [if_pos c]
        exact ht
      · rw [List.map_cons, c]
        exact List.mem_cons_self
    · rw [valV_neg (fun y => c (by rw [e] at y; exact kL_inj.mp y))]
      have l : lookW (z :: Z) k = lookW Z k := by
        show (if z.1 = k then z.2 else lookW Z k) = _
        rw [if_neg c]
      rw [l]
      rcases rt_val t with ⟨h1, h2, h3⟩ | ⟨t1, h1, h2, h3⟩
      · refine .inl ⟨h1, fun y => ?_, h3⟩
        rw [List.map_cons, List.mem_cons] at y
        exact y.elim (fun y => c y.symm) h2
      · exact .inr ⟨t1, h1, h2, by rw [List.map_cons]; exact List.mem_cons_of_mem _ h3⟩
theorem addW_no : ∀ {Z : Wt} {k : List Int} {v : Rat}, k ∉ Z.map (·.1) → addW Z k v = Z ++ [(k, 0 + v)]
  | [], _, _, _ => rfl
  | z :: Z, k, v, h => by
    rw [List.map_cons, List.mem_cons] at h
    unfold addW
    rw [if_neg fun y => h (.inl y.symm), addW_no fun y => h (.inr y)]
    rfl
theorem addW_in : ∀ {Z : Wt} {k : List Int} {v : Rat}, (Z.map (·.1)).Nodup → k ∈ Z.map (·.1) → addW Z k v = Z.map fun z => if z.1 = k then (z.1, lookW Z k + v) else z
  | [], _, _, _, h => nomatch h
  | z :: Z, k, v, n, h => by
    rw [List.map_cons, List.nodup_cons] at n
    rw [List.map_cons, List.mem_cons] at h
    unfold addW
    by_cases c : z.1 = k
    · have l : lookW (z :: Z) k = z.2 := by
        show (if z.1 = k then z.2 else lookW Z k) = _
        rw [if_pos c]
      rw [if_pos c, List.map_cons, if_pos c, l]
      congr 1
      refine (List.map_id' Z).symm.trans (List.map_congr_left fun y hy => ?_)
      rw [if_neg fun e => n.1 (by rw [c, ← e]; exact List.mem_map_of_mem hy)]
    · have l : lookW (z :: Z) k = lookW Z k := by
        show (if z.1 = k then z.2 else lookW Z k) = _
        rw [if_neg c]
      rw [if_neg c, List.map_cons, if_neg c, l, addW_in n.2 (h.resolve_left fun y => c y.symm)]
theorem rt_put {K : PySem.W.Frag} {H : Hp} {k : List Int} {v : Rat} {t : Addr} {kvs : List (List Key × V)} {Z : Wt} (h : Paired (RtP K H) kvs Z) (n : (Z.map (·.1)).Nodup) (ht : QtA K H t (lookW Z k + v)) : Paired (RtP K H) (putK kvs (kL k) (.ref t)) (addW Z k v) := by
  have hv := rt_val (k := k) h
  unfold putK
  rw [valV_any]
  rcases hv with ⟨h1, h2, h3⟩ | ⟨t1, h1, h2, h3⟩
  · rw [h1, if_neg (by simp), addW_no h2]
    rw [h3] at ht
    exact paired_app h (.cons ⟨rfl, t, rfl, ht⟩ .nil)
  · rw [h1, if_pos (show (some (V.ref t1)).isSome = true from rfl), addW_in n h3]
    clear h1 h2 h3 n
    generalize lookW Z k + v = r at ht
    induction h with
    | nil => exact .nil
    | @cons p z kvs Z h1 _ ih =>
      rw [List.map_cons, List.map_cons]
      refine .cons ?_ ih
      obtain ⟨e, t0, e2, h2⟩ := h1
      by_cases c : z.1 = k
      · rw [if_pos c, if_pos (by rw [e, c])]
        exact ⟨e, t, rfl, ht⟩
      · rw [if_neg c, if_neg (fun y => c (by rw [e] at y; exact kL_inj.mp y))]
        exact ⟨e, t0, e2, h2⟩
theorem rt_len {K : PySem.W.Frag} {H : Hp} {kvs : List (List Key × V)} {Z : Wt} (h : Paired (RtP K H) kvs Z) : kvs.length = Z.length := Paired.length h
theorem inV_ints (n : Int) : ∀ ns : List Int, inV (.int n) (ns.map V.int) = decide (n ∈ ns)
  | [] => by simp [inV]
  | k :: ns => by
    have ih := inV_ints n ns
    unfold inV at ih ⊢
    rw [List.map_cons, List.any_cons, ih]
    by_cases e : n = k
    · subst e
      simp [eqV]
    · have e' : ¬ k = n := fun z => e z.symm
      simp [eqV, e, e']
theorem flat_ints : ∀ ns : List Int, (ns.map V.int).all flatV = true
  | [] => rfl
  | _ :: ns => by rw [List.map_cons, List.all_cons, flat_ints ns]; rfl
theorem L_inTi {K : PySem.W.Frag} {H : Hp} {Q : VK} {p : Addr} {z : Int} {ns : List Int} (h : SqT K H p (ns.map V.int)) (q : Q (.bl (decide (z ∈ ns))) H) : aIn K (.int z) (.ref p) H Q := .inr ⟨p, _, rfl, .inr h, rfl, flat_ints _, by rw [if_neg (by decide), inV_ints]; exact q⟩
/-! the ways through a node's dice (wants Nd, told, parts, AtN, AtN.ev, AtN.mu, AtN.shr, AtN.wk) -/
/-- a part of a die: so many sides, and the node behind them -/
def PartN (K : PySem.W.Frag) (mg : Str → Option Value) (P : Addr → Prop) (H : Hp) (v : V) (p : Int × Nd) : Prop := ∃ q x, v = .ref q ∧ H q = some (.tup [.int p.1, x]) ∧ AtN K mg P p.2 x H
theorem PartN.ev {K : PySem.W.Frag} {mg : Str → Option Value} {P : Addr → Prop} {T : List (Addr × Str)} {H H' : Hp} {v : V} {p : Int × Nd} (h : PartN K mg P H v p) (e : Ev T H H') : PartN K mg P H' v p := by
  obtain ⟨q, x, e1, h1, h2⟩ := h
  exact ⟨q, x, e1, e.tup h1, AtN.ev h2 e⟩
theorem PartN.mu {K : PySem.W.Frag} {mg : Str → Option Value} {P : Addr → Prop} {H : Hp} {v : V} {p : Int × Nd} {D : Addr} {us : List V} {o : HO} (h : PartN K mg P H v p) (e : H D = some (.lst us)) (n : ¬ P D) : PartN K mg P (upd H D o) v p := by
  obtain ⟨q, x, e1, h1, h2⟩ := h
  exact ⟨q, x, e1, upd_keep e h1 (fun _ z => nomatch z), AtN.mu h2 e n⟩
theorem PartN.wk {K : PySem.W.Frag} {mg : Str → Option Value} {P P' : Addr → Prop} {H : Hp} {v : V} {p : Int × Nd} (k : ∀ b, P b → P' b) (h : PartN K mg P H v p) : PartN K mg P' H v p := by
  obtain ⟨q, x, e1, h1, h2⟩ := h
  exact ⟨q, x, e1, h1, AtN.wk k h2⟩
/-- a comprehension of new things that may not hold its own list -/
theorem lc_evD {α : Type} {T : List (Addr × Str)} (F : Addr → Hp → V → α → Prop) (st : ∀ D H H' v a, Ev T H H' → F D H v a → F D H' v a) {σ : L2.St} {H : Hp} (up : ∀ H1 D us us' v a, H1 D = some (.lst us) → F D H1 v a → F D (upd H1 D (.lst us')) v a)
     {g : TG} {tt : TT} {te : TE} {J : It} {n : Nat} {G : Hp → Prop} {Y : Nat → Hp → V → Hp → Prop} (w : L2.Walk J n G Y) {vs : List Nat} {Qd : Addr → Hp → Prop} (l : List α) (hl : l.length = n) (hn : n ≤ 1000000) (hG : ∀ H', Ev T H H' → G H')
    (hs : ∀ D us i x H2 H' (R : V → Hp → Prop) (R' : Hp → Prop), H D = none → H2 D = some (.lst us) → i < n → Ev T H H2 → Y i H2 x H' → (∀ v p H4, l[i]? = some p → Ev T H2 H4 → F D H4 v p → R v H4) →
      g x (wipe σ vs) H' fun σ2 H2 => wipe σ2 vs = wipe σ vs ∧ tt σ2 H2 fun b H3 => if b = true then te σ2 H3 R else R' H3)
    (q : ∀ p H' vs, H p = none → Ev T H H' → H' p = some (.lst vs) → Paired (F p H') vs l → Qd p H') :
    ∀ D, H D = none → ∃ W : Nat → Nat → Hp → Prop, (∃ m, W 0 m (upd H D (.lst []))) ∧ ∀ i m H, W i m H →
      (J.stop i H ∧ Qd D H) ∨ (J.go i H ∧ ∃ Nx : Hp → Prop, (∀ H', Nx H' → ∃ m', m' < m ∧ W (i + 1) m' H') ∧ ∀ x H', J.yld i H x H' → g x (wipe σ vs) H' fun σ2 H2 => wipe σ2 vs = wipe σ vs ∧ tt σ2 H2 fun b H3 =>
        if b = true then te σ2 H3 fun y H4 => ∃ acc, H4 D = some (.lst acc) ∧ acc.length < sizeLine ∧ Nx (upd H4 D (.lst (acc ++ [y]))) else Nx H3) := by
  intro D hD
  refine lc_it w (fun i H2 => Ev T H H2 ∧ ∃ us, H2 D = some (.lst us) ∧ Paired (F D H2) us (l.take i)) ⟨.same (same_new hD), [], upd_same, .nil⟩ (fun i H2 _ p => hG H2 p.1) ?_ (fun H2 ⟨p1, us, p2, p3⟩ => q D H2 us hD p1 p2 (by rwa [List.take_of_length_le (by omega)] at p3))
  rintro i x H2 H' hi ⟨p1, us, p2, p3⟩ y
  refine hs D us i x H2 H' _ _ hD p2 hi p1 y (fun v p H4 e s et => ?_)
  have e4 := s.lst p2
  have ln := Paired.length p3
  rw [List.length_take] at ln
  refine ⟨us, e4, sz_lt (by omega), (p1.trans s).mut hD e4, _, upd_same, ?_⟩
  rw [List.take_succ, e]
  exact paired_app (paired_imp2 (fun v p h => up _ _ _ _ _ _ e4 (st _ _ _ _ _ s h)) p3) (.cons (up _ _ _ _ _ _ e4 et) .nil)
def sp_Die_parts (K : PySem.W.Frag) (mg : Str → Option Value) : Sp := fun vs H Q _ => match vs with | [.ref a] => ∃ (P : Addr → Prop) (n : Nd), AtN K mg P n (.ref a) H ∧ told n = none ∧ NL P H ∧ Tabs (tabsL K mg) H ∧ ∀ p1 H' vs, H p1 = none → Ev (tabsL K mg) H H' → H' p1 = some (.lst vs) → Paired (PartN K mg P H') vs (parts n) → Q (.ref p1) H' | _ => False
theorem q_Die_parts {H : Hp} {Q : VK} {E : XK} {a : Addr} (q : ∃ (P : Addr → Prop) (n : Nd), AtN K mg P n (.ref a) H ∧ told n = none ∧ NL P H ∧ Tabs (tabsL K mg) H ∧ ∀ p1 H' vs, H p1 = none → Ev (tabsL K mg) H H' → H' p1 = some (.lst vs) → Paired (PartN K mg P H') vs (parts n) → Q (.ref p1) H') : sp_Die_parts K mg [.ref a] H Q E := q
local macro_rules | `(tactic| walk_at "op") => `(tactic| with_reducible refine q_Die_parts ?_)
theorem c_Die_parts (T : Txt K mg base) : Met P w K mg base 8 (cA mg "Die") "parts" (sp_Die_parts K mg) := by
  refine MethAt.met T.k_Die T.d_Die_parts (k := 7) sc_Die_parts (by intro vs H Q E h; unfold sp_Die_parts at h; split at h <;> first | rfl | exact h.elim) fun f cdv A outer s H vs Q E hr h => ?_
  refine ⟨_, (pss_one (ps_ret (pe_lc (own := [("many", 1), ("make", 2)]) (g := (gTup K 2 (gCons (gName 1) (gCons (gName 2) gNil)))) (tt := tYes) (te := (tTup (tCons (tVar 1) (tCons (tOrE (tClo_last_node_l0 K mg 2) (tOrE (tClo_last_node_l1 K mg 2) (tOrE (tClo_duel_node_l0 K mg 2) (tClo_duel_node_l1 K mg 2)))) tNil)))) rfl sc_Die_parts.nd (pi_tup (pe_fld (pv 0) rfl)) (blkOk_by (N := ["self", "many", "make"]) (sc := defScope s_Die_parts) (by decide +kernel)) (fun _ _ _ _ _ => by exact (pg_tup rfl (pgs_cons (pg_name (i := 1) sc_Die_parts.nd rfl (.inl rfl)) (pgs_cons (pg_name (i := 2) sc_Die_parts.nd rfl (.inl rfl)) pgs_nil)))) (fun _ _ _ _ _ => pts_nil) (fun _ _ _ _ _ => by exact (pe_tup (pa_cons (pv 1) (pa_cons (PE.or (pe_clo (i := 2) (c_last_node_l0 T) hr (by decide) rfl (by first | exact Or.inl rfl | exact Or.inr (Or.inl rfl) | exact Or.inr (Or.inr rfl))) (PE.or (pe_clo (i := 2) (c_last_node_l1 T) hr (by decide) rfl (by first | exact Or.inl rfl | exact Or.inr (Or.inl rfl) | exact Or.inr (Or.inr rfl))) (PE.or (pe_clo (i := 2) (c_duel_node_l0 T) hr (by decide) rfl (by first | exact Or.inl rfl | exact Or.inr (Or.inl rfl) | exact Or.inr (Or.inr rfl))) (pe_clo (i := 2) (c_duel_node_l1 T) hr (by decide) rfl (by first | exact Or.inl rfl | exact Or.inr (Or.inl rfl) | exact Or.inr (Or.inr rfl)))))) pa_nil))))))), ?_⟩
  try simp only [cxOf_K, cxOf_K', cxOf_mg, cxOf_mg']
  unfold sp_Die_parts at h
  split at h
  case h_2 => exact h.elim
  rename_i a
  rw [show L2.start ["self", "many", "make"] [V.ref a] = [some (V.ref a), none, none] from rfl]
  obtain ⟨P, n, hat, ht, hNL, hT, q⟩ := h
  obtain ⟨a', dx, p, us, ws0, ea, ha, hp, hl, hP, hW⟩ := at_die hat ht hT hNL
  cases ea
  walk_at "sts"
  refine L_fldv ha T.k_Die T.na_Die_ways rfl ?_
  refine ⟨p, rfl, ⟨_, .of hp⟩, ?_⟩
  have wl : (parts n).length = us.length := by rw [← Paired.length hW, ← Paired.length hP]
  refine lc_evD (T := tabsL K mg) (fun D H v (w : Int × Nd) => PartN K mg (fun b => P b ∧ b ≠ D) H v w) (fun D H H' v w e h => h.ev e) (fun H1 D us us' v w e h => h.mu e (fun z => z.2 rfl)) walk_tup (parts n) wl (by omega) (fun H' e => .of (e.tup hp)) ?_ ?_
  · rintro D us2 j x1 Ha Hb R R' hD eD hj ev ⟨rfl, hx1⟩ q1
    have at2 := AtN.ev (AtN.shr hat hD) ev
    have nl2 : NL (fun b => P b ∧ b ≠ D) _ := fun b hb => ⟨hNL.ev ev b hb, fun z => hb us2 (by rw [z]; exact eD)⟩
    obtain ⟨a2, dx2, p2, us3, ws3, ea2, ha2, hp2, hl2, hP2, hW2⟩ := at_die at2 ht (ev.tb hT) nl2
    cases ea2
    have e1 := ev.ins ha
    rw [ha2] at e1
    cases e1
    have e2 := ev.tup hp
    rw [hp2] at e2
    cases e2
    obtain ⟨w, hw, q0, rfl, hq⟩ := paired_nth hP2 hx1
    obtain ⟨pn, hpn, e3, run⟩ := paired_nth hW2 hw
    refine L_gTup (.of hq) rfl ?_
    walk_at "sts"
    refine ⟨rfl, ?_⟩
    walk_at "sts"
    refine ru_at (run _ .refl _ fun x H2 ev2 atx => ?_) rfl
    walk_at "sts"
    walk_at "nw"
    rename_i p5 hp5 H5 s5 e5
    exact q1 _ pn _ hpn (ev2.trans (.same s5)) ⟨p5, x, rfl, by rw [← e3]; exact e5, AtN.ev atx (Ev.same (T := []) s5)⟩
  intro p1 H1 vs hp1 ev1 e1 hV
  walk_at "sts"
  exact q p1 H1 vs hp1 ev1 e1 (paired_imp2 (fun _ _ h => PartN.wk (fun _ z => z.1) h) hV)
theorem paired_fstW {K : PySem.W.Frag} {mg : Str → Option Value} {P : Addr → Prop} {H : Hp} {ws : List (Int × Addr)} {l : List (Int × Nd)} (h : Paired (WayN K mg P H) ws l) : ws.map (·.1) = l.map (·.1) := by
  induction h with
  | nil => rfl
  | cons h1 _ ih => rw [List.map_cons, List.map_cons, h1.1, ih]
theorem le_sumW : ∀ {l : List Nat} {x : Nat}, x ∈ l → x ≤ l.sum
  | y :: l, x, h => by
    rw [List.sum_cons]
    rcases List.mem_cons.mp h with rfl | h
    · omega
    · have := le_sumW h
      omega
def sidesN (n : Nd) : Int := ((parts n).map (·.1)).sum
def waysN : Nat → Nd → Rat → List (List Int × Rat)
  | 0, n, r => match told n with
    | some ks => [(ks, r)]
    | none => []
  | d + 1, n, r => match told n with
    | some ks => [(ks, r)]
    | none => (parts n).flatMap fun (p : Int × Nd) => waysN d p.2 (r * ((p.1 : Rat) / sidesN n))
/-- a tree of dice that can be gone through -/
def TreeOk : Nat → Nd → Prop
  | 0, n => told n ≠ none
  | d + 1, n => told n ≠ none ∨ (0 < sidesN n ∧ Bd 64 (sidesN n) ∧ (parts n).length ≤ 100 ∧ ∀ p ∈ parts n, Bd 64 p.1 ∧ TreeOk d p.2)
theorem waysN_some {d : Nat} {n : Nd} {r : Rat} {ks : List Int} (h : told n = some ks) : waysN d n r = [(ks, r)] := by
  cases d <;> unfold waysN <;> rw [h]
theorem waysN_none {d : Nat} {n : Nd} {r : Rat} (h : told n = none) : waysN (d + 1) n r = (parts n).flatMap fun (p : Int × Nd) => waysN d p.2 (r * ((p.1 : Rat) / sidesN n)) := by
  show (match told n with | some ks => [(ks, r)] | none => (parts n).flatMap fun (p : Int × Nd) => waysN d p.2 (r * ((p.1 : Rat) / sidesN n))) = _
  rw [h]
theorem waysN_len : ∀ (d : Nat) (n : Nd) (r s : Rat), (waysN d n r).length = (waysN d n s).length
  | 0, n, r, s => by
    unfold waysN
    cases told n <;> rfl
  | d + 1, n, r, s => by
    cases h : told n with
    | some ks => rw [waysN_some h, waysN_some h]; rfl
    | none =>
      rw [waysN_none h, waysN_none h, List.length_flatMap, List.length_flatMap]
      congr 1
      exact List.map_congr_left fun (p : Int × Nd) _ => waysN_len d p.2 _ _
/-- a way in the heap: what is kept, its share -/
def WayR (K : PySem.W.Frag) (H : Hp) (v : V) (w : List Int × Rat) : Prop := ∃ q kp m, v = .ref q ∧ H q = some (.tup [.ref kp, .ref m]) ∧ H kp = some (.tup (w.1.map V.int)) ∧ QtA K H m w.2
theorem WayR.ev {K : PySem.W.Frag} {T : List (Addr × Str)} {H H' : Hp} {v : V} {w : List Int × Rat} (h : WayR K H v w) (e : Ev T H H') : WayR K H' v w := by
  obtain ⟨q, kp, m, e1, h1, h2, h3⟩ := h
  exact ⟨q, kp, m, e1, e.tup h1, e.tup h2, e.seqT h3⟩
theorem WayR.mu {K : PySem.W.Frag} {H : Hp} {v : V} {w : List Int × Rat} {D : Addr} {us : List V} {o : HO} (h : WayR K H v w) (e : H D = some (.lst us)) : WayR K (upd H D o) v w := by
  obtain ⟨q, kp, m, e1, h1, h2, h3⟩ := h
  exact ⟨q, kp, m, e1, upd_keep e h1 (fun _ z => nomatch z), upd_keep e h2 (fun _ z => nomatch z), sqT_upd e h3⟩
def spq__law_ways (D : Nat) (K : PySem.W.Frag) (mg : Str → Option Value) : Sp := fun vs H Q _ => match vs with | [v, .ref m] => ∃ (n : Nd) (d b : Nat) (r : Rat), d ≤ D ∧ AtN K mg (fun _ => True) n v H ∧ TreeOk d n ∧ (waysN d n 1).length ≤ 1000 ∧ QtA K H m r ∧ BdQ b r ∧ b + 64 * d ≤ 990 ∧ Tabs (tabsL K mg) H ∧ ∀ p H' us, H p = none → Ev (tabsL K mg) H H' → H' p = some (.lst us) → Paired (WayR K H') us (waysN d n r) → Q (.ref p) H' | _ => False
def spr__law_ways : Nat → PySem.W.Frag → (Str → Option Value) → Sp
  | 0, _, _ => fun _ _ _ _ => False
  | D + 1, K, mg => spq__law_ways D K mg
abbrev sp__law_ways (K : PySem.W.Frag) (mg : Str → Option Value) : Sp := spr__law_ways 8 K mg
theorem cr__law_ways (T : Txt K mg base) : ∀ D : Nat, Cal P w K mg base (8 + D) "_law_ways" (spr__law_ways D K mg)
  | 0 => T.d__law_ways.calF
  | D + 1 => by
    have ih := cr__law_ways T D
    refine T.d__law_ways.cal (k := 8 + D) sc__law_ways (by intro vs H Q E h; replace h : spq__law_ways D K mg vs H Q E := h; unfold spq__law_ways at h; split at h <;> first | rfl | exact h.elim) fun f cdv A outer s H vs Q E hr h => ?_
    refine ⟨_, (pss_cons (ps_if (pt_val (PE.or (pe_mt0 (c_Told_is_told T) hr (by omega) (pv 0)) (pe_mt0 (c_Die_is_told T) hr (by omega) (pv 0))))
    (pss_one (ps_ret (pe_lst (pa_cons (pe_tup (pa_cons (PE.or (pe_mt0 (c_Told_kept T) hr (by omega) (pv 0)) (pe_mt0 (c_Die_kept T) hr (by omega) (pv 0))) (pa_cons (pv 1) pa_nil))) pa_nil))))
    pss_nil)
    (pss_cons (ps_set (i := 2) sc__law_ways.nd rfl (.inl rfl) (pe_lst pa_nil))
    (pss_cons (ps_for PassesOwn.never rfl (pi_list (PE.or (pe_mt0 (c_Told_parts T) hr (by omega) (pv 0)) (pe_mt0 (c_Die_parts T) hr (by omega) (pv 0)))) (pg_tup rfl (pgs_cons (pg_name (i := 3) sc__law_ways.nd rfl (.inl rfl)) (pgs_cons (pg_name (i := 4) sc__law_ways.nd rfl (.inl rfl)) pgs_nil)))
    (pss_one (ps_expr (pe_bm PySem.F.plainAttrs_list PySem.F.slot_list_extend PySem.F.type_list_extend mt_extend (pv 2) (pa_cons (pe_c ih hr (by omega) (by rfl) (pa_cons (pv 4) (pa_cons (pe_c (c__law_times T) hr (by omega) (by rfl) (pa_cons (pv 1) (pa_cons (pe_c (c__law_low T) hr (by omega) (by rfl) (pa_cons (pv 3) (pa_cons (PE.or (pe_mt0 (c_Told_sides T) hr (by omega) (pv 0)) (pe_mt0 (c_Die_sides T) hr (by omega) (pv 0))) pa_nil))) pa_nil))) pa_nil))) pa_nil)))))
    (pss_one (ps_ret (pv 2)))))), ?_⟩
    try simp only [cxOf_K, cxOf_K', cxOf_mg, cxOf_mg']
    replace h : spq__law_ways D K mg vs H Q E := h
    unfold spq__law_ways at h
    split at h
    case h_2 => exact h.elim
    rename_i v m
    rw [show L2.start ["_law_node", "_law_much", "_law_found", "_law_many", "_law_part"] [v, V.ref m] = [some (v), some (V.ref m), none, none, none] from rfl]
    obtain ⟨n, d, b, r, hd, hat, ok, hlen, hm, hb, hbd, hT, q⟩ := h
    obtain ⟨a, dx, p, rfl, hc⟩ := at_told hat hT NL.all
    walk_at "sts"
    rcases hc with ⟨ks, hk, h1, h2⟩ | ⟨hk, h1⟩
    · refine L_orl ?_
      walk_at "sts"
      refine L_methv h1 rfl ?_
      walk_at "sts"
      refine L_orl ?_
      walk_at "sts"
      refine L_methv h1 rfl ?_
      walk_at "sts"
      refine ⟨dx, p, h1, ?_⟩
      walk_at "sts"
      walk_at "nw"
      rename_i p1 hp1 H1 s1 e1
      walk_at "sts"
      walk_at "nw"
      rename_i p2 hp2 H2 s2 e2
      have s12 := s1.trans s2
      refine q p2 H2 _ (s1.free hp2) (.same s12) e2 ?_
      rw [waysN_some hk]
      exact .cons ⟨p1, p, m, rfl, s2 _ _ e1, s12 _ _ h2, s12.seqT hm⟩ .nil
    · refine L_orr ?_
      walk_at "sts"
      refine L_methv h1 rfl ?_
      walk_at "sts"
      walk_at "nw"
      rename_i f hf H1 s1 e1
      walk_at "sts"
      cases d with
      | zero => exact absurd hk ok
      | succ d =>
      obtain ⟨sp, bsd, pl, hps⟩ := ok.resolve_left (fun z => z hk)
      rw [waysN_none hk] at hlen
      have q' : ∀ p H' us, H p = none → Ev (tabsL K mg) H H' → H' p = some (.lst us) → Paired (WayR K H') us ((parts n).flatMap fun (p : Int × Nd) => waysN d p.2 (r * ((p.1 : Rat) / sidesN n))) → Q (.ref p) H' := by
        rw [← waysN_none hk]
        exact q
      have ev1 : Ev (tabsL K mg) H H1 := .same s1
      have at1 : AtN K mg (fun b => True ∧ b ≠ f) n (.ref a) H1 := AtN.ev (AtN.shr hat hf) ev1
      have nl1 : NL (fun b => True ∧ b ≠ f) H1 := fun b hb => ⟨trivial, fun z => hb [] (by rw [z]; exact e1)⟩
      refine L_orr ?_
      walk_at "sts"
      refine L_methv (s1 _ _ h1) rfl ?_
      walk_at "sts"
      refine ⟨_, n, at1, hk, nl1, ev1.tb hT, fun p2 H2 vs hp2 ev2 e2 hV => ?_⟩
      have vl : vs.length = (parts n).length := Paired.length hV
      refine L_rl (.of e2) ?_
      refine f_it walk_list (fun i σ' H' => ∃ (us : List V) (v3 v4 : Option V), σ' = [some (.ref a), some (.ref m), some (.ref f), v3, v4] ∧ Ev (tabsL K mg) H H' ∧ H' p2 = some (.lst vs) ∧ H' f = some (.lst us) ∧ Paired (PartN K mg (fun b => True ∧ b ≠ f) H') vs (parts n) ∧ AtN K mg (fun b => True ∧ b ≠ f) n (.ref a) H' ∧ NL (fun b => True ∧ b ≠ f) H' ∧ Paired (WayR K H') us (((parts n).take i).flatMap fun (p : Int × Nd) => waysN d p.2 (r * ((p.1 : Rat) / sidesN n)))) ⟨[], _, _, rfl, ev1.trans ev2, e2, ev2.lst e1, hV, AtN.ev at1 ev2, nl1.ev ev2, .nil⟩ (fun _ _ _ _ ⟨_, _, _, _, _, e, _⟩ => .of e) ?_ ?_
      · rintro i x σ' Hy H3 hi ⟨us, v3, v4, rfl, ev3, f3, g3, hV3, at3, nl3, hW3⟩ ⟨rfl, hx⟩
        obtain ⟨pn, hpn, q0, y, rfl, hq0, aty⟩ := paired_nth hV3 hx
        have hpm := List.mem_of_getElem? hpn
        obtain ⟨bp, okp⟩ := hps pn hpm
        refine L_gTup (.of hq0) rfl ?_
        walk_at "sts"
        refine L_tyL (.of g3) ?_
        walk_at "sts"
        obtain ⟨a2, dx2, p4, us4, ws4, ea4, ha4, hp4, hl4, hP4, hW4⟩ := at_die at3 hk (ev3.tb hT) nl3
        cases ea4
        refine L_orr ?_
        walk_at "sts"
        refine L_methv ha4 rfl ?_
        walk_at "sts"
        refine ⟨dx2, p4, us4, ws4, ha4, hp4, hP4, hl4, fun H4 s4 => ?_⟩
        have hsum : (ws4.map (·.1)).sum = sidesN n := by
          unfold sidesN
          rw [paired_fstW hW4]
        rw [hsum]
        walk_at "sts"
        refine ⟨sp, bsd.mono (by decide), fun p5 H5 hp5 s5 e5 => ?_⟩
        have elow : low pn.1 (sidesN n) = qt ((pn.1 : Rat) / sidesN n) := low_qt sp rfl
        rw [elow] at e5
        have s45 := s4.trans s5
        have ev35 : Ev (tabsL K mg) _ H5 := .same s45
        walk_at "sts"
        have brat : BdQ 64 ((pn.1 : Rat) / sidesN n) := bdq_of (by omega) rfl bp bsd
        refine ⟨r, _, (ev3.trans ev35).seqT hm, .of e5, hb.mono (by omega), brat.mono (by decide), fun p6 H6 hp6 s6 e6 => ?_⟩
        have ev36 := ev35.trans (.same s6)
        walk_at "sts"
        cases D with
        | zero => omega
        | succ D =>
        refine ⟨pn.2, d, b + 64, r * ((pn.1 : Rat) / sidesN n), by omega, AtN.wk (fun _ _ => trivial) (AtN.ev aty ev36), okp, ?_, .of e6, bdq_mul hb brat, by omega, (ev3.trans ev36).tb hT, fun p7 H7 us7 hp7 ev7 e7 hW7 => ?_⟩
        · rw [waysN_len d pn.2 1 (1 * ((pn.1 : Rat) / sidesN n))]
          refine Nat.le_trans ?_ hlen
          rw [List.length_flatMap]
          exact le_sumW (List.mem_map.mpr ⟨pn, hpm, rfl⟩)
        have ev37 := ev36.trans ev7
        have g7 := ev37.lst g3
        walk_at "sts"
        have lW3 := Paired.length hW3
        have lW7 := Paired.length hW7
        have tkn : ((parts n).take (i + 1)).flatMap (fun (p : Int × Nd) => waysN d p.2 (r * ((p.1 : Rat) / sidesN n))) = ((parts n).take i).flatMap (fun (p : Int × Nd) => waysN d p.2 (r * ((p.1 : Rat) / sidesN n))) ++ waysN d pn.2 (r * ((pn.1 : Rat) / sidesN n)) := by
          rw [show (parts n).take (i + 1) = (parts n).take i ++ [pn] by rw [List.take_succ, hpn]; rfl, List.flatMap_append]
          simp
        have tot : us.length + us7.length ≤ 1000 := by
          rw [lW3, lW7, ← List.length_append, ← tkn]
          refine Nat.le_trans ?_ hlen
          rw [List.length_flatMap, List.length_flatMap]
          have e : ((parts n).map fun (p : Int × Nd) => (waysN d p.2 (1 * ((p.1 : Rat) / sidesN n))).length) = (parts n).map fun (p : Int × Nd) => (waysN d p.2 (r * ((p.1 : Rat) / sidesN n))).length := List.map_congr_left fun p _ => waysN_len d p.2 _ _
          rw [e]
          conv => rhs; rw [← List.take_append_drop (i + 1) (parts n), List.map_append, List.sum_append]
          omega
        refine ⟨f, p7, us, us7, rfl, rfl, g7, e7, by rw [sizeLine_eq]; omega, ?_⟩
        walk_at "sts"
        have n2f : p2 ≠ f := fun z => by rw [z, e1] at hp2; cases hp2
        refine ⟨us ++ us7, _, _, rfl, (ev3.trans ev37).mut hf g7, by rw [upd_ne n2f]; exact ev37.lst f3, upd_same, paired_imp2 (fun _ _ h => (h.ev ev37).mu g7 (fun z => z.2 rfl)) hV3, AtN.mu (AtN.ev at3 ev37) g7 (fun z => z.2 rfl), (nl3.ev ev37).mu, ?_⟩
        rw [tkn]
        exact paired_app (paired_imp2 (fun _ _ h => (h.ev ev37).mu g7) hW3) (paired_imp2 (fun _ _ h => h.mu g7) hW7)
      · rintro σ' H3 ⟨us, v3, v4, rfl, ev3, f3, g3, hV3, at3, nl3, hW3⟩
        rw [vl, List.take_length] at hW3
        walk_at "sts"
        exact q' f H3 us hf ev3 g3 hW3
theorem c__law_ways (T : Txt K mg base) : Cal P w K mg base 16 "_law_ways" (sp__law_ways K mg) := cr__law_ways T 8
/-- rows of fractions as data -/
def d2r (r : List (Int × Int)) : PyData := .list (r.map d2)
/-- a pair of ints -/
def Q2 (K : PySem.W.Frag) (H : Hp) (v : V) (p : Int × Int) : Prop := ∃ t, v = .ref t ∧ SqT K H t [.int p.1, .int p.2]
/-- new rows of fractions -/
structure RowsN (K : PySem.W.Frag) (H0 H : Hp) (D : Addr) (os : List Addr) (rows : List (List (Int × Int))) : Prop where
  nd : os.Nodup
  new : ∀ o ∈ os, H0 o = none ∧ o ≠ D
  at_ : Paired (fun o r => ∃ xs, H o = some (.lst xs) ∧ Paired (Q2 K H) xs r) os rows
theorem Q2.same {K : PySem.W.Frag} {H H' : Hp} {v : V} {p : Int × Int} (h : Q2 K H v p) (s : Same H H') : Q2 K H' v p := by
  obtain ⟨t, e, h⟩ := h
  exact ⟨t, e, s.seqT h⟩
theorem Q2.mu {K : PySem.W.Frag} {H : Hp} {v : V} {p : Int × Int} {D : Addr} {us : List V} {o : HO} (h : Q2 K H v p) (e : H D = some (.lst us)) : Q2 K (upd H D o) v p := by
  obtain ⟨t, e1, h⟩ := h
  exact ⟨t, e1, sqT_upd e h⟩
theorem RowsN.same {K : PySem.W.Frag} {H0 H H' : Hp} {D : Addr} {os : List Addr} {rows : List (List (Int × Int))} (h : RowsN K H0 H D os rows) (s : Same H H') : RowsN K H0 H' D os rows := ⟨h.nd, h.new, paired_imp2 (fun _ _ ⟨xs, h1, h2⟩ => ⟨xs, s _ _ h1, paired_imp2 (fun _ _ h => Q2.same h s) h2⟩) h.at_⟩
theorem Q2.ev {K : PySem.W.Frag} {T : List (Addr × Str)} {H H' : Hp} {v : V} {p : Int × Int} (h : Q2 K H v p) (s : Ev T H H') : Q2 K H' v p := by
  obtain ⟨t, e, h⟩ := h
  exact ⟨t, e, s.seqT h⟩
theorem RowsN.ev {K : PySem.W.Frag} {T : List (Addr × Str)} {H0 H H' : Hp} {D : Addr} {os : List Addr} {rows : List (List (Int × Int))} (h : RowsN K H0 H D os rows) (s : Ev T H H') : RowsN K H0 H' D os rows := ⟨h.nd, h.new, paired_imp2 (fun _ _ ⟨xs, h1, h2⟩ => ⟨xs, s.lst h1, paired_imp2 (fun _ _ h => Q2.ev h s) h2⟩) h.at_⟩
theorem paired_off {α β : Type} {F G : α → β → Prop} {x : α} (k : ∀ a b, a ≠ x → F a b → G a b) : ∀ {xs : List α} {ys : List β}, x ∉ xs → Paired F xs ys → Paired G xs ys
  | _, _, _, .nil => .nil
  | _, _, n, .cons h t => .cons (k _ _ (fun z => n (by rw [z]; exact List.mem_cons_self)) h) (paired_off k (fun z => n (List.mem_cons_of_mem _ z)) t)
theorem RowsN.mu {K : PySem.W.Frag} {H0 H : Hp} {D d : Addr} {os : List Addr} {rows : List (List (Int × Int))} {us : List V} {o : HO} (h : RowsN K H0 H D os rows) (e : H d = some (.lst us)) (n : d ∉ os) : RowsN K H0 (upd H d o) D os rows := ⟨h.nd, h.new, paired_off (fun a r ne ⟨xs, h1, h2⟩ => ⟨xs, by rw [upd_ne ne]; exact h1, paired_imp2 (fun _ _ h => Q2.mu h e) h2⟩) n h.at_⟩
theorem dp_q2 {K : PySem.W.Frag} {H : Hp} : ∀ {vs : List V} {l : List (Int × Int)}, DpAll K H vs (l.map d2) → Paired (Q2 K H) vs l
  | _, [], h => by cases h; exact .nil
  | _, a :: l, h => by
    cases h with | cons h1 h2 =>
    obtain ⟨t, rfl, e⟩ := of_d2 h1
    exact .cons ⟨t, rfl, e⟩ (dp_q2 h2)
theorem Q2.dpA {K : PySem.W.Frag} {H : Hp} : ∀ {vs : List V} {l : List (Int × Int)}, Paired (Q2 K H) vs l → DpAll K H vs (l.map d2)
  | _, [], h => by cases h; exact .nil
  | _, a :: l, h => by
    cases h with | cons h1 h2 =>
    obtain ⟨t, rfl, e⟩ := h1
    exact .cons (.tup e (.cons (.int _) (.cons (.int _) .nil))) (Q2.dpA h2)
theorem rowsP_dp {K : PySem.W.Frag} {H : Hp} : ∀ {os : List Addr} {rows : List (List (Int × Int))}, Paired (fun o r => ∃ xs, H o = some (.lst xs) ∧ Paired (Q2 K H) xs r) os rows → DpAll K H (os.map V.ref) (rows.map d2r)
  | _, [], h => by cases h; exact .nil
  | _, r :: rows, h => by
    cases h with | cons h1 h2 =>
    obtain ⟨xs, e, h3⟩ := h1
    exact .cons (.lst (.of e) (Q2.dpA h3)) (rowsP_dp h2)
theorem RowsN.dp {K : PySem.W.Frag} {H0 H : Hp} {D : Addr} {os : List Addr} {rows : List (List (Int × Int))} (h : RowsN K H0 H D os rows) : DpAll K H (os.map V.ref) (rows.map d2r) := rowsP_dp h.at_
theorem RowsN.len {K : PySem.W.Frag} {H0 H : Hp} {D : Addr} {os : List Addr} {rows : List (List (Int × Int))} (h : RowsN K H0 H D os rows) : os.length = rows.length := Paired.length h.at_
/-- a row more -/
theorem RowsN.grow {K : PySem.W.Frag} {H0 H H' : Hp} {D t : Addr} {us xs : List V} {os : List Addr} {rows : List (List (Int × Int))} {r : List (Int × Int)} (h : RowsN K H0 H D os rows) (s : Same H H') (s0 : Same H0 H) (n : H t = none) (eD : H D = some (.lst us)) (e : H' t = some (.lst xs)) (hr : Paired (Q2 K H') xs r) {o : HO} : RowsN K H0 (L2.upd H' D o) D (os ++ [t]) (rows ++ [r]) := by
  have nt : t ≠ D := fun z => by rw [z, eD] at n; cases n
  have nto : t ∉ os := fun z => by
    obtain ⟨i, hi, e1⟩ := List.getElem_of_mem z
    obtain ⟨r, _, xs, h1, _⟩ := paired_nth h.at_ (by rw [List.getElem?_eq_getElem hi, e1])
    rw [n] at h1
    cases h1
  have nD : D ∉ os ++ [t] := fun z => by
    rcases List.mem_append.mp z with z | z
    · exact (h.new _ z).2 rfl
    · exact nt (List.mem_singleton.mp z).symm
  have base : RowsN K H0 H' D (os ++ [t]) (rows ++ [r]) := ⟨by
    rw [List.nodup_append]
    exact ⟨h.nd, by simp, fun a ha b hb => by rw [List.mem_singleton.mp hb]; exact fun z => nto (z ▸ ha)⟩, fun o ho => by
    rcases List.mem_append.mp ho with ho | ho
    · exact h.new o ho
    · rw [List.mem_singleton.mp ho]
      exact ⟨s0.free n, nt⟩, paired_app (h.same s).at_ (.cons ⟨xs, e, hr⟩ .nil)⟩
  exact base.mu (s _ _ eD) nD
theorem lc_rows {K : PySem.W.Frag} {σ : L2.St} {H : Hp} {g : TG} {tt : TT} {te : TE} {J : It} {n : Nat} {G : Hp → Prop} {Y : Nat → Hp → V → Hp → Prop} (w : L2.Walk J n G Y) {vs : List Nat} {Qd : Addr → Hp → Prop} (rows : Nat → List (Int × Int)) (hn : n ≤ 1000000) (hG : ∀ H', Same H H' → G H')
    (hs : ∀ i x H2 H' (R : V → Hp → Prop) (R' : Hp → Prop), i < n → Same H H2 → Y i H2 x H' → (∀ t xs H4, Same H2 H4 → H2 t = none → H4 t = some (.lst xs) → Paired (Q2 K H4) xs (rows i) → R (.ref t) H4) →
      g x (wipe σ vs) H' fun σ2 H2 => wipe σ2 vs = wipe σ vs ∧ tt σ2 H2 fun b H3 => if b = true then te σ2 H3 R else R' H3)
    (q : ∀ p H' os, H p = none → Same H H' → H' p = some (.lst (os.map V.ref)) → RowsN K H H' p os ((List.range n).map rows) → Qd p H') :
    ∀ D, H D = none → ∃ W : Nat → Nat → Hp → Prop, (∃ m, W 0 m (upd H D (.lst []))) ∧ ∀ i m H, W i m H →
      (J.stop i H ∧ Qd D H) ∨ (J.go i H ∧ ∃ Nx : Hp → Prop, (∀ H', Nx H' → ∃ m', m' < m ∧ W (i + 1) m' H') ∧ ∀ x H', J.yld i H x H' → g x (wipe σ vs) H' fun σ2 H2 => wipe σ2 vs = wipe σ vs ∧ tt σ2 H2 fun b H3 =>
        if b = true then te σ2 H3 fun y H4 => ∃ acc, H4 D = some (.lst acc) ∧ acc.length < sizeLine ∧ Nx (upd H4 D (.lst (acc ++ [y]))) else Nx H3) := by
  intro D hD
  refine lc_it w (fun i H2 => Same H H2 ∧ ∃ os : List Addr, H2 D = some (.lst (os.map V.ref)) ∧ RowsN K H H2 D os ((List.range i).map rows)) ⟨same_new hD, [], upd_same, ⟨.nil, (fun _ h => nomatch h), .nil⟩⟩ (fun i H2 _ p => hG H2 p.1) ?_ (fun H2 ⟨p1, us, p2, p3⟩ => q D H2 us hD p1 p2 p3)
  rintro i x H2 H' hi ⟨p1, os, p2, p3⟩ y
  refine hs i x H2 H' _ _ hi p1 y (fun t xs H4 s nt e4 h4 => ?_)
  refine ⟨_, s _ _ p2, sz_lt (by have := p3.len; rw [List.length_map, List.length_range] at this; rw [List.length_map]; omega), same_mut (p1.trans s) hD, os ++ [t], by rw [List.map_append]; exact upd_same, ?_⟩
  rw [List.range_succ, List.map_append]
  exact p3.grow s p1 nt p2 e4 h4
/-- all but one is kept -/
def KpT (H H' : Hp) (d : Addr) : Prop := ∀ b o, H b = some o → b ≠ d → H' b = some o
theorem KpT.sq {K : PySem.W.Frag} {H H' : Hp} {d a : Addr} {us : List (List Key × V)} {xs : List V} (k : KpT H H' d) (e : H d = some (.dT us)) (h : SqT K H a xs) : SqT K H' a xs := by
  rcases h with (h | ⟨o, h⟩) | h
  · exact .of (k _ _ h fun z => by rw [z, e] at h; cases h)
  · exact .inl (.inr ⟨o, k _ _ h fun z => by rw [z, e] at h; cases h⟩)
  · exact .inr h
theorem KpT.same {H H' H'' : Hp} {d : Addr} (k : KpT H H' d) (s : Same H' H'') : KpT H H'' d := fun b o hb ne => s _ _ (k b o hb ne)
theorem KpT.none {H H' H0 : Hp} {d : Addr} (k : KpT H H' d) (s : Same H0 H) (n : H0 d = none) : Same H0 H' := fun b o hb => k b o (s _ _ hb) fun z => by rw [z, n] at hb; cases hb
theorem sq_lock {K : PySem.W.Frag} {H : Hp} {d a : Addr} {us : List (List Key × V)} {o : Obj} {xs : List V} (e : H d = some (.dT us)) (h : SqT K H a xs) : SqT K (L2.upd H d (.frz o (.dT us))) a xs := by
  have k : KpT H (L2.upd H d (.frz o (.dT us))) d := fun b o hb ne => by rw [upd_ne ne]; exact hb
  exact k.sq e h
def bothF (i j : Int) (ks : List Int) : Rat := if i ∈ ks ∧ j ∈ ks then 1 else 0
theorem bothF_01 (i j : Int) (k : List Int) : bothF i j k = 0 ∨ bothF i j k = 1 := by unfold bothF; split; exact .inr rfl; exact .inl rfl
def togW (W : Wt) (ps : List Int) : List (List (Int × Int)) := ps.map fun i => ps.map fun j => qt (evW (bothF i j) W)
theorem WayR.to {K : PySem.W.Frag} {H H' : Hp} {v : V} {w : List Int × Rat} (h : WayR K H v w) (s : Same H H') : WayR K H' v w := WayR.ev h (Ev.same (T := []) s)
def sp__law_together (K : PySem.W.Frag) (mg : Str → Option Value) : Sp := fun vs H Q _ => match vs with | [.ref wa, .ref pa] => ∃ (W : Wt) (ps : List Int) (us : List V) (D : Int), SqL K H wa us ∧ Paired (WayR K H) us W ∧ SqL K H pa (ps.map V.int) ∧ 0 < D ∧ D ≤ 2 ^ 900 ∧ GoodW D W ∧ W.length ≤ 1000 ∧ ps.length ≤ 24 ∧ ∀ p H' os, H p = none → Same H H' → H' p = some (.lst (os.map V.ref)) → RowsN K H H' p os (togW W ps) → Q (.ref p) H' | _ => False
theorem q__law_together {H : Hp} {Q : VK} {E : XK} {wa : Addr} {pa : Addr} (q : ∃ (W : Wt) (ps : List Int) (us : List V) (D : Int), SqL K H wa us ∧ Paired (WayR K H) us W ∧ SqL K H pa (ps.map V.int) ∧ 0 < D ∧ D ≤ 2 ^ 900 ∧ GoodW D W ∧ W.length ≤ 1000 ∧ ps.length ≤ 24 ∧ ∀ p H' os, H p = none → Same H H' → H' p = some (.lst (os.map V.ref)) → RowsN K H H' p os (togW W ps) → Q (.ref p) H') : sp__law_together K mg [.ref wa, .ref pa] H Q E := q
local macro_rules | `(tactic| walk_at "op") => `(tactic| with_reducible refine q__law_together ?_)
theorem c__law_together (T : Txt K mg base) : Cal P w K mg base 3 "_law_together" (sp__law_together K mg) := by
  refine T.d__law_together.cal (k := 2) sc__law_together (by intro vs H Q E h; unfold sp__law_together at h; split at h <;> first | rfl | exact h.elim) fun f cdv A outer s H vs Q E hr h => ?_
  refine ⟨_, (pss_cons (ps_set (i := 2) sc__law_together.nd rfl (.inl rfl) pe_dnewT)
    (pss_cons (ps_for PassesOwn.never rfl (pi_list (pv 0)) (pg_tup rfl (pgs_cons (pg_name (i := 3) sc__law_together.nd rfl (.inl rfl)) (pgs_cons (pg_name (i := 4) sc__law_together.nd rfl (.inl rfl)) pgs_nil)))
    (pss_one (ps_dput (hu_of hr) (pv 2) (pv 3) (pe_c (c__law_plus T) hr (by decide) (by rfl) (pa_cons (pe_dget2 (hu_of hr) (pv 2) (pv 3) (pe_tup (pa_cons pe_int (pa_cons pe_int pa_nil))) ⟨rfl, rfl, rfl, rfl⟩) (pa_cons (pv 4) pa_nil))) rfl)))
    (pss_cons (ps_set (i := 5) sc__law_together.nd rfl (.inl rfl) (pe_lst pa_nil))
    (pss_cons (ps_for PassesOwn.never rfl (pi_list (pv 1)) (pg_name (i := 6) sc__law_together.nd rfl (.inl rfl))
    (pss_cons (ps_set (i := 7) sc__law_together.nd rfl (.inl rfl) (pe_lst pa_nil))
    (pss_cons (ps_for PassesOwn.never rfl (pi_list (pv 1)) (pg_name (i := 8) sc__law_together.nd rfl (.inl rfl))
    (pss_cons (ps_set (i := 9) sc__law_together.nd rfl (.inl rfl) (pe_tup (pa_cons pe_int (pa_cons pe_int pa_nil))))
    (pss_cons (ps_lock (ps_for PassesOwn.never rfl (pi_itemsT (pv 2)) (pg_tup rfl (pgs_cons (pg_name (i := 3) sc__law_together.nd rfl (.inl rfl)) (pgs_cons (pg_name (i := 4) sc__law_together.nd rfl (.inl rfl)) pgs_nil)))
    (pss_one (ps_if (PW.pt (pw_and (pt_cmpR op_inA (pv 6) (pv 3) (by rfl)) (pw_and1 (pt_cmpR op_inA (pv 8) (pv 3) (by rfl)))))
    (pss_one (ps_set (i := 9) sc__law_together.nd rfl (.inl rfl) (pe_c (c__law_plus T) hr (by decide) (by rfl) (pa_cons (pv 9) (pa_cons (pv 4) pa_nil)))))
    pss_nil))))
    (pss_one (ps_expr (pe_bm PySem.F.plainAttrs_list PySem.F.slot_list_append PySem.F.type_list_append mt_append (pv 7) (pa_cons (pv 9) pa_nil)))))))
    (pss_one (ps_expr (pe_bm PySem.F.plainAttrs_list PySem.F.slot_list_append PySem.F.type_list_append mt_append (pv 5) (pa_cons (pv 7) pa_nil)))))))
    (pss_one (ps_ret (pv 5))))))), ?_⟩
  try simp only [cxOf_K, cxOf_K', cxOf_mg, cxOf_mg']
  unfold sp__law_together at h
  split at h
  case h_2 => exact h.elim
  rename_i wa pa
  rw [show L2.start ["_law_ways_here", "_law_places", "_law_rows", "_law_kept", "_law_much", "_law_found", "_law_one", "_law_row_here", "_law_other", "_law_total"] [V.ref wa, V.ref pa] = [some (V.ref wa), some (V.ref pa), none, none, none, none, none, none, none, none] from rfl]
  obtain ⟨W, ps, us, D, hw, hW, hpa, d0, d1, gw, wl, pl, q⟩ := h
  have ul : us.length = W.length := Paired.length hW
  walk_at "sts"
  walk_at "nwp"
  rename_i d hd H1 s1 e1
  walk_at "sts"
  refine L_rl (s1.seq hw) ?_
  refine f_it walk_list (fun i σ' H' => ∃ (kvs : List (List Key × V)) (v3 v4 : Option V), σ' = [some (.ref wa), some (.ref pa), some (.ref d), v3, v4, none, none, none, none, none] ∧ Same H H' ∧ H' d = some (.dT kvs) ∧ Paired (RtP K H') kvs (rowsW (W.take i))) ⟨[], _, _, rfl, s1, e1, .nil⟩ (fun _ _ _ _ ⟨_, _, _, _, s, _⟩ => s.seq hw) ?_ ?_
  · rintro i x σ' Hy H2 hi ⟨kvs, v3, v4, rfl, s2, e2, p2⟩ ⟨rfl, hx⟩
    obtain ⟨w, hwi, q0, kp, m, rfl, h1, h2, h3⟩ := paired_nth hW hx
    have hwm := List.mem_of_getElem? hwi
    obtain ⟨g1, nd1, ln1⟩ := gw.rows i (by omega)
    refine L_gTup (.of (s2 _ _ h1)) rfl ?_
    walk_at "sts"
    refine L_isdT e2 ?_
    walk_at "sts"
    walk_at "nw"
    rename_i p1 hp1 H3 s3 e3
    have s23 := s2.trans s3
    have hk3 : H3 kp = some (.tup ((kL w.1).map kV)) := by rw [kL_v]; exact s23 _ _ h2
    refine L_dgT (k := kL w.1) (s3 _ _ e2) hk3 ?_
    have hz := rt_val (k := w.1) p2
    have hold : ∃ t, ((valV kvs (kL w.1)).getD (.ref p1)) = .ref t ∧ QtA K H3 t (lookW (rowsW (W.take i)) w.1) := by
      rcases hz with ⟨z1, _, z3⟩ | ⟨t, z1, z2, _⟩
      · rw [z1, z3]
        exact ⟨p1, rfl, .of e3⟩
      · rw [z1]
        exact ⟨t, rfl, s3.seqT z2⟩
    have bo : BdQ 990 (lookW (rowsW (W.take i)) w.1) := by
      rcases hz with ⟨_, _, z3⟩ | ⟨_, _, _, z3⟩
      · rw [z3]
        exact ⟨by unfold Bd; decide +kernel, by unfold Bd; decide +kernel⟩
      · obtain ⟨z, hz, _, e⟩ := lookW_at z3
        rw [← e]
        exact GoodW.bd d0 d1 g1 hz
    obtain ⟨t, et, ht⟩ := hold
    rw [et]
    walk_at "sts"
    refine ⟨_, w.2, ht, s23.seqT h3, bo, gw.bd d0 d1 hwm, fun p4 H4 hp4 s4 e4 => ?_⟩
    have s34 := s3.trans s4
    walk_at "sts"
    have hlk := rt_len p2
    refine L_dputT (k := kL w.1) (s34 _ _ e2) (s4 _ _ hk3) (by omega) ?_
    have p24 := paired_imp2 (fun _ _ h => RtP.same h s34) p2
    have hput := rt_put (k := w.1) (v := w.2) (t := p4) p24 nd1 (.of e4)
    have e24 := s34 _ _ e2
    walk_at "sts"
    refine ⟨_, _, _, rfl, fun b o hb => ?_, upd_same, ?_⟩
    · rw [upd_ne fun z => by rw [z, hd] at hb; cases hb]
      exact s34 _ _ (s2 _ _ hb)
    · have tk : rowsW (W.take (i + 1)) = addW (rowsW (W.take i)) w.1 w.2 := by
        rw [show W.take (i + 1) = W.take i ++ [w] by rw [List.take_succ, hwi]; rfl]
        unfold rowsW
        rw [List.foldl_append]
        rfl
      rw [tk]
      exact paired_imp2 (fun _ _ h => RtP.keep h e24 fun b o hb ne => by rw [upd_ne ne]; exact hb) hput
  rintro σ' H2 ⟨kvs, v3, v4, rfl, s2, e2, p2⟩
  obtain ⟨g1, nd1, ln1⟩ := gw.rows us.length (by omega)
  have eev : ∀ i j, evW (bothF i j) (rowsW (W.take us.length)) = evW (bothF i j) W := fun i j => by
    rw [evW_rows, ul, List.take_length]
  generalize rowsW (W.take us.length) = Z at *
  have hlk := rt_len p2
  walk_at "sts"
  walk_at "nw"
  rename_i f hf H3 s3 e3
  walk_at "sts"
  refine L_rl ((s2.trans s3).seq hpa) ?_
  have hpa2 := s2.seq hpa
  refine f_it walk_list (fun i σ' H' => ∃ (os : List Addr) (v3 v4 v6 v7 v8 v9 : Option V), σ' = [some (.ref wa), some (.ref pa), some (.ref d), v3, v4, some (.ref f), v6, v7, v8, v9] ∧ Same H2 H' ∧ H' f = some (.lst (os.map V.ref)) ∧ RowsN K H2 H' f os ((ps.take i).map fun i => ps.map fun j => qt (evW (bothF i j) W))) ⟨[], _, _, _, _, _, _, rfl, s3, e3, ⟨.nil, (fun _ h => nomatch h), .nil⟩⟩ (fun _ _ _ _ ⟨_, _, _, _, _, _, _, _, s, _⟩ => s.seq hpa2) ?_ ?_
  · rintro i x σ' Hy H4 hi ⟨os, v3, v4, v6, v7, v8, v9, rfl, s4, e4, rn4⟩ ⟨rfl, hx⟩
    rw [List.getElem?_map] at hx
    obtain ⟨one, hone, rfl⟩ := Option.map_eq_some_iff.mp hx
    walk_at "sts"
    walk_at "nw"
    rename_i t ht H5 s5 e5
    walk_at "sts"
    refine L_rl ((s4.trans s5).seq hpa2) ?_
    refine f_it walk_list (fun j σ' H' => ∃ (xs : List V) (v3 v4 v8 v9 : Option V), σ' = [some (.ref wa), some (.ref pa), some (.ref d), v3, v4, some (.ref f), some (.int one), some (.ref t), v8, v9] ∧ Same H4 H' ∧ H' t = some (.lst xs) ∧ Paired (Q2 K H') xs ((ps.take j).map fun j => qt (evW (bothF one j) W))) ⟨[], _, _, _, _, rfl, s5, e5, .nil⟩ (fun _ _ _ _ ⟨_, _, _, _, _, _, s, _⟩ => (s4.trans s).seq hpa2) ?_ ?_
    · rintro j x σ' Hz H6 hj ⟨xs, v3, v4, v8, v9, rfl, s6, e6, q6⟩ ⟨rfl, hx6⟩
      rw [List.getElem?_map] at hx6
      obtain ⟨oth, hoth, rfl⟩ := Option.map_eq_some_iff.mp hx6
      have d6 := s6 _ _ (s4 _ _ e2)
      have p6 := paired_imp2 (fun _ _ h => RtP.same h (s4.trans s6)) p2
      walk_at "sts"
      walk_at "nw"
      rename_i t0 ht0 H7 s7 e7
      walk_at "sts"
      have d7 := s7 _ _ d6
      refine ⟨d, .dT kvs, d7, trivial, fun od => ?_⟩
      have f8 : L2.upd H7 d (.frz od (.dT kvs)) d = some (.frz od (.dT kvs)) := upd_same
      have p8 : Paired (RtP K (L2.upd H7 d (.frz od (.dT kvs)))) kvs Z := paired_imp2 (fun _ _ h => (RtP.same h s7).keep d7 fun b o hb ne => by rw [upd_ne ne]; exact hb) p6
      have k8 : KpT H7 (L2.upd H7 d (.frz od (.dT kvs))) d := fun b o hb ne => by rw [upd_ne ne]; exact hb
      have tt8 := sq_lock (o := od) d7 (SqT.of (K := K) e7)
      generalize L2.upd H7 d (.frz od (.dT kvs)) = H8 at f8 p8 k8 tt8 ⊢
      walk_at "sts"
      refine L_iItemsT ?_
      walk_at "sts"
      refine ⟨d, od, kvs, rfl, f8, ?_⟩
      refine f_it walk_itemsT (fun k σ' H' => ∃ (tp : Addr) (v3 v4 : Option V), σ' = [some (.ref wa), some (.ref pa), some (.ref d), v3, v4, some (.ref f), some (.int one), some (.ref t), some (.int oth), some (.ref tp)] ∧ Same H8 H' ∧ QtA K H' tp (evW (bothF one oth) (Z.take k))) ⟨t0, _, _, rfl, .refl _, by rw [List.take_zero]; exact tt8⟩ (fun _ _ _ _ ⟨_, _, _, _, s, _⟩ => s _ _ f8) ?_ ?_
      · rintro k x σ' H9 H9' hk ⟨tp, v3, v4, rfl, s9, htp⟩ ⟨T1, kq1, k0, v, hkv, rfl, hT1, hkq1, rfl⟩
        obtain ⟨z, hz, ek, zp, ev, hzp⟩ := paired_nth p8 hkv
        dsimp only at ek ev
        subst ek ev
        have hzm := List.mem_of_getElem? hz
        have s10 : Same H9 (L2.upd H9 T1 (.tup [.ref kq1, .ref zp])) := same_new hT1
        refine L_gTup (.of upd_same) rfl ?_
        generalize L2.upd H9 T1 (.tup [.ref kq1, .ref zp]) = H10 at s10 ⊢
        have s810 := s9.trans s10
        have hkq2 : H10 kq1 = some (.tup (z.1.map V.int)) := by rw [← kL_v]; exact s10 _ _ hkq1
        have tks : evW (bothF one oth) (Z.take (k + 1)) = evW (bothF one oth) (Z.take k) + z.2 * bothF one oth z.1 := by
          rw [show Z.take (k + 1) = Z.take k ++ [z] by rw [List.take_succ, hz]; rfl, evW_snoc]
        have bj := g1.part (g := bothF one oth) d0 d1 (bothF_01 _ _) k
        walk_at "sts"
        refine L_inTi (.of hkq2) ?_
        walk_at "sts"
        refine L_d (fun c1 => ?_) (fun c1 => ?_)
        · walk_at "sts"
          refine L_inTi (.of hkq2) ?_
          walk_at "sts"
          refine L_d (fun c2 => ?_) (fun c2 => ?_)
          · have ef : bothF one oth z.1 = 1 := if_pos ⟨c1, c2⟩
            walk_at "sts"
            refine ⟨_, z.2, s10.seqT htp, s810.seqT hzp, bj, g1.bd d0 d1 hzm, fun pn H11 hpn s11 e11 => ?_⟩
            walk_at "sts"
            refine ⟨pn, _, _, rfl, s810.trans s11, ?_⟩
            rw [tks, ef, Rat.mul_one]
            exact .of e11
          · have ef : bothF one oth z.1 = 0 := if_neg (fun z => c2 z.2)
            walk_at "sts"
            refine ⟨tp, _, _, rfl, s810, ?_⟩
            rw [tks, ef, Rat.mul_zero, Rat.add_zero]
            exact s10.seqT htp
        · have ef : bothF one oth z.1 = 0 := if_neg (fun z => c1 z.1)
          walk_at "sts"
          refine ⟨tp, _, _, rfl, s810, ?_⟩
          rw [tks, ef, Rat.mul_zero, Rat.add_zero]
          exact s10.seqT htp
      · rintro σ' H9 ⟨tp, v3, v4, rfl, s9, htp⟩
        have f9 := s9 _ _ f8
        refine ⟨f9, ?_⟩
        rw [hlk, List.take_length, eev] at htp
        have sz9 : Same H6 (L2.upd H9 d (.dT kvs)) := fun b o hb => by
          by_cases cb : b = d
          · rw [cb, upd_same]
            rw [cb, d6] at hb
            exact hb
          · rw [upd_ne cb]
            exact s9 _ _ (k8 _ _ (s7 _ _ hb) cb)
        have ht9 : QtA K (L2.upd H9 d (.dT kvs)) tp (evW (bothF one oth) W) := by
          rcases htp with (h | ⟨o, h⟩) | h
          · exact .of (by rw [upd_ne fun z => by rw [z, f9] at h; cases h]; exact h)
          · exact .inl (.inr ⟨o, by rw [upd_ne fun z => by rw [z, f9] at h; cases h]; exact h⟩)
          · exact .inr h
        generalize L2.upd H9 d (.dT kvs) = H10 at sz9 ht9 ⊢
        walk_at "sts"
        have e10 := sz9 _ _ e6
        refine L_tyL (.of e10) ?_
        walk_at "sts"
        have xl := Paired.length q6
        rw [List.length_map, List.length_take] at xl
        refine L_app e10 (sz_lt (by omega)) ?_
        walk_at "sts"
        refine ⟨xs ++ [.ref tp], _, _, _, _, rfl, same_mut (s6.trans sz9) ht, upd_same, ?_⟩
        have tk2 : (ps.take (j + 1)).map (fun j => qt (evW (bothF one j) W)) = (ps.take j).map (fun j => qt (evW (bothF one j) W)) ++ [qt (evW (bothF one oth) W)] := by
          rw [show ps.take (j + 1) = ps.take j ++ [oth] by rw [List.take_succ, hoth]; rfl, List.map_append]
          rfl
        rw [tk2]
        exact paired_app (paired_imp2 (fun _ _ h => (Q2.same h sz9).mu e10) q6) (.cons ⟨tp, rfl, sqT_upd e10 ht9⟩ .nil)
    · rintro σ' H6 ⟨xs, v3, v4, v8, v9, rfl, s6, e6, q6⟩
      rw [List.length_map, List.take_length] at q6
      walk_at "sts"
      have f6 := s6 _ _ e4
      refine L_tyL (.of f6) ?_
      walk_at "sts"
      have ol := rn4.len
      rw [List.length_map, List.length_take] at ol
      refine L_app f6 (sz_lt (by rw [List.length_map]; omega)) ?_
      walk_at "sts"
      refine ⟨os ++ [t], _, _, _, _, _, _, rfl, same_mut (s4.trans s6) hf, by rw [List.map_append]; exact upd_same, ?_⟩
      have tk3 : (ps.take (i + 1)).map (fun i => ps.map fun j => qt (evW (bothF i j) W)) = (ps.take i).map (fun i => ps.map fun j => qt (evW (bothF i j) W)) ++ [ps.map fun j => qt (evW (bothF one j) W)] := by
        rw [show ps.take (i + 1) = ps.take i ++ [one] by rw [List.take_succ, hone]; rfl, List.map_append]
        rfl
      rw [tk3]
      exact rn4.grow s6 s4 ht e4 e6 q6
  · rintro σ' H4 ⟨os, v3, v4, v6, v7, v8, v9, rfl, s4, e4, rn4⟩
    rw [List.length_map, List.take_length] at rn4
    walk_at "sts"
    exact q f H4 os (s2.free hf) (s2.trans s4) e4 ⟨rn4.nd, fun o ho => ⟨s2.free (rn4.new o ho).1, (rn4.new o ho).2⟩, rn4.at_⟩
def spq__law_deep (D : Nat) (K : PySem.W.Frag) (mg : Str → Option Value) : Sp := fun vs H Q _ => match vs with | [v] => ∃ (n : Nd) (d : Nat), d ≤ D ∧ AtN K mg (fun _ => True) n v H ∧ TreeOk d n ∧ (told n = none → parts n ≠ []) ∧ (∀ d n, TreeOk (d + 1) n → told n = none → ∀ p ∈ parts n, told p.2 = none → parts p.2 ≠ []) ∧ Tabs (tabsL K mg) H ∧ ∀ (k : Int) H', 0 ≤ k → k ≤ d → Ev (tabsL K mg) H H' → Q (.int k) H' | _ => False
def spr__law_deep : Nat → PySem.W.Frag → (Str → Option Value) → Sp
  | 0, _, _ => fun _ _ _ _ => False
  | D + 1, K, mg => spq__law_deep D K mg
abbrev sp__law_deep (K : PySem.W.Frag) (mg : Str → Option Value) : Sp := spr__law_deep 8 K mg
theorem cr__law_deep (T : Txt K mg base) : ∀ D : Nat, Cal P w K mg base (8 + D) "_law_deep" (spr__law_deep D K mg)
  | 0 => T.d__law_deep.calF
  | D + 1 => by
    have ih := cr__law_deep T D
    refine T.d__law_deep.cal (k := 8 + D) sc__law_deep (by intro vs H Q E h; replace h : spq__law_deep D K mg vs H Q E := h; unfold spq__law_deep at h; split at h <;> first | rfl | exact h.elim) fun f cdv A outer s H vs Q E hr h => ?_
    refine ⟨_, (pss_cons (ps_if (pt_val (PE.or (pe_mt0 (c_Told_is_told T) hr (by omega) (pv 0)) (pe_mt0 (c_Die_is_told T) hr (by omega) (pv 0))))
    (pss_one (ps_ret pe_int))
    pss_nil)
    (pss_one (ps_ret (pe_op op_addA pe_int (pe_callB (cr_max rfl) (by rfl) T.n_max (by decide +kernel) (pa_cons (pe_lc (own := [("_law_many", 1), ("_law_part", 2)]) (g := (gTup K 2 (gCons (gName 1) (gCons (gName 2) gNil)))) (tt := tYes) (te := (tCall (spr__law_deep D K mg) [] E0 (tCons (tVar 2) tNil))) rfl sc__law_deep.nd (pi_list (PE.or (pe_mt0 (c_Told_parts T) hr (by omega) (pv 0)) (pe_mt0 (c_Die_parts T) hr (by omega) (pv 0)))) (blkOk_by (N := ["_law_node", "_law_many", "_law_part"]) (sc := defScope s__law_deep) (by decide +kernel)) (fun _ _ _ _ _ => by exact (pg_tup rfl (pgs_cons (pg_name (i := 1) sc__law_deep.nd rfl (.inl rfl)) (pgs_cons (pg_name (i := 2) sc__law_deep.nd rfl (.inl rfl)) pgs_nil)))) (fun _ _ _ _ _ => pts_nil) (fun _ _ _ _ _ => by exact (pe_c ih hr (by omega) (by rfl) (pa_cons (pv 2) pa_nil)))) pa_nil)))))), ?_⟩
    try simp only [cxOf_K, cxOf_K', cxOf_mg, cxOf_mg']
    replace h : spq__law_deep D K mg vs H Q E := h
    unfold spq__law_deep at h
    split at h
    case h_2 => exact h.elim
    rename_i v
    rw [show L2.start ["_law_node", "_law_many", "_law_part"] [v] = [some (v), none, none] from rfl]
    obtain ⟨n, d, hd, hat, ok, hne, hnp, hT, q⟩ := h
    obtain ⟨a, dx, p, rfl, hc⟩ := at_told hat hT NL.all
    walk_at "sts"
    rcases hc with ⟨ks, hk, h1, h2⟩ | ⟨hk, h1⟩
    · refine L_orl ?_
      walk_at "sts"
      refine L_methv h1 rfl ?_
      walk_at "sts"
      exact q 0 H (by omega) (by omega) .refl
    · refine L_orr ?_
      walk_at "sts"
      refine L_methv h1 rfl ?_
      walk_at "sts"
      cases d with
      | zero => exact absurd hk ok
      | succ d =>
      obtain ⟨sp, bsd, pl, hps⟩ := ok.resolve_left (fun z => z hk)
      refine L_orr ?_
      walk_at "sts"
      refine L_methv h1 rfl ?_
      walk_at "sts"
      refine ⟨_, n, hat, hk, NL.all, hT, fun p2 H2 vs hp2 ev2 e2 hV => ?_⟩
      have vl : vs.length = (parts n).length := Paired.length hV
      refine L_rl (.of e2) ?_
      refine lc_ev (T := tabsL K mg) (fun _ v (_ : Int × Nd) => ∃ k : Int, v = .int k ∧ 0 ≤ k ∧ k ≤ d) (fun _ _ _ _ _ h => h) (fun _ _ _ _ _ _ _ h => h) walk_list (parts n) vl.symm (by omega) (fun H' e => .of (e.lst e2)) ?_ ?_
      · rintro j x1 Ha Hb R R' hj ev ⟨rfl, hx1⟩ q1
        obtain ⟨pn, hpn, q0, y, rfl, hq0, aty⟩ := paired_nth hV hx1
        have hpm := List.mem_of_getElem? hpn
        refine L_gTup (.of (ev.tup hq0)) rfl ?_
        walk_at "sts"
        refine ⟨rfl, ?_⟩
        walk_at "sts"
        cases D with
        | zero => omega
        | succ D =>
        refine ⟨pn.2, d, by omega, AtN.ev aty ev, (hps pn hpm).2, hnp d n ok hk pn hpm, hnp, (ev2.trans ev).tb hT, fun k H3 k0 k1 ev3 => ?_⟩
        exact q1 _ pn _ hpn ev3 ⟨k, rfl, k0, k1⟩
      intro p3 H3 us hp3 ev3 e3 hU
      walk_at "sts"
      have intsD : ∀ {us : List V} {l : List (Int × Nd)}, Paired (fun v (_ : Int × Nd) => ∃ k : Int, v = .int k ∧ 0 ≤ k ∧ k ≤ (d : Int)) us l → ∃ ks : List Int, us = ks.map V.int ∧ (∀ k ∈ ks, 0 ≤ k ∧ k ≤ (d : Int)) ∧ ks.length = l.length := by
        intro us l h
        induction h with
        | nil => exact ⟨[], rfl, (fun _ z => nomatch z), rfl⟩
        | cons h _ ih =>
          obtain ⟨k, rfl, k0, k1⟩ := h
          obtain ⟨ks, rfl, hk, hl⟩ := ih
          refine ⟨k :: ks, rfl, fun x hx => ?_, by rw [List.length_cons, List.length_cons, hl]⟩
          rcases List.mem_cons.mp hx with rfl | hx
          · exact ⟨k0, k1⟩
          · exact hk x hx
      obtain ⟨ks, rfl, hks, hkl⟩ := intsD hU
      have hpos : 0 < ks.length := by
        rw [hkl]
        exact List.length_pos_iff.mpr (hne hk)
      refine ⟨p3, ks, rfl, .of e3, hpos, fun m hm _ => ?_⟩
      have hmb := hks m hm
      walk_at "sts"
      exact q (1 + m) H3 (by omega) (by omega) (ev2.trans ev3)
theorem c__law_deep (T : Txt K mg base) : Cal P w K mg base 16 "_law_deep" (sp__law_deep K mg) := cr__law_deep T 8
theorem lc_ob {α : Type} (F : Hp → V → α → Prop) (st : ∀ H H' v a, Same H H' → F H v a → F H' v a) (up : ∀ H D us us' v a, H D = some (.lst us) → F H v a → F (upd H D (.lst us')) v a)
    {σ : L2.St} {H : Hp} {g : TG} {tt : TT} {te : TE} {J : It} {n : Nat} {G : Hp → Prop} {Y : Nat → Hp → V → Hp → Prop} (w : L2.Walk J n G Y) {vs : List Nat} {Qd : Addr → Hp → Prop} (f : Nat → Option α) (hn : n ≤ 1000000) (hG : ∀ H', Same H H' → G H')
    (hs : ∀ i x H2 H' (R : V → Hp → Prop) (R' : Hp → Prop), i < n → Same H H2 → Y i H2 x H' → (∀ v p H4, f i = some p → Same H2 H4 → F H4 v p → R v H4) → (∀ H3, f i = none → Same H2 H3 → R' H3) →
      g x (wipe σ vs) H' fun σ2 H2 => wipe σ2 vs = wipe σ vs ∧ tt σ2 H2 fun b H3 => if b = true then te σ2 H3 R else R' H3)
    (q : ∀ p H' vs, H p = none → Same H H' → H' p = some (.lst vs) → Paired (F H') vs ((List.range n).filterMap f) → Qd p H') :
    ∀ D, H D = none → ∃ W : Nat → Nat → Hp → Prop, (∃ m, W 0 m (upd H D (.lst []))) ∧ ∀ i m H, W i m H →
      (J.stop i H ∧ Qd D H) ∨ (J.go i H ∧ ∃ Nx : Hp → Prop, (∀ H', Nx H' → ∃ m', m' < m ∧ W (i + 1) m' H') ∧ ∀ x H', J.yld i H x H' → g x (wipe σ vs) H' fun σ2 H2 => wipe σ2 vs = wipe σ vs ∧ tt σ2 H2 fun b H3 =>
        if b = true then te σ2 H3 fun y H4 => ∃ acc, H4 D = some (.lst acc) ∧ acc.length < sizeLine ∧ Nx (upd H4 D (.lst (acc ++ [y]))) else Nx H3) := by
  intro D hD
  refine lc_it w (fun i H2 => Same H H2 ∧ ∃ us, H2 D = some (.lst us) ∧ Paired (F H2) us ((List.range i).filterMap f)) ⟨same_new hD, [], upd_same, .nil⟩ (fun i H2 _ p => hG H2 p.1) ?_ (fun H2 ⟨p1, us, p2, p3⟩ => q D H2 us hD p1 p2 p3)
  rintro i x H2 H' hi ⟨p1, us, p2, p3⟩ y
  refine hs i x H2 H' _ _ hi p1 y (fun v p H4 e s et => ?_) (fun H3 e s => ?_)
  · have e4 := s _ _ p2
    refine ⟨us, e4, sz_lt (by have := Paired.length p3; have := fm_len' f i; omega), same_mut (p1.trans s) hD, _, upd_same, ?_⟩
    rw [fm_succ', e]
    exact paired_app (paired_imp2 (fun v p h => up _ _ _ _ _ _ e4 (st _ _ _ _ s h)) p3) (.cons (up _ _ _ _ _ _ e4 et) .nil)
  · refine ⟨p1.trans s, us, s _ _ p2, ?_⟩
    rw [fm_succ', e, List.append_nil]
    exact paired_imp2 (fun v p h => st _ _ _ _ s h) p3
theorem fm_some {α β : Type} (f : α → β) : ∀ l : List α, l.filterMap (fun i => some (f i)) = l.map f
  | [] => rfl
  | a :: l => by rw [List.filterMap_cons, List.map_cons, fm_some f l]
/-- shares over L -/
structure ShOk (L : Int) (S : List Int) : Prop where
  l1 : 1 ≤ L
  l2 : L ≤ 1000000000
  b : ∀ s ∈ S, 0 ≤ s ∧ s ≤ L
  n : S.length ≤ 24
/-- those that come, those that are sure -/
def isO (L s : Int) : Bool := decide (0 < s ∧ s < L)
def comL (L : Int) (S : List Int) (ord : List Int) : List Ps := (ord.filter fun a => isO L (S.getD a.toNat 0)).map fun a => (a, S.getD a.toNat 0)
def kepL (L : Int) (S : List Int) (ord : List Int) : List Int := ord.filter fun a => decide (S.getD a.toNat 0 = L)
/-- shares over L -/
structure ShA (K : PySem.W.Frag) (L : Int) (S : List Int) (H : Hp) (us : List V) : Prop where
  d : DpAll K H us (S.map fun s => d2 (low s L))
theorem shA_at {K : PySem.W.Frag} {L : Int} {S : List Int} {H : Hp} {us : List V} (h : DpAll K H us (S.map fun s => d2 (low s L))) {i : Nat} (hi : i < S.length) : ∃ t, us[i]? = some (.ref t) ∧ SqT K H t [.int (low (S.getD i 0) L).1, .int (low (S.getD i 0) L).2] := by
  have hs : S[i]? = some (S.getD i 0) := by
    rw [List.getD_eq_getElem?_getD, List.getElem?_eq_getElem hi]
    rfl
  obtain ⟨v, h1, h2⟩ := h.at (i := i) (d := d2 (low (S.getD i 0) L)) (by rw [List.getElem?_map, hs]; rfl)
  obtain ⟨t, rfl, ht⟩ := of_d2 h2
  exact ⟨t, h1, ht⟩
def sp_duels (K : PySem.W.Frag) (mg : Str → Option Value) : Sp := fun vs H Q _ => match vs with | [.ref sa, .ref oa] => ∃ (P : Addr → Prop) (L : Int) (S ord : List Int) (us : List V), SqL K H sa us ∧ DpAll K H us (S.map fun s => d2 (low s L)) ∧ ShOk L S ∧ SqL K H oa (ord.map V.int) ∧ ord.length ≤ 24 ∧ (∀ a ∈ ord, 0 ≤ a ∧ a < S.length) ∧ NL P H ∧ Tabs (tabsL K mg) H ∧ NodeQ K mg P (duelN L none (comL L S ord) (kepL L S ord)) H Q | _ => False
theorem q_duels {H : Hp} {Q : VK} {E : XK} {sa : Addr} {oa : Addr} (q : ∃ (P : Addr → Prop) (L : Int) (S ord : List Int) (us : List V), SqL K H sa us ∧ DpAll K H us (S.map fun s => d2 (low s L)) ∧ ShOk L S ∧ SqL K H oa (ord.map V.int) ∧ ord.length ≤ 24 ∧ (∀ a ∈ ord, 0 ≤ a ∧ a < S.length) ∧ NL P H ∧ Tabs (tabsL K mg) H ∧ NodeQ K mg P (duelN L none (comL L S ord) (kepL L S ord)) H Q) : sp_duels K mg [.ref sa, .ref oa] H Q E := q
local macro_rules | `(tactic| walk_at "op") => `(tactic| with_reducible refine q_duels ?_)
theorem c_duels (T : Txt K mg base) : Cal P w K mg base 6 "duels" (sp_duels K mg) := by
  refine T.d_duels.cal (k := 5) sc_duels (by intro vs H Q E h; unfold sp_duels at h; split at h <;> first | rfl | exact h.elim) fun f cdv A outer s H vs Q E hr h => ?_
  refine ⟨_, (pss_cons (ps_setLc (i := 2) (own := [("at", 3)]) (g := (gName 3)) (tt := (tB (tCall (sp_is_open K mg) [] E0 (tCons (tOp (rIx K) (tVar 0) (tVar 3)) tNil)))) (te := (tTup (tCons (tVar 3) (tCons (tOp (rIx K) (tVar 0) (tVar 3)) tNil)))) rfl sc_duels.nd rfl rfl (sw_true rfl rfl rfl (by decide +kernel)) (pi_list (pv 1)) (blkOk_by (N := ["shares", "order", "coming", "at"]) (sc := defScope s_duels) (by decide +kernel)) (fun _ _ _ _ _ => by exact (pg_name (i := 3) sc_duels.nd rfl (.inl rfl))) (fun _ _ _ _ _ => by exact pts_one (pt_val (pe_c (c_is_open T) hr (by decide) (by rfl) (pa_cons (pe_ix ix_seq (pv 0) (pv 3) (fun _ _ => rfl)) pa_nil)))) (fun _ _ _ _ _ => by exact (pe_tup (pa_cons (pv 3) (pa_cons (pe_ix ix_seq (pv 0) (pv 3) (fun _ _ => rfl)) pa_nil)))))
    (pss_one (ps_ret (pe_c (c_duel_node T) hr (by decide) (by rfl) (pa_cons pe_non (pa_cons (pv 2) (pa_cons (pe_lc (own := [("at", 3)]) (g := (gName 3)) (tt := (tTest (tOp (aEq K) (tOp (rIx K) (tVar 0) (tVar 3)) (tC (.ref (cA mg "SURE")))))) (te := (tVar 3)) rfl sc_duels.nd (pi_list (pv 1)) (blkOk_by (N := ["shares", "order", "coming", "at"]) (sc := defScope s_duels) (by decide +kernel)) (fun _ _ _ _ _ => by exact (pg_name (i := 3) sc_duels.nd rfl (.inl rfl))) (fun _ _ _ _ _ => by exact pts_one (pt_cmpR (op_eqA hr) (pe_ix ix_seq (pv 0) (pv 3) (fun _ _ => rfl)) (pe_glob (v := .ref (cA mg "SURE")) (by rfl) T.m_SURE rfl) (nomark _))) (fun _ _ _ _ _ => by exact (pv 3))) pa_nil))))))), ?_⟩
  try simp only [cxOf_K, cxOf_K', cxOf_mg, cxOf_mg']
  unfold sp_duels at h
  split at h
  case h_2 => exact h.elim
  rename_i sa oa
  rw [show L2.start ["shares", "order", "coming", "at"] [V.ref sa, V.ref oa] = [some (V.ref sa), some (V.ref oa), none, none] from rfl]
  obtain ⟨P, L, S, ord, us, hs, hd, ⟨l1, l2, hb, hn⟩, ho, hol, hob, hNL, hT, q⟩ := h
  have hL : 0 < L := by omega
  have ix : ∀ {j : Nat} {a : Int} {H' : Hp}, Same H H' → ord[j]? = some a → ∃ t, SqT K H' t [.int (low (S.getD a.toNat 0) L).1, .int (low (S.getD a.toNat 0) L).2] ∧ ∀ Q : VK, Q (.ref t) H' → rIx K (.ref sa) (.int a) H' Q := fun {j a H'} s ha => by
    have h2 := hob a (List.mem_of_getElem? ha)
    obtain ⟨t, h3, h4⟩ := shA_at hd (i := a.toNat) (by omega)
    exact ⟨t, s.seqT h4, fun Q q => L_ixL (s.seq hs) (atI_int h2.1 h3) q⟩
  walk_at "sts"
  refine L_rl ho ?_
  refine lc_ob (PosA K L) (fun _ _ _ _ s h => PosA.to h s) (fun H D us us' v a e h => PosA.mu h e) walk_list (fun i => (ord[i]?).bind fun a => if isO L (S.getD a.toNat 0) = true then some (a, S.getD a.toNat 0) else none) (by rw [List.length_map]; omega) (fun H' e => e.seq ho) ?_ ?_
  · rintro j x2 H5 H5' R1 R1' hj s5 ⟨rfl, hx2⟩ q1 q2
    rw [List.getElem?_map] at hx2
    obtain ⟨a, ha, rfl⟩ := Option.map_eq_some_iff.mp hx2
    obtain ⟨t, ht, hix⟩ := ix s5 ha
    walk_at "sts"
    refine ⟨rfl, ?_⟩
    walk_at "sts"
    refine hix _ ?_
    walk_at "sts"
    refine ⟨_, _, ht, ?_⟩
    rw [show decide (0 < (low (S.getD a.toNat 0) L).1 ∧ (low (S.getD a.toNat 0) L).1 < (low (S.getD a.toNat 0) L).2) = isO L (S.getD a.toNat 0) from by unfold isO; rw [decide_eq_decide]; exact low_opn hL]
    walk_at "sts"
    refine L_b (fun c => ?_) (fun c => ?_)
    · walk_at "sts"
      refine hix _ ?_
      walk_at "sts"
      walk_at "nw"
      rename_i p6 hp6 H6 s6 e6
      exact q1 _ (a, S.getD a.toNat 0) _ (by rw [ha]; show (if isO L (S.getD a.toNat 0) = true then some (a, S.getD a.toNat 0) else none) = _; rw [if_pos c]) s6 ⟨p6, t, rfl, .of e6, s6.seqT ht⟩
    · exact q2 _ (by rw [ha]; show (if isO L (S.getD a.toNat 0) = true then some (a, S.getD a.toNat 0) else none) = _; rw [if_neg (by rw [c]; decide)]) (.refl _)
  intro c1 H1 vs1 hc1 s1 e1 h1
  replace h1 : Paired (PosA K L H1) vs1 (comL L S ord) := by
    have e := fm_flt (fun a => isO L (S.getD a.toNat 0)) (fun a => ((a, S.getD a.toNat 0) : Ps)) ord
    rw [List.length_map] at h1
    unfold comL
    rw [← e]
    exact h1
  walk_at "sts"
  refine L_rl (s1.seq ho) ?_
  refine lc_fm walk_list (fun i => (ord[i]?).bind fun a => if decide (S.getD a.toNat 0 = L) = true then some (V.int a) else none) (by rw [List.length_map]; omega) (fun H' e => e.seq (s1.seq ho)) ?_ ?_
  · rintro j x2 H5 H5' R1 R1' hj s5 ⟨rfl, hx2⟩ q1 q2
    rw [List.getElem?_map] at hx2
    obtain ⟨a, ha, rfl⟩ := Option.map_eq_some_iff.mp hx2
    obtain ⟨t, ht, hix⟩ := ix (s1.trans s5) ha
    walk_at "sts"
    refine ⟨rfl, ?_⟩
    walk_at "sts"
    refine hix _ ?_
    walk_at "sts"
    refine L_eqD (d := d2 (low (S.getD a.toNat 0) L)) (e := d2 (1, 1)) (.tup ht (.cons (.int _) (.cons (.int _) .nil))) (.tup (.inr T.t_SURE) (.cons (.int _) (.cons (.int _) .nil))) (shp_tup (n := 0) (shp_cons shp_int (shp_cons shp_int shp_nil))).ok (shp_tup (n := 0) (shp_cons shp_int (shp_cons shp_int shp_nil))).ok ?_
    rw [eqv_d2, show decide (low (S.getD a.toNat 0) L = (1, 1)) = decide (S.getD a.toNat 0 = L) from by rw [decide_eq_decide]; exact low_one hL]
    walk_at "sts"
    refine L_b (fun c => ?_) (fun c => ?_)
    · walk_at "sts"
      exact q1 _ _ (by rw [ha]; show (if decide (S.getD a.toNat 0 = L) = true then some (V.int a) else none) = _; rw [if_pos c]) (.refl _)
    · exact q2 _ (by rw [ha]; show (if decide (S.getD a.toNat 0 = L) = true then some (V.int a) else none) = _; rw [if_neg (by rw [c]; decide)]) (.refl _)
  intro c2 H2 hc2 s2 e2
  replace e2 : H2 c2 = some (.lst ((kepL L S ord).map V.int)) := by
    have e := fm_flt (fun a => decide (S.getD a.toNat 0 = L)) V.int ord
    rw [List.length_map] at e2
    unfold kepL
    rw [← e]
    exact e2
  have ev2 : Ev (tabsL K mg) H H2 := .same (s1.trans s2)
  walk_at "sts"
  refine q_duel ⟨P, L, none, comL L S ord, kepL L S ord, rfl, ⟨hNL.new hc1, vs1, s2 _ _ e1, paired_imp2 (fun _ _ h => PosA.to h s2) h1⟩, ⟨hNL.new (s1.free hc2), e2⟩, ⟨l1, l2, ?_, ?_⟩, hNL.ev ev2, ev2.tb hT, q.ev ev2⟩
  · intro p hp
    replace hp : p ∈ comL L S ord := hp
    unfold comL at hp
    obtain ⟨a, ha, rfl⟩ := List.mem_map.mp hp
    have h3 := (List.mem_filter.mp ha).2
    unfold isO at h3
    exact (decide_eq_true_iff.mp h3 : 0 < S.getD a.toNat 0 ∧ S.getD a.toNat 0 < L)
  · show (comL L S ord).length + (kepL L S ord).length ≤ 24
    have key : ∀ l : List Int, (comL L S l).length + (kepL L S l).length ≤ l.length := by
      intro l
      unfold comL kepL
      rw [List.length_map]
      induction l with
      | nil => simp
      | cons a l ih =>
        rw [List.filter_cons, List.filter_cons, List.length_cons]
        unfold isO at ih ⊢
        generalize S.getD a.toNat 0 = v
        by_cases z : v = L
        · rw [if_neg (by rw [decide_eq_true_iff]; omega), if_pos (by rw [decide_eq_true_iff]; exact z), List.length_cons]
          omega
        · rw [if_neg (c := decide (v = L) = true) (by rw [decide_eq_true_iff]; exact z)]
          split
          · rw [List.length_cons]; omega
          · omega
    have := key ord
    omega
def shR (L : Int) (S : List Int) (a : Int) : Rat := ((S.getD a.toNat 0 : Int) : Rat) / L
theorem shQ_at {K : PySem.W.Frag} {L : Int} {S : List Int} {H : Hp} {us : List V} (hL : 0 < L) (h : DpAll K H us (S.map fun s => d2 (low s L))) {a : Int} (ha : 0 ≤ a ∧ a < S.length) : ∃ t, us[a.toNat]? = some (.ref t) ∧ SqT K H t [.int (qt (shR L S a)).1, .int (qt (shR L S a)).2] := by
  have hs : S[a.toNat]? = some (S.getD a.toNat 0) := by
    rw [List.getD_eq_getElem?_getD, List.getElem?_eq_getElem (by omega)]
    rfl
  obtain ⟨v, h1, h2⟩ := h.at (i := a.toNat) (d := d2 (low (S.getD a.toNat 0) L)) (by rw [List.getElem?_map, hs]; rfl)
  obtain ⟨t, rfl, ht⟩ := of_d2 h2
  rw [low_qt hL rfl] at ht
  exact ⟨t, h1, ht⟩
def matG (n : Nat) (G : Int → Int → Rat) : List (List (Int × Int)) := (List.range n).map fun i : Nat => (List.range n).map fun j : Nat => qt (G i j)
def matD (L : Int) (S ord : List Int) : List (List (Int × Int)) := matG S.length (stB (shR L S) ord ord.length).G
/-- a grid of n by n of fractions in the heap, its rows new, and a bout beside it -/
structure DM (K : PySem.W.Frag) (mg : Str → Option Value) (H0 H : Hp) (F : Addr) (os : List Addr) (x di du : Addr) (n : Nat) (G : Int → Int → Rat) (ks : List Int) (I U : Int → Rat) (M : Rat) (kvi kvu : List (Key × V)) (h : HO) : Prop where
  same : Same H0 H
  nF : H0 F = none
  nx : H0 x = none
  ni : H0 di = none
  nu : H0 du = none
  f : H F = some (.lst (os.map V.ref))
  rows : RowsN K H0 H F os (matG n G)
  x : ∃ dx tm, H x = some (.ins (cA mg "Bout") dx [("ins", .ref di), ("ups", .ref du), ("much", .ref tm)]) ∧ SqT K H tm [.int (qt M).1, .int (qt M).2]
  hi : H di = some h
  hu : H du = some (.dK kvu)
  pi_ : Paired (Q2k K I H) kvi ks
  pu : Paired (Q2k K U H) kvu ks
  nd : di ≠ du
section
variable {K : PySem.W.Frag} {mg : Str → Option Value} {H0 H H' : Hp} {F : Addr} {os : List Addr} {x di du : Addr} {n : Nat} {G : Int → Int → Rat} {ks : List Int} {I U : Int → Rat} {M : Rat} {kvi kvu : List (Key × V)} {h : HO}
theorem DM.to (d : DM K mg H0 H F os x di du n G ks I U M kvi kvu h) (s : Same H H') : DM K mg H0 H' F os x di du n G ks I U M kvi kvu h := by
  obtain ⟨dx, tm, e1, e2⟩ := d.x
  exact ⟨d.same.trans s, d.nF, d.nx, d.ni, d.nu, s _ _ d.f, d.rows.same s, ⟨dx, tm, s _ _ e1, s.seqT e2⟩, s _ _ d.hi, s _ _ d.hu, paired_imp2 (fun _ _ h => Q2k.to h s) d.pi_, paired_imp2 (fun _ _ h => Q2k.to h s) d.pu, d.nd⟩
theorem DM.boutR (d : DM K mg H0 H F os x di du n G ks I U M kvi kvu h) (e : Rd H di (.dK kvi)) : BoutR K mg x di du ks I U M H := by
  obtain ⟨dx, tm, e1, e2⟩ := d.x
  exact ⟨dx, tm, e1, ⟨kvi, e, d.pi_⟩, ⟨kvu, .inl d.hu, d.pu⟩, e2⟩
theorem DM.boutA (d : DM K mg H0 H F os x di du n G ks I U M kvi kvu (.dK kvi)) : BoutA K mg x di du ks I U M H := by
  obtain ⟨dx, tm, e1, e2⟩ := d.x
  exact ⟨dx, tm, e1, ⟨kvi, d.hi, d.pi_⟩, ⟨kvu, d.hu, d.pu⟩, e2, d.nd⟩
theorem DM.len (d : DM K mg H0 H F os x di du n G ks I U M kvi kvu h) : os.length = n := by
  have := d.rows.len
  unfold matG at this
  rw [List.length_map, List.length_range] at this
  exact this
/-- a row -/
theorem DM.row (d : DM K mg H0 H F os x di du n G ks I U M kvi kvu h) {i : Int} (hi : 0 ≤ i ∧ i < n) : ∃ o xs, os[i.toNat]? = some o ∧ H o = some (.lst xs) ∧ xs.length = n ∧ Paired (Q2 K H) xs ((List.range n).map fun j : Nat => qt (G i j)) := by
  have e : (matG n G)[i.toNat]? = some ((List.range n).map fun j : Nat => qt (G i j)) := by
    unfold matG
    rw [List.getElem?_map, List.getElem?_range (by omega)]
    show some ((List.range n).map fun j : Nat => qt (G ((i.toNat : Nat) : Int) j)) = _
    rw [show ((i.toNat : Nat) : Int) = i by omega]
  obtain ⟨o, h1, xs, h2, h3⟩ := paired_of d.rows.at_ e
  exact ⟨o, xs, h1, h2, by rw [Paired.length h3, List.length_map, List.length_range], h3⟩
theorem paired_ext {α β : Type} {F : α → β → Prop} : ∀ {xs : List α} {ys : List β}, xs.length = ys.length → (∀ (i : Nat) (x : α) (y : β), xs[i]? = some x → ys[i]? = some y → F x y) → Paired F xs ys
  | [], [], _, _ => .nil
  | [], _ :: _, h, _ => nomatch h
  | _ :: _, [], h, _ => nomatch h
  | x :: xs, y :: ys, h, k => .cons (k 0 x y rfl rfl) (paired_ext (Nat.succ.inj h) fun i a b e1 e2 => k (i + 1) a b e1 e2)
theorem paired_both {α β : Type} {F : α → β → Prop} {xs : List α} {ys : List β} {i : Nat} {x : α} {y : β} (p : Paired F xs ys) (e1 : xs[i]? = some x) (e2 : ys[i]? = some y) : F x y := by
  obtain ⟨y', e3, h⟩ := paired_nth p e1
  rw [e2] at e3
  cases e3
  exact h
theorem matG_at {n k : Nat} {G : Int → Int → Rat} {r : List (Int × Int)} (h : (matG n G)[k]? = some r) : k < n ∧ r = (List.range n).map fun j : Nat => qt (G k j) := by
  unfold matG at h
  rw [List.getElem?_map] at h
  obtain ⟨a, ha, rfl⟩ := Option.map_eq_some_iff.mp h
  have hk : k < n := by
    have := (List.getElem?_eq_some_iff.mp ha).1
    rwa [List.length_range] at this
  rw [List.getElem?_range hk] at ha
  cases ha
  exact ⟨hk, rfl⟩
theorem row_at {n k : Nat} {g : Nat → Int × Int} {r : Int × Int} (h : ((List.range n).map g)[k]? = some r) : k < n ∧ r = g k := by
  rw [List.getElem?_map] at h
  obtain ⟨a, ha, rfl⟩ := Option.map_eq_some_iff.mp h
  have hk : k < n := by
    have := (List.getElem?_eq_some_iff.mp ha).1
    rwa [List.length_range] at this
  rw [List.getElem?_range hk] at ha
  cases ha
  exact ⟨hk, rfl⟩
theorem row_ofI {n : Nat} {k : Int} {g : Nat → Int × Int} (h : 0 ≤ k ∧ k < n) : ((List.range n).map g)[k.toNat]? = some (g k.toNat) := by
  rw [List.getElem?_map, List.getElem?_range (by omega)]
  rfl
/-- a place set -/
theorem DM.set (d : DM K mg H0 H F os x di du n G ks I U M kvi kvu h) (hh : ∀ l, h ≠ .lst l) {i j : Int} (hi : 0 ≤ i ∧ i < n) (hj : 0 ≤ j ∧ j < n) {o t : Addr} {xs : List V} {r : Rat} (ho : os[i.toNat]? = some o) (e : H o = some (.lst xs)) (ht : SqT K H t [.int (qt r).1, .int (qt r).2]) : DM K mg H0 (upd H o (.lst (xs.set j.toNat (.ref t)))) F os x di du n (fun a b => if a = i ∧ b = j then r else G a b) ks I U M kvi kvu h := by
  obtain ⟨dx, tm, e1, e2⟩ := d.x
  have hom := List.mem_of_getElem? ho
  have nw := d.rows.new o hom
  have nx : x ≠ o := fun z => by rw [z, e] at e1; cases e1
  have ni : di ≠ o := fun z => by have := d.hi; rw [z, e] at this; exact hh _ (Option.some.inj this).symm
  have nu : du ≠ o := fun z => by have := d.hu; rw [z, e] at this; cases this
  have kq : ∀ {f : Int → Rat} {kv : Key × V} {k : Int}, Q2k K f H kv k → Q2k K f (upd H o (.lst (xs.set j.toNat (.ref t)))) kv k := fun ⟨h1, t, h2, h3⟩ => ⟨h1, t, h2, sqT_upd e h3⟩
  refine ⟨same_mut d.same nw.1, d.nF, d.nx, d.ni, d.nu, by rw [upd_ne nw.2.symm]; exact d.f, ⟨d.rows.nd, d.rows.new, ?_⟩, ⟨dx, tm, by rw [upd_ne nx]; exact e1, sqT_upd e e2⟩, by rw [upd_ne ni]; exact d.hi, by rw [upd_ne nu]; exact d.hu, paired_imp2 (fun _ _ h => kq h) d.pi_, paired_imp2 (fun _ _ h => kq h) d.pu, d.nd⟩
  refine paired_ext (by rw [d.len]; unfold matG; rw [List.length_map, List.length_range]) fun k o' row h1 h2 => ?_
  obtain ⟨hk, rfl⟩ := matG_at h2
  have e3 : (matG n G)[k]? = some ((List.range n).map fun j : Nat => qt (G k j)) := by
    unfold matG
    rw [List.getElem?_map, List.getElem?_range hk]
    rfl
  obtain ⟨ys, y1, y2⟩ := paired_both d.rows.at_ h1 e3
  by_cases c : o' = o
  · subst c
    have hki : k = i.toNat := by
      have hl := d.len
      have := (List.getElem?_inj (i := k) (j := i.toNat) (by omega) d.rows.nd).mp (by rw [h1, ho])
      exact this
    rw [e] at y1
    cases y1
    have hxl : xs.length = n := by rw [Paired.length y2, List.length_map, List.length_range]
    refine ⟨_, upd_same, paired_ext (by rw [List.length_set, List.length_map, List.length_range]; exact hxl) fun b v p b1 b2 => ?_⟩
    obtain ⟨hb, rfl⟩ := row_at b2
    by_cases cb : b = j.toNat
    · rw [cb, List.getElem?_set_self (by omega)] at b1
      cases b1
      rw [if_pos ⟨by omega, by omega⟩]
      exact ⟨t, rfl, sqT_upd e ht⟩
    · rw [List.getElem?_set_ne (fun z => cb z.symm)] at b1
      rw [if_neg fun z => cb (by omega)]
      exact Q2.mu (paired_both y2 b1 (by rw [List.getElem?_map, List.getElem?_range hb]; rfl)) e
  · have hki : k ≠ i.toNat := fun z => by
      rw [z, ho] at h1
      exact c (Option.some.inj h1).symm
    refine ⟨ys, by rw [upd_ne c]; exact y1, ?_⟩
    have er : ((List.range n).map fun b : Nat => qt (if (k : Int) = i ∧ (b : Int) = j then r else G k b)) = (List.range n).map fun b : Nat => qt (G k b) := by
      refine List.map_congr_left fun b _ => ?_
      rw [if_neg fun z => hki (by omega)]
    rw [er]
    exact paired_imp2 (fun _ _ h => Q2.mu h e) y2
/-- the keys of the bout's dict held by a loop, and let go -/
theorem DM.held (d : DM K mg H0 H F os x di du n G ks I U M kvi kvu h) {h2 : HO} (hh : ∀ l, h ≠ .lst l) (hd : ∀ l, h ≠ .tup l) (hf : ∀ o l, h ≠ .frz o (.tup l)) (hx : ∀ C d l, h ≠ .ins C d l) : DM K mg H0 (upd H di h2) F os x di du n G ks I U M kvi kvu h2 := by
  obtain ⟨dx, tm, e1, e2⟩ := d.x
  have kt : ∀ {a : Addr} {xs : List V}, SqT K H a xs → SqT K (upd H di h2) a xs := fun {a xs} q => by
    rcases q with (q | ⟨o', q⟩) | q
    · exact .inl (.inl (by rw [upd_ne fun z => by rw [z, d.hi] at q; exact hd _ (Option.some.inj q)]; exact q))
    · exact .inl (.inr ⟨o', by rw [upd_ne fun z => by rw [z, d.hi] at q; exact hf _ _ (Option.some.inj q)]; exact q⟩)
    · exact .inr q
  have kq : ∀ {f : Int → Rat} {kv : Key × V} {k : Int}, Q2k K f H kv k → Q2k K f (upd H di h2) kv k := fun ⟨h1, t, e, h3⟩ => ⟨h1, t, e, kt h3⟩
  have k2 : ∀ {v : V} {p : Int × Int}, Q2 K H v p → Q2 K (upd H di h2) v p := fun ⟨t, e, h3⟩ => ⟨t, e, kt h3⟩
  refine ⟨same_mut d.same d.ni, d.nF, d.nx, d.ni, d.nu, ?_, ⟨d.rows.nd, d.rows.new, ?_⟩, ⟨dx, tm, ?_, kt e2⟩, upd_same, ?_, paired_imp2 (fun _ _ h => kq h) d.pi_, paired_imp2 (fun _ _ h => kq h) d.pu, d.nd⟩
  · rw [upd_ne fun z => by have := d.f; rw [z, d.hi] at this; exact hh _ (Option.some.inj this)]
    exact d.f
  · refine paired_imp2 (fun o r ⟨xs, h1, h2⟩ => ⟨xs, ?_, paired_imp2 (fun _ _ h => k2 h) h2⟩) d.rows.at_
    rw [upd_ne fun z => by rw [z, d.hi] at h1; exact hh _ (Option.some.inj h1)]
    exact h1
  · rw [upd_ne fun z => by rw [z, d.hi] at e1; exact hx _ _ _ (Option.some.inj e1)]
    exact e1
  · rw [upd_ne d.nd.symm]
    exact d.hu
theorem DM.after {ks' : List Int} {I' U' : Int → Rat} {M' : Rat} (d : DM K mg H0 H F os x di du n G ks I U M kvi kvu (.dK kvi)) (k : ∀ b o, H b = some o → (b ≠ di ∧ b ≠ du) → b ≠ x → H' b = some o) (b : BoutA K mg x di du ks' I' U' M' H') : ∃ kvi' kvu', DM K mg H0 H' F os x di du n G ks' I' U' M' kvi' kvu' (.dK kvi') := by
  obtain ⟨dx, tm, e1, e2⟩ := d.x
  obtain ⟨dx', tm', x1, ⟨kvi', i1, i2⟩, ⟨kvu', u1, u2⟩, m1, nd'⟩ := b
  have ko : ∀ b o, H b = some o → (∀ l, o ≠ .dK l) → (∀ C d l, o ≠ .ins C d l) → H' b = some o := fun b o hb n1 n2 => k b o hb ⟨(fun z => by rw [z, d.hi] at hb; exact n1 _ (Option.some.inj hb).symm), (fun z => by rw [z, d.hu] at hb; exact n1 _ (Option.some.inj hb).symm)⟩ (fun z => by rw [z, e1] at hb; exact n2 _ _ _ (Option.some.inj hb).symm)
  have kt : ∀ {a : Addr} {xs : List V}, SqT K H a xs → SqT K H' a xs := fun {a xs} q => by
    rcases q with (q | ⟨o', q⟩) | q
    · exact .inl (.inl (ko _ _ q (fun _ => nofun) (fun _ _ _ => nofun)))
    · exact .inl (.inr ⟨o', ko _ _ q (fun _ => nofun) (fun _ _ _ => nofun)⟩)
    · exact .inr q
  have k2 : ∀ {v : V} {p : Int × Int}, Q2 K H v p → Q2 K H' v p := fun ⟨t, e, h3⟩ => ⟨t, e, kt h3⟩
  refine ⟨kvi', kvu', fun b o hb => k b o (d.same _ _ hb) ⟨(fun z => by rw [z, d.ni] at hb; cases hb), (fun z => by rw [z, d.nu] at hb; cases hb)⟩ (fun z => by rw [z, d.nx] at hb; cases hb), d.nF, d.nx, d.ni, d.nu, ko _ _ d.f (fun _ => nofun) (fun _ _ _ => nofun), ⟨d.rows.nd, d.rows.new, ?_⟩, ⟨dx', tm', x1, m1⟩, i1, u1, i2, u2, nd'⟩
  exact paired_imp2 (fun o r ⟨xs, h1, h2⟩ => ⟨xs, ko _ _ h1 (fun _ => nofun) (fun _ _ _ => nofun), paired_imp2 (fun _ _ h => k2 h) h2⟩) d.rows.at_
end
/-- the grid behind some of those there already -/
def grJ (G : Int → Int → Rat) (t : Int → Rat → Rat) (ks : List Int) (a : Int) (m : Rat) : Int → Int → Rat := fun x y => if x = a ∧ y ∈ ks then t y m else if y = a ∧ x ∈ ks then t x m else G x y
theorem BInv.of_eq {L : Int} {n : Nat} {ks : List Int} {b b' : BS} (h : BInv L n ks b) (e1 : b'.I = b.I) (e2 : b'.U = b.U) (e3 : b'.M = b.M) : BInv L n ks b' := ⟨by rw [e3]; exact h.t, by rw [e1, e2]; exact h.d, by rw [e1, e2]; exact h.r⟩
theorem grJ_nil {G : Int → Int → Rat} {t : Int → Rat → Rat} {a : Int} {m : Rat} : grJ G t [] a m = G := by
  funext x y
  unfold grJ
  rw [if_neg (fun z => nomatch z.2), if_neg (fun z => nomatch z.2)]
theorem grJ_put {G : Int → Int → Rat} {t : Int → Rat → Rat} {a b : Int} {m : Rat} {ks : List Int} (hb : b ≠ a) (ha : a ∉ ks) : (fun x y => if x = b ∧ y = a then t b m else (fun x y => if x = a ∧ y = b then t b m else grJ G t ks a m x y) x y) = grJ G t (ks ++ [b]) a m := by
  funext x y
  unfold grJ
  simp only [List.mem_append, List.mem_singleton]
  by_cases c1 : x = a
  · subst c1
    by_cases c2 : y = b
    · subst c2
      simp [Ne.symm hb]
    · simp [Ne.symm hb, c2, ha]
  · by_cases c2 : y = a
    · subst c2
      by_cases c3 : x = b
      · subst c3
        simp
        exact fun z => absurd z c1
      · simp [c1, c3]
    · simp [c1, c2]
def sp_duel_matrix (K : PySem.W.Frag) (mg : Str → Option Value) : Sp := fun vs H Q _ => match vs with | [.ref sa, .ref oa] => ∃ (L : Int) (S ord : List Int) (us : List V), SqL K H sa us ∧ DpAll K H us (S.map fun s => d2 (low s L)) ∧ ShOk L S ∧ SqL K H oa (ord.map V.int) ∧ ord.Perm (upN S.length) ∧ ∀ p H' os, H p = none → Same H H' → H' p = some (.lst (os.map V.ref)) → RowsN K H H' p os (matD L S ord) → Q (.ref p) H' | _ => False
theorem q_duel_matrix {H : Hp} {Q : VK} {E : XK} {sa : Addr} {oa : Addr} (q : ∃ (L : Int) (S ord : List Int) (us : List V), SqL K H sa us ∧ DpAll K H us (S.map fun s => d2 (low s L)) ∧ ShOk L S ∧ SqL K H oa (ord.map V.int) ∧ ord.Perm (upN S.length) ∧ ∀ p H' os, H p = none → Same H H' → H' p = some (.lst (os.map V.ref)) → RowsN K H H' p os (matD L S ord) → Q (.ref p) H') : sp_duel_matrix K mg [.ref sa, .ref oa] H Q E := q
local macro_rules | `(tactic| walk_at "op") => `(tactic| with_reducible refine q_duel_matrix ?_)
theorem c_duel_matrix (T : Txt K mg base) : Cal P w K mg base 6 "duel_matrix" (sp_duel_matrix K mg) := by
  refine T.d_duel_matrix.cal (k := 5) sc_duel_matrix (by intro vs H Q E h; unfold sp_duel_matrix at h; split at h <;> first | rfl | exact h.elim) fun f cdv A outer s H vs Q E hr h => ?_
  refine ⟨_, (pss_cons (ps_setLc (i := 3) (own := [("one", 7)]) (g := (gName 7)) (tt := tYes) (te := (tLc (iList K (tVar 0)) (gName 2) tYes (tC (.ref (cA mg "NOUGHT"))) [2])) rfl sc_duel_matrix.nd rfl rfl (sw_true rfl rfl rfl (by decide +kernel)) (pi_list (pv 0)) (blkOk_by (N := ["shares", "order", "other", "found", "bout", "at", "much", "one"]) (sc := defScope s_duel_matrix) (by decide +kernel)) (fun _ _ _ _ _ => by exact (pg_name (i := 7) sc_duel_matrix.nd rfl (.inl rfl))) (fun _ _ _ _ _ => pts_nil) (fun _ _ _ _ _ => by exact (pe_lc (own := [("other", 2)]) (g := (gName 2)) (tt := tYes) (te := (tC (.ref (cA mg "NOUGHT")))) rfl sc_duel_matrix.nd (pi_list (pv 0)) (blkOk_by (by rfl)) (fun _ _ _ _ _ => by exact (pg_name (i := 2) sc_duel_matrix.nd rfl (.inl rfl))) (fun _ _ _ _ _ => pts_nil) (fun _ _ _ _ _ => by exact (pe_glob (v := .ref (cA mg "NOUGHT")) (by rfl) T.m_NOUGHT rfl)))))
    (pss_cons (ps_set (i := 4) sc_duel_matrix.nd rfl (.inl rfl) (pe_mk0 (m_Bout T) hr (by decide) (by rfl)))
    (pss_cons (ps_for PassesOwn.never rfl (pi_list (pv 1)) (pg_name (i := 5) sc_duel_matrix.nd rfl (.inl rfl))
    (pss_cons (ps_set (i := 6) sc_duel_matrix.nd rfl (.inl rfl) (pe_ix ix_seq (pv 0) (pv 5) (fun _ _ => rfl)))
    (pss_cons (ps_lock (ps_for PassesOwn.never rfl (pi_keys (pe_fld (pv 4) rfl)) (pg_name (i := 2) sc_duel_matrix.nd rfl (.inl rfl))
    (pss_cons (ps_asg (pe_mt (c_Bout_together T) hr (by decide) (pv 4) (pa_cons (pv 2) (pa_cons (pv 6) pa_nil))) (pg_sub (pe_ix ix_seq (pv 3) (pv 5) (fun _ _ => rfl)) (pv 2) set_list))
    (pss_one (ps_asg (pe_ix ix_seq (pe_ix ix_seq (pv 3) (pv 5) (fun _ _ => rfl)) (pv 2) (fun _ _ => rfl)) (pg_sub (pe_ix ix_seq (pv 3) (pv 2) (fun _ _ => rfl)) (pv 5) set_list))))))
    (pss_cons (ps_asg (pv 6) (pg_sub (pe_ix ix_seq (pv 3) (pv 5) (fun _ _ => rfl)) (pv 5) set_list))
    (pss_one (ps_if (pt_val (pe_c (c_is_open T) hr (by decide) (by rfl) (pa_cons (pv 6) pa_nil)))
    (pss_one (ps_expr (pe_mt (c_Bout_come T) hr (by decide) (pv 4) (pa_cons (pv 5) (pa_cons (pv 6) pa_nil)))))
    (pss_cons (ps_dput (hu_of hr) (pe_fld (pv 4) rfl) (pv 5) (pv 6) rfl)
    (pss_one (ps_dput (hu_of hr) (pe_fld (pv 4) rfl) (pv 5) (pe_glob (v := .ref (cA mg "NOUGHT")) (by rfl) T.m_NOUGHT rfl) rfl)))))))))
    (pss_one (ps_ret (pv 3)))))), ?_⟩
  try simp only [cxOf_K, cxOf_K', cxOf_mg, cxOf_mg']
  unfold sp_duel_matrix at h
  split at h
  case h_2 => exact h.elim
  rename_i sa oa
  rw [show L2.start ["shares", "order", "other", "found", "bout", "at", "much", "one"] [V.ref sa, V.ref oa] = [some (V.ref sa), some (V.ref oa), none, none, none, none, none, none] from rfl]
  obtain ⟨L, S, ord, us, hs, hd, ⟨l1, l2, hb, hn⟩, ho, hp, q⟩ := h
  walk_at "sts"
  have hul : us.length = S.length := by have := hd.len; rwa [List.length_map] at this
  refine ⟨sa, rfl, ⟨_, hs⟩, ?_⟩
  refine lc_rows (K := K) walk_list (fun _ => (List.range S.length).map fun _ : Nat => qt 0) (by omega) (fun _ s => s.seq hs) ?_ ?_
  · rintro i x1 H2 H2' R R' hi s2 ⟨rfl, _⟩ r1
    walk_at "sts"
    refine ⟨rfl, ?_⟩
    walk_at "sts"
    refine ⟨sa, rfl, ⟨_, s2.seq hs⟩, ?_⟩
    refine lc_ob (Q2 K) (fun _ _ _ _ s h => Q2.same h s) (fun H D us us' v a e h => Q2.mu h e) walk_list (fun j => some (qt 0)) (by omega) (fun _ s => s.seq (s2.seq hs)) ?_ ?_
    · rintro j x2 H3 H3' R1 R1' hj s3 ⟨rfl, _⟩ q1 q2
      walk_at "sts"
      refine ⟨rfl, ?_⟩
      walk_at "sts"
      exact q1 _ _ _ rfl (Same.refl _) ⟨_, rfl, .inr T.t_NOUGHT⟩
    intro p4 H4 vs4 hp4 s4 e4 h4
    rw [hul, fm_some] at h4
    exact r1 p4 vs4 H4 s4 hp4 e4 h4
  intro F H1 os hF s1 e1 d1
  rw [hul] at d1
  walk_at "sts"
  have dm0 : ∀ x dx, H1 x = none → H1 dx = none → dx ≠ x → ∀ di du H3, (∀ b o, (L2.upd (L2.upd H1 dx (.own x)) x (.ins (cA mg "Bout") dx [])) b = some o → b ≠ x → H3 b = some o) → H3 x = some (.ins (cA mg "Bout") dx [("ins", .ref di), ("ups", .ref du), ("much", .ref (cA mg "NOUGHT"))]) → H3 di = some (.dK []) → H3 du = some (.dK []) → di ≠ du → (L2.upd (L2.upd H1 dx (.own x)) x (.ins (cA mg "Bout") dx [])) di = none → (L2.upd (L2.upd H1 dx (.own x)) x (.ins (cA mg "Bout") dx [])) du = none → DM K mg H H3 F os x di du S.length (fun _ _ => 0) [] (fun _ => 0) (fun _ => 0) 0 [] [] (.dK []) := fun x dx nx nd ne di du H3 k3 x3 d3 u3 ndd ni nu => by
    have sN : Same H1 (L2.upd (L2.upd H1 dx (.own x)) x (.ins (cA mg "Bout") dx [])) := fun b o hb => by
      have z1 : b ≠ x := fun z => by rw [z, nx] at hb; cases hb
      have z2 : b ≠ dx := fun z => by rw [z, nd] at hb; cases hb
      rw [upd_ne z1, upd_ne z2]
      exact hb
    have s3 : Same H1 H3 := fun b o hb => k3 b o (sN b o hb) fun z => by rw [z, nx] at hb; cases hb
    exact ⟨s1.trans s3, hF, s1.free nx, s1.free (sN.free ni), s1.free (sN.free nu), s3 _ _ e1, d1.same s3, ⟨dx, _, x3, .inr T.t_NOUGHT⟩, d3, u3, .nil, .nil, ndd⟩
  refine fun x dx nx nd ne => ⟨dx, upd_same, fun di du H3 k3 x3 d3 u3 ndd ni nu => ⟨rfl, ?_⟩⟩
  have dm := dm0 x dx nx nd ne di du H3 k3 x3 d3 u3 ndd ni nu
  clear dm0 k3 x3 d3 u3 ni nu nx nd ne
  walk_at "sts"
  refine ⟨oa, rfl, ⟨_, dm.same.seq ho⟩, ?_⟩
  have hr0 : ∀ a ∈ ord, 0 ≤ a ∧ a < S.length := fun a h => by
    obtain ⟨j, hj, rfl⟩ := List.mem_map.mp (hp.mem_iff.mp h)
    have := List.mem_range.mp hj
    omega
  have hon : ord.Nodup := hp.nodup_iff.mpr (List.Pairwise.map _ (fun a b z => by omega) List.nodup_range)
  have hol : ord.length = S.length := by rw [hp.length_eq]; unfold upN; rw [List.length_map, List.length_range]
  refine f_it walk_list (fun i σ' H' => ∃ (v2 v5 v6 : Option V) (kvi kvu : List (Key × V)), σ' = [some (.ref sa), some (.ref oa), v2, some (.ref F), some (.ref x), v5, v6, none] ∧ DM K mg H H' F os x di du S.length (stB (shR L S) ord i).G (ord.take i) (stB (shR L S) ord i).I (stB (shR L S) ord i).U (stB (shR L S) ord i).M kvi kvu (.dK kvi) ∧ BInv L i (ord.take i) (stB (shR L S) ord i)) ⟨_, _, _, [], [], rfl, dm, .start (by omega)⟩ (fun _ _ _ _ ⟨_, _, _, _, _, _, d, _⟩ => d.same.seq ho) ?_ ?_
  · rintro i y σ' Hy H4 hi ⟨v2, v5, v6, kvi, kvu, rfl, dm, bi⟩ ⟨rfl, hx2⟩
    rw [List.getElem?_map] at hx2
    obtain ⟨a, ha, rfl⟩ := Option.map_eq_some_iff.mp hx2
    walk_at "sts"
    have ham := List.mem_of_getElem? ha
    have har := hr0 a ham
    have hin : i < S.length := by rw [List.length_map] at hi; omega
    have hna : a ∉ ord.take i := fun z => by
      obtain ⟨j, hj, e⟩ := List.getElem_of_mem z
      rw [List.getElem_take] at e
      rw [List.length_take] at hj
      have := (List.getElem?_inj (i := j) (j := i) (by omega) hon).mp (by rw [ha, List.getElem?_eq_getElem (by omega), e])
      omega
    have hndk : (ord.take i).Nodup := hon.sublist (List.take_sublist i ord)
    have htk : ord.take (i + 1) = ord.take i ++ [a] := by rw [List.take_succ, ha]; rfl
    have hst : stB (shR L S) ord (i + 1) = stepB (shR L S) (ord.take i) (stB (shR L S) ord i) a := by
      show (match ord[i]? with | some a => stepB (shR L S) (ord.take i) (stB (shR L S) ord i) a | none => stB (shR L S) ord i) = _
      rw [ha]
    obtain ⟨tm, ut, gm0⟩ := shQ_at (by omega) hd har
    obtain ⟨sv, hsv, sv0, sv1⟩ : ∃ s : Int, shR L S a = (s : Rat) / L ∧ 0 ≤ s ∧ s ≤ L := by
      refine ⟨S.getD a.toNat 0, rfl, ?_⟩
      rw [List.getD_eq_getElem?_getD, List.getElem?_eq_getElem (by omega)]
      exact hb _ (List.getElem_mem _)
    obtain ⟨bIU, bM, bm, M0, M1⟩ := bi.bounds l2 hsv sv0 sv1 (by omega)
    generalize hmE : shR L S a = m at *
    refine L_ixL (dm.same.seq hs) (atI_int har.1 ut) ?_
    walk_at "sts"
    refine ⟨di, .dK kvi, dm.hi, ?_, fun od => ?_⟩
    · exact trivial
    have dl := dm.held (h2 := .frz od (.dK kvi)) (fun _ => nofun) (fun _ => nofun) (fun _ _ => nofun) (fun _ _ _ => nofun)
    generalize L2.upd H4 di (.frz od (.dK kvi)) = H5 at dl ⊢
    walk_at "sts"
    obtain ⟨dx5, tm5, x5, m5⟩ := dl.x
    refine L_fldv x5 T.k_Bout T.na_Bout_ins rfl ?_
    refine L_rk dl.hi ?_
    have hkl : kvi.length = i := by rw [Paired.length dl.pi_, List.length_take]; omega
    refine f_it walk_keys (fun j σ' H' => ∃ (v2 : Option V), σ' = [some (.ref sa), some (.ref oa), v2, some (.ref F), some (.ref x), some (.int a), some (.ref tm), none] ∧ DM K mg H H' F os x di du S.length (grJ (stB (shR L S) ord i).G (togF (stB (shR L S) ord i).I (stB (shR L S) ord i).U (stB (shR L S) ord i).M) ((ord.take i).take j) a m) (ord.take i) (stB (shR L S) ord i).I (stB (shR L S) ord i).U (stB (shR L S) ord i).M kvi kvu (.frz od (.dK kvi))) ⟨_, rfl, by rw [List.take_zero, grJ_nil]; exact dl⟩ (fun _ _ _ _ ⟨_, _, d⟩ => d.hi) ?_ ?_
    · rintro j x6 σ' H6 H6' hj ⟨w2, rfl, dj⟩ ⟨rfl, k, v, hkv, rfl⟩
      obtain ⟨b, hb1, hb2, _⟩ := paired_nth dj.pi_ hkv
      subst hb2
      have hbm := List.mem_of_getElem? hb1
      have hbr := hr0 b (List.mem_of_mem_take hbm)
      have hba : b ≠ a := fun z => hna (z ▸ hbm)
      walk_at "sts"
      obtain ⟨dx6, tm6, x6h, m6⟩ := dj.x
      refine L_methv x6h rfl ?_
      walk_at "sts"
      refine ⟨di, du, _, _, _, _, m, dj.boutR (.inr ⟨od, dj.hi⟩), hbm, dj.same.seqT gm0, (bIU b hbm).1, (bIU b hbm).2, bM, bm, fun p7 H7 hp7 s7 e7 => ?_⟩
      have d7 := dj.to s7
      obtain ⟨o1, xs1, ho1, eo1, lo1, po1⟩ := d7.row har
      walk_at "sts"
      refine L_ixL (.of d7.f) (atI_int har.1 (by rw [List.getElem?_map, ho1]; rfl)) ?_
      walk_at "sts"
      refine L_setL eo1 (ixN_of hbr.1 (by omega)) ?_
      have d8 := d7.set (fun _ => nofun) har hbr ho1 eo1 (.of e7)
      generalize L2.upd H7 o1 _ = H8 at d8 ⊢
      obtain ⟨o2, xs2, ho2, eo2, lo2, po2⟩ := d8.row har
      obtain ⟨u2, hu2, t2, rfl, ht2⟩ := paired_of po2 (row_ofI hbr)
      walk_at "sts"
      refine L_ixL (.of d8.f) (atI_int har.1 (by rw [List.getElem?_map, ho2]; rfl)) ?_
      walk_at "sts"
      refine L_ixL (.of eo2) (atI_int hbr.1 hu2) ?_
      rw [if_pos ⟨rfl, by omega⟩] at ht2
      obtain ⟨o3, xs3, ho3, eo3, lo3, po3⟩ := d8.row hbr
      walk_at "sts"
      refine L_ixL (.of d8.f) (atI_int hbr.1 (by rw [List.getElem?_map, ho3]; rfl)) ?_
      walk_at "sts"
      refine L_setL eo3 (ixN_of har.1 (by omega)) ?_
      have d9 := d8.set (fun _ => nofun) hbr har ho3 eo3 ht2
      rw [grJ_put hba (fun z => hna (List.mem_of_mem_take z))] at d9
      refine ⟨_, rfl, ?_⟩
      rw [List.take_succ, hb1]
      exact d9
    · rintro σ' H6 ⟨w2, rfl, dj⟩
      have etk : (ord.take i).take kvi.length = ord.take i := by rw [hkl]; exact List.take_of_length_le (by rw [List.length_take]; omega)
      rw [etk] at dj
      refine ⟨dj.hi, ?_⟩
      have dl := dj.held (h2 := .dK kvi) (fun _ => nofun) (fun _ => nofun) (fun _ _ => nofun) (fun _ _ _ => nofun)
      generalize L2.upd H6 di (.dK kvi) = H7 at dl ⊢
      obtain ⟨o1, xs1, ho1, eo1, lo1, po1⟩ := dl.row har
      walk_at "sts"
      refine L_ixL (.of dl.f) (atI_int har.1 (by rw [List.getElem?_map, ho1]; rfl)) ?_
      walk_at "sts"
      refine L_setL eo1 (ixN_of har.1 (by omega)) ?_
      have d8 := dl.set (fun _ => nofun) har har ho1 eo1 (dl.same.seqT gm0)
      have eG : (fun x y => if x = a ∧ y = a then m else grJ (stB (shR L S) ord i).G (togF (stB (shR L S) ord i).I (stB (shR L S) ord i).U (stB (shR L S) ord i).M) (ord.take i) a m x y) = (stB (shR L S) ord (i + 1)).G := by
        rw [hst]
        unfold stepB grJ
        rw [hmE]
      rw [eG] at d8
      generalize L2.upd H7 o1 _ = H8 at d8 ⊢
      clear dl eG ho1 eo1 lo1 po1 dj dm
      walk_at "sts"
      refine ⟨_, _, d8.same.seqT gm0, ?_⟩
      walk_at "sts"
      rw [show decide (0 < (qt m).1 ∧ (qt m).1 < (qt m).2) = decide (opR m) from by rw [decide_eq_decide]; exact and_congr q_pos q_lt1]
      obtain ⟨dx8, tm8, x8, m8⟩ := d8.x
      have hLq := iq_pos (show 0 < L by omega)
      have hkul : kvu.length = i := by rw [Paired.length d8.pu, List.length_take]; omega
      refine L_d (fun c => ?_) (fun c => ?_)
      · have sp : 0 < sv := by
          rcases Int.lt_or_eq_of_le sv0 with z | z
          · exact z
          · have h1 := c.1
            rw [hsv, ← z] at h1
            exfalso
            have : ((0 : Int) : Rat) / L = 0 := by
              rw [Rat.intCast_zero, Rat.div_def, Rat.zero_mul]
            grind
        have sl : sv < L := by
          rcases Int.lt_or_eq_of_le sv1 with z | z
          · exact z
          · have h1 := c.2
            rw [hsv, z] at h1
            exfalso
            have : (L : Rat) / L = 1 := by grind
            grind
        obtain ⟨bf, bw, bi2⟩ := bi.come l2 hsv sp sl hna
        have eI : (stB (shR L S) ord (i + 1)).I = comeI (stB (shR L S) ord i).I (stB (shR L S) ord i).U (stB (shR L S) ord i).M a m := by
          rw [hst]
          show (if opR (shR L S a) then _ else _) = _
          rw [hmE, if_pos c]
        have eU : (stB (shR L S) ord (i + 1)).U = comeU (stB (shR L S) ord i).U (stB (shR L S) ord i).M a m := by
          rw [hst]
          show (if opR (shR L S a) then _ else _) = _
          rw [hmE, if_pos c]
        have eM : (stB (shR L S) ord (i + 1)).M = comeM (stB (shR L S) ord i).M m := by
          rw [hst]
          show (if opR (shR L S a) then _ else _) = _
          rw [hmE, if_pos c]
        walk_at "sts"
        refine L_methv x8 rfl ?_
        walk_at "sts"
        refine ⟨di, du, ord.take i, _, _, _, m, d8.boutA, hna, hndk, by rw [List.length_take]; omega, d8.same.seqT gm0, bIU, bM, bm, M0, c.1, c.2, M1, bf, bw, fun H9 k9 b9 => ?_⟩
        obtain ⟨kvi', kvu', d10⟩ := d8.after k9 b9
        walk_at "sts"
        refine ⟨_, _, _, kvi', kvu', rfl, ?_, ?_⟩
        · rw [htk, eI, eU, eM]
          exact d10
        · rw [htk]
          exact bi2.of_eq eI eU eM
      · have hm01 : m = 0 ∨ m = 1 := by
          rcases Int.lt_or_eq_of_le sv0 with z | z
          · rcases Int.lt_or_eq_of_le sv1 with z2 | z2
            · refine absurd ?_ c
              rw [hsv]
              exact ⟨div_pos' (iq_pos z) hLq, by rw [Rat.div_lt_iff hLq, Rat.one_mul]; exact Rat.intCast_lt_intCast.mpr z2⟩
            · refine .inr ?_
              rw [hsv, z2]
              grind
          · refine .inl ?_
            rw [hsv, ← z, Rat.intCast_zero, Rat.div_def, Rat.zero_mul]
        have bi2 := bi.shut hm01 hna
        have eI : (stB (shR L S) ord (i + 1)).I = setF (stB (shR L S) ord i).I a m := by
          rw [hst]
          show (if opR (shR L S a) then _ else _) = _
          rw [hmE, if_neg c]
        have eU : (stB (shR L S) ord (i + 1)).U = setF (stB (shR L S) ord i).U a 0 := by
          rw [hst]
          show (if opR (shR L S a) then _ else _) = _
          rw [hmE, if_neg c]
        have eM : (stB (shR L S) ord (i + 1)).M = (stB (shR L S) ord i).M := by
          rw [hst]
          show (if opR (shR L S a) then _ else _) = _
          rw [hmE, if_neg c]
        have nxi : x ≠ di := fun z => by rw [z, d8.hi] at x8; cases x8
        have nxu : x ≠ du := fun z => by rw [z, d8.hu] at x8; cases x8
        walk_at "sts"
        refine L_fldv x8 T.k_Bout T.na_Bout_ins rfl ?_
        walk_at "sts"
        refine L_dputv (k := Sum.inl a) rfl d8.hi (by omega) ?_
        have gm8 := d8.same.seqT gm0
        have pp1 := DictA.put (a := a) (r := m) d8.hi d8.pi_ gm8
        rw [if_neg hna] at pp1
        have x9 : L2.upd H8 di (.dK (putK kvi (Sum.inl a : Key) (.ref tm))) x = _ := (upd_ne nxi).trans x8
        have u9 : L2.upd H8 di (.dK (putK kvi (Sum.inl a : Key) (.ref tm))) du = _ := (upd_ne d8.nd.symm).trans d8.hu
        have m9 := sqT_updK (o := .dK (putK kvi (Sum.inl a : Key) (.ref tm))) d8.hi m8
        have pu9 : Paired (Q2k K (stB (shR L S) ord i).U (L2.upd H8 di (.dK (putK kvi (Sum.inl a : Key) (.ref tm))))) kvu (ord.take i) := paired_imp2 (fun _ _ h => Q2k.muK d8.hi h) d8.pu
        have k9 : ∀ b o, H8 b = some o → b ≠ di → L2.upd H8 di (.dK (putK kvi (Sum.inl a : Key) (.ref tm))) b = some o := fun b o hb n => (upd_ne n).trans hb
        generalize L2.upd H8 di (.dK (putK kvi (Sum.inl a : Key) (.ref tm))) = H9 at pp1 x9 u9 m9 pu9 k9 ⊢
        walk_at "sts"
        refine L_fldv x9 T.k_Bout T.na_Bout_ups rfl ?_
        walk_at "sts"
        refine L_dputv (k := Sum.inl a) rfl u9 (by omega) ?_
        have pp2 := DictA.put (a := a) (r := 0) u9 pu9 (.inr T.t_NOUGHT)
        rw [if_neg hna] at pp2
        obtain ⟨kvi', kvu', d10⟩ := d8.after (fun b o hb nk nx => (upd_ne nk.2).trans (k9 b o hb nk.1)) ⟨dx8, tm8, (upd_ne nxu).trans x9, DictA.muK u9 d8.nd pp1, pp2, sqT_updK u9 m9, d8.nd⟩
        walk_at "sts"
        refine ⟨_, _, _, kvi', kvu', rfl, ?_, ?_⟩
        · rw [htk, eI, eU, eM]
          exact d10
        · rw [htk]
          exact bi2.of_eq eI eU eM
  · rintro σ' H4 ⟨v2, v5, v6, kvi, kvu, rfl, dm, bi⟩
    rw [List.length_map] at dm
    walk_at "sts"
    exact q F H4 os hF dm.same dm.f dm.rows
/-! the law's own table of states: (who is up, which are in) with shares -/
abbrev Ky := Int × Int
abbrev Zt := List (Ky × Rat)
def bor (i j : Int) : Int := Builtin.bitOr i j
def evZ (g : Ky → Rat) : Zt → Rat
  | [] => 0
  | z :: Z => z.2 * g z.1 + evZ g Z
def addZ : Zt → Ky → Rat → Zt
  | [], k, v => [(k, 0 + v)]
  | z :: Z, k, v => if z.1 = k then (z.1, z.2 + v) :: Z else z :: addZ Z k v
def putZ (Z : Zt) (k : Ky) (v : Rat) : Zt := if 0 < v then addZ Z k v else Z
theorem evZ_add (g : Ky → Rat) : ∀ (Z : Zt) (k : Ky) (v : Rat), evZ g (addZ Z k v) = evZ g Z + v * g k
  | [], k, v => by
    show (0 + v) * g k + 0 = 0 + v * g k
    grind
  | z :: Z, k, v => by
    have ih := evZ_add g Z k v
    unfold addZ
    split
    · rename_i c
      subst c
      show (z.2 + v) * g z.1 + evZ g Z = z.2 * g z.1 + evZ g Z + v * g z.1
      grind
    · show z.2 * g z.1 + evZ g (addZ Z k v) = z.2 * g z.1 + evZ g Z + v * g k
      rw [ih]
      grind
theorem evZ_put (g : Ky → Rat) {Z : Zt} {k : Ky} {v : Rat} (h : 0 ≤ v) : evZ g (putZ Z k v) = evZ g Z + v * g k := by
  unfold putZ
  split
  · exact evZ_add g Z k v
  · have : v = 0 := by grind
    subst this
    grind
def kA (h s : Rat) (mk : Int) (k : Ky) : Ky := if h + s < 1 then k else (if h + s = 1 then 0 else mk, bor k.2 k.1)
def kB (h s : Rat) (mk : Int) (k : Ky) : Ky := if h + s < 1 then (mk, k.2) else (if h + s = 1 then 0 else k.1, bor k.2 mk)
def pA (h s : Rat) : Rat := if h + s < 1 then h / (h + s) else (1 - s) / (2 - (h + s))
def pB (h s : Rat) : Rat := if h + s < 1 then s / (h + s) else (1 - h) / (2 - (h + s))
def cmS (h s : Rat) (mk : Int) (acc : Zt) (z : Ky × Rat) : Zt := putZ (putZ acc (kA h s mk z.1) (z.2 * pA h s)) (kB h s mk z.1) (z.2 * pB h s)
def cmZ (h s : Rat) (mk : Int) (Z : Zt) : Zt := Z.foldl (cmS h s mk) []
structure HsOk (h s : Rat) : Prop where
  h0 : 0 ≤ h
  h1 : h < 1
  s0 : 0 < s
  s1 : s < 1
theorem HsOk.ab {h s : Rat} (k : HsOk h s) : 0 ≤ pA h s ∧ 0 ≤ pB h s ∧ pA h s + pB h s = 1 := by
  obtain ⟨h0, h1, s0, s1⟩ := k
  unfold pA pB
  split
  · have p : 0 < h + s := by grind
    refine ⟨div_nn h0 p, div_nn (by grind) p, ?_⟩
    have : h + s ≠ 0 := by grind
    grind
  · have p : 0 < 2 - (h + s) := by grind
    refine ⟨div_nn (by grind) p, div_nn (by grind) p, ?_⟩
    have : 2 - (h + s) ≠ 0 := by grind
    grind
/-- a functional pulled back -/
def stp (h s : Rat) (mk : Int) (g : Ky → Rat) (k : Ky) : Rat := pA h s * g (kA h s mk k) + pB h s * g (kB h s mk k)
theorem evZ_cm (g : Ky → Rat) {h s : Rat} {mk : Int} (k : HsOk h s) : ∀ (Z acc : Zt), (∀ z ∈ Z, 0 ≤ z.2) → evZ g (Z.foldl (cmS h s mk) acc) = evZ g acc + evZ (stp h s mk g) Z
  | [], acc, _ => by
    show evZ g acc = evZ g acc + 0
    grind
  | z :: Z, acc, p => by
    obtain ⟨a0, b0, ab⟩ := k.ab
    have z0 := p z List.mem_cons_self
    rw [List.foldl_cons, evZ_cm g k Z _ fun y hy => p y (List.mem_cons_of_mem _ hy)]
    unfold cmS
    rw [evZ_put g (Rat.mul_nonneg z0 b0), evZ_put g (Rat.mul_nonneg z0 a0)]
    show _ = evZ g acc + (z.2 * stp h s mk g z.1 + evZ (stp h s mk g) Z)
    unfold stp
    grind
theorem evZ_congr {g f : Ky → Rat} : ∀ {Z : Zt}, (∀ z ∈ Z, g z.1 = f z.1) → evZ g Z = evZ f Z
  | [], _ => rfl
  | z :: Z, h => by
    show z.2 * g z.1 + evZ g Z = z.2 * f z.1 + evZ f Z
    rw [h z List.mem_cons_self, evZ_congr fun y hy => h y (List.mem_cons_of_mem _ hy)]
theorem evZ_addf {g f : Ky → Rat} : ∀ {Z : Zt}, evZ (fun k => g k + f k) Z = evZ g Z + evZ f Z
  | [] => by show (0 : Rat) = 0 + 0; grind
  | z :: Z => by
    show z.2 * (g z.1 + f z.1) + evZ (fun k => g k + f k) Z = z.2 * g z.1 + evZ g Z + (z.2 * f z.1 + evZ f Z)
    rw [evZ_addf]
    grind
theorem evZ_mulf {g : Ky → Rat} {c : Rat} : ∀ {Z : Zt}, evZ (fun k => c * g k) Z = c * evZ g Z
  | [] => by show (0 : Rat) = c * 0; grind
  | z :: Z => by
    show z.2 * (c * g z.1) + evZ (fun k => c * g k) Z = c * (z.2 * g z.1 + evZ g Z)
    rw [evZ_mulf]
    grind
theorem mem_add : ∀ {Z : Zt} {k : Ky} {v : Rat} {z : Ky × Rat}, z ∈ addZ Z k v → (∃ y ∈ Z, z.1 = y.1 ∧ (z.2 = y.2 ∨ z.2 = y.2 + v)) ∨ (z.1 = k ∧ z.2 = 0 + v)
  | [], k, v, z, h => by
    rw [addZ, List.mem_singleton] at h
    exact .inr (by rw [h]; exact ⟨rfl, rfl⟩)
  | y :: Z, k, v, z, h => by
    unfold addZ at h
    split at h
    · rcases List.mem_cons.mp h with rfl | h
      · exact .inl ⟨y, List.mem_cons_self, rfl, .inr rfl⟩
      · exact .inl ⟨z, List.mem_cons_of_mem _ h, rfl, .inl rfl⟩
    · rcases List.mem_cons.mp h with rfl | h
      · exact .inl ⟨_, List.mem_cons_self, rfl, .inl rfl⟩
      · rcases mem_add h with ⟨w, hw, e⟩ | e
        · exact .inl ⟨w, List.mem_cons_of_mem _ hw, e⟩
        · exact .inr e
theorem keys_add : ∀ {Z : Zt} {k : Ky} {v : Rat}, (addZ Z k v).map (·.1) = if k ∈ Z.map (·.1) then Z.map (·.1) else Z.map (·.1) ++ [k]
  | [], k, v => rfl
  | y :: Z, k, v => by
    have ih := keys_add (Z := Z) (k := k) (v := v)
    unfold addZ
    split
    · rename_i c
      rw [List.map_cons, List.map_cons, if_pos (by rw [c]; exact List.mem_cons_self)]
    · rename_i c
      rw [List.map_cons, List.map_cons, ih]
      by_cases d : k ∈ Z.map (·.1)
      · rw [if_pos d, if_pos (List.mem_cons_of_mem _ d)]
      · rw [if_neg d, if_neg (by
          rw [List.mem_cons]
          rintro (z | z)
          · exact c z.symm
          · exact d z), List.cons_append]
/-- what is kept of a table: its keys are some, its shares have a bottom in common -/
structure ZInv (A : Ky → Prop) (D : Int) (Z : Zt) : Prop where
  nd : (Z.map (·.1)).Nodup
  key : ∀ z ∈ Z, A z.1
  pos : ∀ z ∈ Z, 0 < z.2 ∧ isI (z.2 * D)
theorem ZInv.put {A : Ky → Prop} {D : Int} {Z : Zt} {k : Ky} {v : Rat} (h : ZInv A D Z) (hk : A k) (hv : isI (v * D)) : ZInv A D (putZ Z k v) := by
  unfold putZ
  split
  · rename_i c
    refine ⟨?_, fun z hz => ?_, fun z hz => ?_⟩
    · rw [keys_add]
      split
      · exact h.nd
      · rename_i d
        rw [List.nodup_append]
        exact ⟨h.nd, by simp, fun a ha b hb => by rw [List.mem_singleton.mp hb]; exact fun e => d (e ▸ ha)⟩
    · rcases mem_add hz with ⟨y, hy, e, _⟩ | ⟨e, _⟩
      · rw [e]; exact h.key y hy
      · rw [e]; exact hk
    · rcases mem_add hz with ⟨y, hy, _, e | e⟩ | ⟨_, e⟩
      · rw [e]; exact h.pos y hy
      · obtain ⟨p1, p2⟩ := h.pos y hy
        rw [e]
        exact ⟨by grind, by rw [Rat.add_mul]; exact isI_add p2 hv⟩
      · rw [e]
        have e2 : 0 + v = v := by grind
        rw [e2]
        exact ⟨c, hv⟩
  · exact h
theorem ZInv.le1 {A : Ky → Prop} {D : Int} : ∀ {Z : Zt} {z : Ky × Rat}, (∀ z ∈ Z, 0 < z.2) → evZ (fun _ => 1) Z ≤ 1 → z ∈ Z → z.2 ≤ 1
  | y :: Z, z, h, e, hz => by
    have h0 : ∀ Y : Zt, (∀ z ∈ Y, 0 < z.2) → 0 ≤ evZ (fun _ => 1) Y := fun Y => by
      induction Y with
      | nil => intro _; show (0 : Rat) ≤ 0; grind
      | cons y Y ih =>
        intro h
        have h1 := ih fun z hz => h z (List.mem_cons_of_mem _ hz)
        have h2 := h y List.mem_cons_self
        show 0 ≤ y.2 * 1 + evZ (fun _ => 1) Y
        grind
    have e' : y.2 * 1 + evZ (fun _ => 1) Z ≤ 1 := e
    have h1 := h0 Z fun z hz => h z (List.mem_cons_of_mem _ hz)
    have h2 := h y List.mem_cons_self
    rcases List.mem_cons.mp hz with rfl | hz
    · grind
    · exact ZInv.le1 (A := A) (D := D) (fun z hz => h z (List.mem_cons_of_mem _ hz)) (by grind) hz
theorem bor_t : ∀ i ∈ [(0 : Int), 1, 2, 3], ∀ j ∈ [(0 : Int), 1, 2, 3], bor i j = (if i = j then i else if i = 0 then j else if j = 0 then i else 3) := by decide +kernel
def lstK (P : Int) : List Ky := if P = 0 then [(0, 0)] else if P = 1 then [(0, 0), (1, 0), (0, 1)] else if P = 2 then [(0, 0), (2, 0), (0, 2)] else [(0, 0), (1, 0), (0, 1), (2, 0), (0, 2), (1, 2), (2, 1), (0, 3)]
def AK (P : Int) (k : Ky) : Prop := k ∈ lstK P
theorem ak_moves : ∀ P ∈ [(0 : Int), 1, 2, 3], ∀ mk ∈ [(0 : Int), 1, 2], (mk = 0 ∨ bor P mk ≠ P) → bor P mk ∈ [(0 : Int), 1, 2, 3] ∧ ∀ k ∈ lstK P, k ∈ lstK (bor P mk) ∧ (mk, k.2) ∈ lstK (bor P mk) ∧ ((0, bor k.2 k.1) : Ky) ∈ lstK (bor P mk) ∧ (mk, bor k.2 k.1) ∈ lstK (bor P mk) ∧ ((0, bor k.2 mk) : Ky) ∈ lstK (bor P mk) ∧ (k.1, bor k.2 mk) ∈ lstK (bor P mk) := by decide +kernel
theorem ak_inj : ∀ P ∈ [(0 : Int), 1, 2, 3], ∀ mk ∈ [(0 : Int), 1, 2], (mk = 0 ∨ bor P mk ≠ P) → ∀ k ∈ lstK P, ∀ l ∈ lstK P, (k.1, bor k.2 mk) = (l.1, bor l.2 mk) → k = l := by decide +kernel
theorem ak_rg : ∀ P ∈ [(0 : Int), 1, 2, 3], ∀ k ∈ lstK P, 0 ≤ k.1 ∧ k.1 ≤ 2 ∧ 0 ≤ k.2 ∧ k.2 ≤ 3 := by decide +kernel
theorem ak_len : ∀ P ∈ [(0 : Int), 1, 2, 3], (lstK P).length ≤ 8 := by decide +kernel
theorem nodup_le {α : Type} [DecidableEq α] : ∀ {l m : List α}, l.Nodup → (∀ x ∈ l, x ∈ m) → l.length ≤ m.length
  | [], _, _, _ => Nat.zero_le _
  | a :: l, m, n, h => by
    rw [List.nodup_cons] at n
    have hm := h a List.mem_cons_self
    have := nodup_le (m := m.erase a) n.2 fun x hx => (List.mem_erase_of_ne (fun e => n.1 (by rw [← e]; exact hx))).mpr (h x (List.mem_cons_of_mem _ hx))
    rw [List.length_erase_of_mem hm] at this
    have := List.length_pos_of_mem hm
    rw [List.length_cons]
    omega
def shZ (mk : Int) (Z : Zt) : Zt := Z.map fun z => ((z.1.1, bor z.1.2 mk), z.2)
theorem evZ_sh (g : Ky → Rat) (mk : Int) : ∀ Z : Zt, evZ g (shZ mk Z) = evZ (fun k => g (k.1, bor k.2 mk)) Z
  | [] => rfl
  | z :: Z => by
    show z.2 * g (z.1.1, bor z.1.2 mk) + evZ g (shZ mk Z) = _
    rw [evZ_sh g mk Z]
    rfl
/-- the table's bounds: P the marks that have come -/
structure TInv (n : Nat) (P : Int) (Z : Zt) : Prop where
  p : P ∈ [(0 : Int), 1, 2, 3]
  d : ∃ D : Int, 0 < D ∧ D ≤ 2 ^ (32 * n) ∧ ZInv (AK P) D Z
  one : evZ (fun _ => 1) Z = 1
theorem TInv.start : TInv 0 0 [((0, 0), 1)] := ⟨by decide, ⟨1, by decide, by decide, ⟨by simp, fun z hz => by rw [List.mem_singleton.mp hz]; exact List.mem_singleton.mpr rfl, fun z hz => by rw [List.mem_singleton.mp hz]; exact ⟨by show (0 : Rat) < 1; decide, isI_mul (isI_int 1) (isI_int 1)⟩⟩⟩, by show (1 : Rat) * 1 + 0 = 1; grind⟩
theorem TInv.le1 {n : Nat} {P : Int} {Z : Zt} (h : TInv n P Z) {z : Ky × Rat} (hz : z ∈ Z) : 0 < z.2 ∧ z.2 ≤ 1 := by
  obtain ⟨D, _, _, k⟩ := h.d
  exact ⟨(k.pos z hz).1, ZInv.le1 (A := AK P) (D := D) (fun y hy => (k.pos y hy).1) (by rw [h.one]; grind) hz⟩
theorem TInv.bd {n : Nat} {P : Int} {Z : Zt} (h : TInv n P Z) (hn : n ≤ 25) {z : Ky × Rat} (hz : z ∈ Z) : BdQ 801 z.2 := by
  obtain ⟨p0, p1⟩ := h.le1 hz
  obtain ⟨D, d0, d1, k⟩ := h.d
  exact (bdq_isI d0 d1 (k.pos z hz).2 (Rat.le_of_lt p0) p1).mono (by omega)
theorem TInv.len {n : Nat} {P : Int} {Z : Zt} (h : TInv n P Z) : Z.length ≤ 8 := by
  obtain ⟨D, _, _, k⟩ := h.d
  have h1 := nodup_le (m := lstK P) k.nd fun x hx => by
    obtain ⟨z, hz, rfl⟩ := List.mem_map.mp hx
    exact k.key z hz
  have h2 := ak_len P h.p
  rw [List.length_map] at h1
  omega
theorem TInv.more {n : Nat} {P : Int} {Z : Zt} (h : TInv n P Z) : TInv (n + 1) P Z := by
  obtain ⟨D, d0, d1, k⟩ := h.d
  refine ⟨h.p, ⟨D, d0, ?_, k⟩, h.one⟩
  have := pow32 n
  have : (0 : Int) < 2 ^ (32 * n) := Int.pow_pos (by decide)
  omega
theorem TInv.widen {n : Nat} {P mk : Int} {Z : Zt} (h : TInv n P Z) (hm : mk ∈ [(0 : Int), 1, 2]) (hc : mk = 0 ∨ bor P mk ≠ P) : TInv n (bor P mk) Z := by
  obtain ⟨D, d0, d1, k⟩ := h.d
  have mv := ak_moves P h.p mk hm hc
  exact ⟨mv.1, ⟨D, d0, d1, k.nd, fun z hz => (mv.2 _ (k.key z hz)).1, k.pos⟩, h.one⟩
theorem shZ_nd {n : Nat} {P mk : Int} {Z : Zt} (h : TInv n P Z) (hm : mk ∈ [(0 : Int), 1, 2]) (hc : mk = 0 ∨ bor P mk ≠ P) : ((shZ mk Z).map (·.1)).Nodup := by
  obtain ⟨D, d0, d1, k⟩ := h.d
  have nd := k.nd
  unfold shZ
  rw [List.map_map]
  unfold List.Nodup at *
  rw [List.pairwise_map] at *
  refine List.Pairwise.imp_of_mem (fun {a b} ha hb hn => ?_) nd
  exact fun e => hn (ak_inj P h.p mk hm hc _ (k.key a ha) _ (k.key b hb) e)
theorem TInv.sure {n : Nat} {P mk : Int} {Z : Zt} (h : TInv n P Z) (hm : mk ∈ [(0 : Int), 1, 2]) (hc : mk = 0 ∨ bor P mk ≠ P) : TInv n (bor P mk) (shZ mk Z) := by
  have nd := shZ_nd h hm hc
  obtain ⟨D, d0, d1, k⟩ := h.d
  have mv := ak_moves P h.p mk hm hc
  refine ⟨mv.1, ⟨D, d0, d1, nd, fun z hz => ?_, fun z hz => ?_⟩, by rw [evZ_sh]; exact h.one⟩
  · obtain ⟨y, hy, rfl⟩ := List.mem_map.mp hz
    exact (mv.2 _ (k.key y hy)).2.2.2.2.2
  · obtain ⟨y, hy, rfl⟩ := List.mem_map.mp hz
    exact k.pos y hy
/-- partly done -/
theorem cm_part {P mk : Int} {D d : Int} {h s : Rat} (hp : P ∈ [(0 : Int), 1, 2, 3]) (hm : mk ∈ [(0 : Int), 1, 2]) (hc : mk = 0 ∨ bor P mk ≠ P) (ia : ∀ x : Rat, isI (x * (D : Rat)) → isI (x * pA h s * ((D * d : Int) : Rat)) ∧ isI (x * pB h s * ((D * d : Int) : Rat))) : ∀ {Z acc : Zt}, ZInv (AK (bor P mk)) (D * d) acc → (∀ z ∈ Z, AK P z.1 ∧ isI (z.2 * (D : Rat))) → ZInv (AK (bor P mk)) (D * d) (Z.foldl (cmS h s mk) acc)
  | [], _, ha, _ => ha
  | z :: Z, acc, ha, hz => by
    rw [List.foldl_cons]
    obtain ⟨z1, z2⟩ := hz z List.mem_cons_self
    have mv := (ak_moves P hp mk hm hc).2 _ z1
    refine cm_part hp hm hc ia ((ha.put ?_ (ia _ z2).1).put ?_ (ia _ z2).2) fun y hy => hz y (List.mem_cons_of_mem _ hy)
    · show kA h s mk z.1 ∈ _
      unfold kA
      split
      · exact mv.1
      · split
        · exact mv.2.2.1
        · exact mv.2.2.2.1
    · show kB h s mk z.1 ∈ _
      unfold kB
      split
      · exact mv.2.1
      · split
        · exact mv.2.2.2.2.1
        · exact mv.2.2.2.2.2
theorem cm_den {L t s : Int} (hL : 0 < L) (h2 : L ≤ 1000000000) (t0 : 0 ≤ t) (t1 : t < L) (s0 : 0 < s) (s1 : s < L) : ∃ d : Int, 0 < d ∧ d ≤ 4294967296 ∧ ∀ (D : Int) (x : Rat), isI (x * (D : Rat)) → isI (x * pA ((t : Rat) / L) ((s : Rat) / L) * ((D * d : Int) : Rat)) ∧ isI (x * pB ((t : Rat) / L) ((s : Rat) / L) * ((D * d : Int) : Rat)) := by
  have hLq := iq_pos hL
  have hLn : (L : Rat) ≠ 0 := by grind
  have hts : ((t + s : Int) : Rat) = (t : Rat) + s := Rat.intCast_add ..
  have htp : (0 : Rat) < ((t + s : Int) : Rat) := iq_pos (by omega)
  have h2L : ((2 * L - (t + s) : Int) : Rat) = 2 * (L : Rat) - ((t : Rat) + s) := by
    rw [Rat.intCast_sub, Rat.intCast_mul, Rat.intCast_add]
    rfl
  have h2p : (0 : Rat) < ((2 * L - (t + s) : Int) : Rat) := iq_pos (by omega)
  have hLs : ((L - s : Int) : Rat) = (L : Rat) - s := Rat.intCast_sub ..
  have hLt : ((L - t : Int) : Rat) = (L : Rat) - t := Rat.intCast_sub ..
  have mI : ∀ (x : Rat) (D y d : Int), (d : Rat) ≠ 0 → isI (x * (D : Rat)) → isI (x * ((y : Rat) / (d : Rat)) * ((D * d : Int) : Rat)) := fun x D y d hd hx => by
    have e : x * ((y : Rat) / (d : Rat)) * ((D * d : Int) : Rat) = x * (D : Rat) * (y : Rat) := by
      rw [Rat.intCast_mul]
      generalize (d : Rat) = q at *
      grind
    rw [e]
    exact isI_mul hx (isI_int _)
  have lt1 : ((t : Rat) / L + (s : Rat) / L < 1) ↔ t + s < L := by
    have e : (t : Rat) / L + (s : Rat) / L = ((t + s : Int) : Rat) / L := by rw [hts]; grind
    rw [e, Rat.div_lt_iff hLq, Rat.one_mul]
    exact Rat.intCast_lt_intCast
  by_cases c : t + s < L
  · refine ⟨t + s, by omega, by omega, fun D x hx => ?_⟩
    have eA : pA ((t : Rat) / L) ((s : Rat) / L) = (t : Rat) / ((t + s : Int) : Rat) := by unfold pA; rw [if_pos (lt1.mpr c)]; grind
    have eB : pB ((t : Rat) / L) ((s : Rat) / L) = (s : Rat) / ((t + s : Int) : Rat) := by unfold pB; rw [if_pos (lt1.mpr c)]; grind
    rw [eA, eB]
    exact ⟨mI x D t _ (by grind) hx, mI x D s _ (by grind) hx⟩
  · refine ⟨2 * L - (t + s), by omega, by omega, fun D x hx => ?_⟩
    have eA : pA ((t : Rat) / L) ((s : Rat) / L) = ((L - s : Int) : Rat) / ((2 * L - (t + s) : Int) : Rat) := by unfold pA; rw [if_neg (fun z => c (lt1.mp z)), hLs, h2L]; rw [h2L] at h2p; grind
    have eB : pB ((t : Rat) / L) ((s : Rat) / L) = ((L - t : Int) : Rat) / ((2 * L - (t + s) : Int) : Rat) := by unfold pB; rw [if_neg (fun z => c (lt1.mp z)), hLt, h2L]; rw [h2L] at h2p; grind
    rw [eA, eB]
    exact ⟨mI x D _ _ (by grind) hx, mI x D _ _ (by grind) hx⟩
theorem TInv.come {L t s : Int} {n : Nat} {P mk : Int} {Z : Zt} {hh ss : Rat} (h : TInv n P Z) (hL : 0 < L) (h2 : L ≤ 1000000000) (t0 : 0 ≤ t) (t1 : t < L) (s0 : 0 < s) (s1 : s < L) (eh : hh = (t : Rat) / L) (es : ss = (s : Rat) / L) (ok : HsOk hh ss) (hm : mk ∈ [(0 : Int), 1, 2]) (hc : mk = 0 ∨ bor P mk ≠ P) : TInv (n + 1) (bor P mk) (cmZ hh ss mk Z) := by
  obtain ⟨D, d0, d1, k⟩ := h.d
  obtain ⟨d, e0, e1, ia⟩ := cm_den hL h2 t0 t1 s0 s1
  obtain ⟨g0, g1⟩ := grow32 (n := n) d0 d1 e0 e1
  subst eh es
  refine ⟨(ak_moves P h.p mk hm hc).1, ⟨D * d, g0, g1, cm_part h.p hm hc (ia D) ⟨.nil, (fun _ z => nomatch z), (fun _ z => nomatch z)⟩ fun z hz => ⟨k.key z hz, (k.pos z hz).2⟩⟩, ?_⟩
  unfold cmZ
  rw [evZ_cm _ ok _ _ fun z hz => Rat.le_of_lt (k.pos z hz).1]
  have e2 := evZ_congr (g := stp ((t : Rat) / L) ((s : Rat) / L) mk fun _ => 1) (f := fun _ => 1) (Z := Z) fun z _ => by
    unfold stp
    have := ok.ab
    grind
  rw [e2, h.one]
  show (0 : Rat) + 1 = 1
  grind
def inF (c : Int) (k : Ky) : Rat := if k.2 = c then 1 else 0
def upF (c : Int) (k : Ky) : Rat := if k.1 = c then 1 else 0
def finF (h : Rat) (k : Ky) : Rat := if k.2 = 3 then 1 else if bor k.2 k.1 = 3 then h else 0
theorem b00 : bor 0 0 = 0 := by decide +kernel
theorem b01 : bor 0 1 = 1 := by decide +kernel
theorem b02 : bor 0 2 = 2 := by decide +kernel
theorem b10 : bor 1 0 = 1 := by decide +kernel
theorem b11 : bor 1 1 = 1 := by decide +kernel
theorem b12 : bor 1 2 = 3 := by decide +kernel
theorem b20 : bor 2 0 = 2 := by decide +kernel
theorem b21 : bor 2 1 = 3 := by decide +kernel
theorem b22 : bor 2 2 = 2 := by decide +kernel
theorem b30 : bor 3 0 = 3 := by decide +kernel
theorem b31 : bor 3 1 = 3 := by decide +kernel
theorem b32 : bor 3 2 = 3 := by decide +kernel
theorem lk0 : lstK 0 = [(0, 0)] := rfl
theorem lk1 : lstK 1 = [(0, 0), (1, 0), (0, 1)] := rfl
theorem lk2 : lstK 2 = [(0, 0), (2, 0), (0, 2)] := rfl
theorem lk3 : lstK 3 = [(0, 0), (1, 0), (0, 1), (2, 0), (0, 2), (1, 2), (2, 1), (0, 3)] := rfl
def wF (h s : Rat) : Rat := (1 - s) / (2 - (h + s))
/-- the first comes -/
theorem fst_in {h s : Rat} (ok : HsOk h s) : ∀ c ∈ [(1 : Int), 2], stp h s c (inF c) (0, 0) = if h + s < 1 then 0 else 1 - wF h s := by
  obtain ⟨h0, h1, s0, s1⟩ := ok
  intro c hc
  have n1 : 2 - (h + s) ≠ 0 := by grind
  have e : pB h s = if h + s < 1 then s / (h + s) else 1 - wF h s := by unfold pB wF; split <;> grind
  unfold stp
  rw [e]
  simp only [List.mem_cons, List.not_mem_nil, or_false] at hc
  rcases hc with rfl | rfl <;> unfold kA kB inF pA <;> split <;> simp [b00, b01, b02] <;> grind
theorem fst_up {h s : Rat} (ok : HsOk h s) : ∀ c ∈ [(1 : Int), 2], stp h s c (upF c) (0, 0) = if h + s < 1 then s / (h + s) else if h + s = 1 then 0 else wF h s := by
  obtain ⟨h0, h1, s0, s1⟩ := ok
  intro c hc
  unfold stp
  simp only [List.mem_cons, List.not_mem_nil, or_false] at hc
  rcases hc with rfl | rfl <;> unfold kA kB upF pA pB wF <;> split <;> simp [b00, b01, b02] <;> grind
/-- another one comes -/
theorem oth_in {h s : Rat} (ok : HsOk h s) : ∀ c ∈ [(1 : Int), 2], ∀ k ∈ lstK c, stp h s 0 (inF c) k = inF c k + upF c k * (if h + s < 1 then 0 else wF h s) := by
  have ab := ok.ab
  obtain ⟨h0, h1, s0, s1⟩ := ok
  intro c hc k hk
  have eA : pA h s = if h + s < 1 then h / (h + s) else wF h s := rfl
  simp only [List.mem_cons, List.not_mem_nil, or_false] at hc
  unfold stp
  rcases hc with rfl | rfl
  · rw [lk1] at hk
    simp only [List.mem_cons, List.not_mem_nil, or_false] at hk
    rcases hk with rfl | rfl | rfl <;> unfold kA kB inF upF <;> split <;> simp [b00, b01, b02, b10, b20] <;> grind
  · rw [lk2] at hk
    simp only [List.mem_cons, List.not_mem_nil, or_false] at hk
    rcases hk with rfl | rfl | rfl <;> unfold kA kB inF upF <;> split <;> simp [b00, b01, b02, b10, b20] <;> grind
theorem oth_up {h s : Rat} (ok : HsOk h s) : ∀ c ∈ [(1 : Int), 2], ∀ k ∈ lstK c, stp h s 0 (upF c) k = upF c k * (if h + s < 1 then h / (h + s) else if h + s = 1 then 0 else 1 - wF h s) := by
  have ab := ok.ab
  obtain ⟨h0, h1, s0, s1⟩ := ok
  intro c hc k hk
  have eA : pA h s = if h + s < 1 then h / (h + s) else wF h s := rfl
  simp only [List.mem_cons, List.not_mem_nil, or_false] at hc
  unfold stp
  rcases hc with rfl | rfl
  · rw [lk1] at hk
    simp only [List.mem_cons, List.not_mem_nil, or_false] at hk
    rcases hk with rfl | rfl | rfl <;> unfold kA kB upF <;> split <;> simp [b00, b01, b02, b10, b20] <;> grind
  · rw [lk2] at hk
    simp only [List.mem_cons, List.not_mem_nil, or_false] at hk
    rcases hk with rfl | rfl | rfl <;> unfold kA kB upF <;> split <;> simp [b00, b01, b02, b10, b20] <;> grind
/-- the second comes -/
theorem snd_fin {h s : Rat} (ok : HsOk h s) : ∀ c ∈ [(1 : Int), 2], ∀ k ∈ lstK c, stp h s (3 - c) (finF (comeM h s)) k = inF c k * s + upF c k * (if 1 < h + s then h + s - 1 else 0) := by
  have ab := ok.ab
  obtain ⟨h0, h1, s0, s1⟩ := ok
  intro c hc k hk
  have n1 : 2 - (h + s) ≠ 0 := by grind
  have n2 : h + s ≠ 0 := by grind
  simp only [List.mem_cons, List.not_mem_nil, or_false] at hc
  unfold stp
  rcases hc with rfl | rfl
  · rw [lk1] at hk
    simp only [List.mem_cons, List.not_mem_nil, or_false] at hk
    rcases hk with rfl | rfl | rfl <;> by_cases e : h + s = 1 <;> unfold kA kB pA pB finF inF upF comeM <;> split <;> simp [e, b00, b01, b02, b10, b20, b12, b21, b11, b22, b30, b31, b32] <;> grind
  · rw [lk2] at hk
    simp only [List.mem_cons, List.not_mem_nil, or_false] at hk
    rcases hk with rfl | rfl | rfl <;> by_cases e : h + s = 1 <;> unfold kA kB pA pB finF inF upF comeM <;> split <;> simp [e, b00, b01, b02, b10, b20, b12, b21, b11, b22, b30, b31, b32] <;> grind
theorem aft_fin {h s : Rat} (ok : HsOk h s) : ∀ k ∈ lstK 3, stp h s 0 (finF (comeM h s)) k = finF h k := by
  have ab := ok.ab
  obtain ⟨h0, h1, s0, s1⟩ := ok
  intro k hk
  have n1 : 2 - (h + s) ≠ 0 := by grind
  have n2 : h + s ≠ 0 := by grind
  unfold stp
  rw [lk3] at hk
  simp only [List.mem_cons, List.not_mem_nil, or_false] at hk
  rcases hk with rfl | rfl | rfl | rfl | rfl | rfl | rfl | rfl <;> by_cases e : h + s = 1 <;> unfold kA kB pA pB finF comeM <;> split <;> simp [e, b00, b01, b02, b10, b20, b12, b21, b11, b22, b30, b31, b32] <;> grind
def stepZ (sh : Int → Rat) (mk : Int → Int) (x : Zt × Rat) (a : Int) : Zt × Rat :=
  if sh a = 1 then (shZ (mk a) x.1, x.2) else if 0 < sh a then (cmZ x.2 (sh a) (mk a) x.1, comeM x.2 (sh a)) else x
def stZ (sh : Int → Rat) (mk : Int → Int) (ord : List Int) : Nat → Zt × Rat
  | 0 => ([((0, 0), 1)], 0)
  | i + 1 => match ord[i]? with
    | some a => stepZ sh mk (stZ sh mk ord i) a
    | none => stZ sh mk ord i
/-- marks: one each -/
structure MkOk (mk : Int → Int) : Prop where
  rg : ∀ a, mk a ∈ [(0 : Int), 1, 2]
  inj : ∀ a b, mk a = mk b → mk a ≠ 0 → a = b
structure TI (L : Int) (mk : Int → Int) (ks : List Int) (i : Nat) (x : Zt × Rat) (P : Int) : Prop where
  t : ∃ t : Int, x.2 = (t : Rat) / L ∧ 0 ≤ t ∧ t < L
  tb : TInv i P x.1
  arr : ∀ m ∈ [(1 : Int), 2], bor P m = P ↔ ∃ b ∈ ks, mk b = m
theorem bor_arr : ∀ P ∈ [(0 : Int), 1, 2, 3], ∀ k ∈ [(0 : Int), 1, 2], ∀ m ∈ [(1 : Int), 2], (bor (bor P k) m = bor P k ↔ (bor P m = P ∨ k = m)) := by decide +kernel
theorem TI.new {L : Int} {mk : Int → Int} {ks : List Int} {i : Nat} {x : Zt × Rat} {P a : Int} (h : TI L mk ks i x P) (ok : MkOk mk) (ha : a ∉ ks) : mk a = 0 ∨ bor P (mk a) ≠ P := by
  by_cases c : mk a = 0
  · exact .inl c
  · refine .inr fun e => ?_
    have hm : mk a ∈ [(1 : Int), 2] := by
      have := ok.rg a
      simp only [List.mem_cons, List.not_mem_nil, or_false] at this ⊢
      rcases this with z | z | z
      · exact absurd z c
      · exact .inl z
      · exact .inr z
    obtain ⟨b, hb, e2⟩ := (h.arr _ hm).mp e
    exact ha (ok.inj b a e2 (by rw [e2]; exact c) ▸ hb)
theorem TI.arr' {L : Int} {mk : Int → Int} {ks : List Int} {i : Nat} {x : Zt × Rat} {P a : Int} (h : TI L mk ks i x P) (ok : MkOk mk) : ∀ m ∈ [(1 : Int), 2], bor (bor P (mk a)) m = bor P (mk a) ↔ ∃ b ∈ ks ++ [a], mk b = m := fun m hm => by
  rw [bor_arr P h.tb.p (mk a) (ok.rg a) m hm, h.arr m hm]
  constructor
  · rintro (⟨b, hb, e⟩ | e)
    · exact ⟨b, List.mem_append_left _ hb, e⟩
    · exact ⟨a, List.mem_append_right _ (List.mem_singleton.mpr rfl), e⟩
  · rintro ⟨b, hb, e⟩
    rcases List.mem_append.mp hb with hb | hb
    · exact .inl ⟨b, hb, e⟩
    · exact .inr (by rw [← List.mem_singleton.mp hb]; exact e)
theorem q_div_lt {L t : Int} (hL : 0 < L) : ((t : Rat) / L < 1 ↔ t < L) := by
  rw [Rat.div_lt_iff (iq_pos hL), Rat.one_mul]
  exact Rat.intCast_lt_intCast
theorem q_div_pos {L t : Int} (hL : 0 < L) : (0 < (t : Rat) / L ↔ 0 < t) := by
  rw [Rat.lt_div_iff (iq_pos hL), Rat.zero_mul]
  exact Rat.intCast_pos
theorem q_div_one {L t : Int} (hL : 0 < L) : ((t : Rat) / L = 1 ↔ t = L) := by
  have hLq := iq_pos hL
  constructor
  · intro h
    have e : (t : Rat) = L := by
      have : (t : Rat) / L * L = t := by grind
      rw [h] at this
      grind
    exact Rat.intCast_inj.mp e
  · rintro rfl
    grind
/-- one step's bounds -/
theorem TI.step {L s : Int} {sh : Int → Rat} {mk : Int → Int} {ks : List Int} {i : Nat} {x : Zt × Rat} {P a : Int} (h : TI L mk ks i x P) (hL : 0 < L) (h2 : L ≤ 1000000000) (ok : MkOk mk) (ha : a ∉ ks) (es : sh a = (s : Rat) / L) (s0 : 0 ≤ s) (s1 : s ≤ L) : TI L mk (ks ++ [a]) (i + 1) (stepZ sh mk x a) (bor P (mk a)) := by
  have hc := h.new ok ha
  have hm := ok.rg a
  obtain ⟨t, e, t0, t1⟩ := h.t
  unfold stepZ
  by_cases c1 : sh a = 1
  · rw [if_pos c1]
    exact ⟨⟨t, e, t0, t1⟩, (h.tb.sure hm hc).more, h.arr' ok⟩
  rw [if_neg c1]
  by_cases c2 : 0 < sh a
  · rw [if_pos c2]
    have sp : 0 < s := (q_div_pos hL).mp (es ▸ c2)
    have sl : s < L := by
      have : s ≠ L := fun z => c1 (by rw [es]; exact (q_div_one hL).mpr z)
      omega
    have hs : HsOk x.2 (sh a) := ⟨by rw [e]; exact div_nn (Rat.intCast_nonneg.mpr t0) (iq_pos hL), by rw [e]; exact (q_div_lt hL).mpr t1, c2, by rw [es]; exact (q_div_lt hL).mpr sl⟩
    refine ⟨?_, h.tb.come hL h2 t0 t1 sp sl e es hs hm hc, h.arr' ok⟩
    show ∃ t : Int, comeM x.2 (sh a) = _ ∧ _
    have hLq := iq_pos hL
    have e1 : x.2 + sh a = ((t + s : Int) : Rat) / L := by rw [e, es, Rat.intCast_add]; grind
    unfold comeM
    rw [e1]
    by_cases c : t + s < L
    · rw [if_pos ((q_div_lt hL).mpr c)]
      exact ⟨t + s, rfl, by omega, c⟩
    · rw [if_neg (fun z => c ((q_div_lt hL).mp z))]
      exact ⟨t + s - L, by rw [Rat.intCast_sub]; grind, by omega, by omega⟩
  · rw [if_neg c2]
    exact ⟨⟨t, e, t0, t1⟩, (h.tb.widen hm hc).more, h.arr' ok⟩
theorem evZ_at {n : Nat} {P : Int} {Z : Zt} (h : TInv n P Z) (hp : P = 0) (g : Ky → Rat) : evZ g Z = g (0, 0) := by
  obtain ⟨D, _, _, k⟩ := h.d
  rw [evZ_congr (f := fun _ => g (0, 0) * 1) fun z hz => ?_, evZ_mulf (g := fun _ => 1), h.one, Rat.mul_one]
  have := k.key z hz
  rw [hp] at this
  rw [List.mem_singleton.mp this]
  grind
theorem TInv.at_ {n : Nat} {P : Int} {Z : Zt} (h : TInv n P Z) : ∀ z ∈ Z, z.1 ∈ lstK P := by
  obtain ⟨D, _, _, k⟩ := h.d
  exact k.key
theorem TInv.nn {n : Nat} {P : Int} {Z : Zt} (h : TInv n P Z) : ∀ z ∈ Z, 0 ≤ z.2 := fun z hz => Rat.le_of_lt (h.le1 hz).1
theorem bor_c : ∀ P ∈ [(0 : Int), 1, 2, 3], ∀ k ∈ [(0 : Int), 1, 2], (k = 0 ∨ bor P k ≠ P) → (∀ c ∈ [(1 : Int), 2], bor P k = c → (P = c ∧ k = 0) ∨ (P = 0 ∧ k = c)) ∧ (bor P k = 3 → (P = 3 ∧ k = 0) ∨ ∃ c ∈ [(1 : Int), 2], P = c ∧ k = 3 - c) := by decide +kernel
theorem bor_0 : ∀ P ∈ [(0 : Int), 1, 2, 3], ∀ k ∈ lstK P, bor k.2 0 = k.2 := by decide +kernel
theorem c_ne : ∀ c ∈ [(1 : Int), 2], c ≠ 0 ∧ bor 0 c = c ∧ c ∈ [(0 : Int), 1, 2, 3] := by decide +kernel
theorem sur_fin {h : Rat} : ∀ c ∈ [(1 : Int), 2], ∀ k ∈ lstK c, finF h (k.1, bor k.2 (3 - c)) = inF c k * 1 + upF c k * h := by
  intro c hc k hk
  simp only [List.mem_cons, List.not_mem_nil, or_false] at hc
  rcases hc with rfl | rfl
  · rw [lk1] at hk
    simp only [List.mem_cons, List.not_mem_nil, or_false] at hk
    rcases hk with rfl | rfl | rfl <;> unfold finF inF upF <;> simp [b00, b01, b02, b10, b20, b12, b21, b11, b22, b30, b31, b32] <;> grind
  · rw [lk2] at hk
    simp only [List.mem_cons, List.not_mem_nil, or_false] at hk
    rcases hk with rfl | rfl | rfl <;> unfold finF inF upF <;> simp [b00, b01, b02, b10, b20, b12, b21, b11, b22, b30, b31, b32] <;> grind
theorem non_fin {h : Rat} : ∀ c ∈ [(1 : Int), 2], ∀ k ∈ lstK c, finF h k = 0 := by
  intro c hc k hk
  simp only [List.mem_cons, List.not_mem_nil, or_false] at hc
  rcases hc with rfl | rfl
  · rw [lk1] at hk
    simp only [List.mem_cons, List.not_mem_nil, or_false] at hk
    rcases hk with rfl | rfl | rfl <;> unfold finF <;> simp [b00, b01, b02, b10, b20]
  · rw [lk2] at hk
    simp only [List.mem_cons, List.not_mem_nil, or_false] at hk
    rcases hk with rfl | rfl | rfl <;> unfold finF <;> simp [b00, b01, b02, b10, b20]
theorem evZ_zero : ∀ Z : Zt, evZ (fun _ => 0) Z = 0
  | [] => rfl
  | z :: Z => by
    show z.2 * 0 + evZ (fun _ => 0) Z = 0
    rw [evZ_zero]
    grind
/-- what the table means -/
structure Sem (un : Int → Int) (b : BS) (x : Zt × Rat) (P : Int) : Prop where
  m : x.2 = b.M
  c : ∀ c ∈ [(1 : Int), 2], P = c → evZ (inF c) x.1 = b.I (un c) ∧ evZ (upF c) x.1 = b.U (un c)
  f : P = 3 → evZ (finF x.2) x.1 = b.G (un 1) (un 2)
theorem evZ_cm0 {g : Ky → Rat} {h s : Rat} {mk : Int} {Z : Zt} (k : HsOk h s) (p : ∀ z ∈ Z, 0 ≤ z.2) : evZ g (cmZ h s mk Z) = evZ (stp h s mk g) Z := by
  unfold cmZ
  rw [evZ_cm g k Z [] p]
  show (0 : Rat) + _ = _
  grind
theorem evZ_two {f g k : Ky → Rat} {x y : Rat} {Z : Zt} (h : ∀ z ∈ Z, f z.1 = g z.1 * x + k z.1 * y) : evZ f Z = evZ g Z * x + evZ k Z * y := by
  rw [evZ_congr (f := fun z => x * g z + y * k z) fun z hz => by rw [h z hz]; grind, evZ_addf (g := fun z => x * g z) (f := fun z => y * k z), evZ_mulf, evZ_mulf]
  grind
theorem un_ne {mk un : Int → Int} (hu : ∀ c ∈ [(1 : Int), 2], mk (un c) = c) {a c : Int} (hc : c ∈ [(1 : Int), 2]) (h : mk a ≠ c) : un c ≠ a := fun z => h (by rw [← z]; exact hu c hc)
theorem Sem.step {L s : Int} {sh : Int → Rat} {mk un : Int → Int} {ks : List Int} {i : Nat} {x : Zt × Rat} {P a : Int} {b : BS} (hS : Sem un b x P) (h : TI L mk ks i x P) (hL : 0 < L) (ok : MkOk mk) (hu : ∀ c ∈ [(1 : Int), 2], mk (un c) = c) (ha : a ∉ ks) (es : sh a = (s : Rat) / L) (s0 : 0 ≤ s) (s1 : s ≤ L) : Sem un (stepB sh ks b a) (stepZ sh mk x a) (bor P (mk a)) := by
  have hc := h.new ok ha
  have hm := ok.rg a
  obtain ⟨t, e, t0, t1⟩ := h.t
  have hp := h.tb.p
  have kz := h.tb.at_
  have nn := h.tb.nn
  have un_of : ∀ c ∈ [(1 : Int), 2], mk a = c → a = un c := fun c hc2 e2 => ok.inj a (un c) (by rw [e2, hu c hc2]) (by
    rw [e2]
    simp only [List.mem_cons, List.not_mem_nil, or_false] at hc2
    rcases hc2 with rfl | rfl <;> decide)
  have inks : ∀ c ∈ [(1 : Int), 2], P = c → un c ∈ ks := fun c hc2 e2 => by
    have : bor P c = P := by
      rw [e2]
      simp only [List.mem_cons, List.not_mem_nil, or_false] at hc2
      rcases hc2 with rfl | rfl
      · exact b11
      · exact b22
    obtain ⟨y, hy, e3⟩ := (h.arr c hc2).mp this
    have : y = un c := ok.inj y (un c) (by rw [e3, hu c hc2]) (by
      rw [e3]
      simp only [List.mem_cons, List.not_mem_nil, or_false] at hc2
      rcases hc2 with rfl | rfl <;> decide)
    rw [← this]
    exact hy
  have u12 : un 1 ≠ un 2 := fun z => by
    have h1 := hu 1 (by decide)
    rw [z, hu 2 (by decide)] at h1
    exact absurd h1 (by decide)
  obtain ⟨Z, hv⟩ := x
  have hM : hv = b.M := hS.m
  have hSc := hS.c
  have hSf := hS.f
  dsimp only at e kz nn hSc hSf
  have hv0 : 0 ≤ hv := by rw [e]; exact div_nn (Rat.intCast_nonneg.mpr t0) (iq_pos hL)
  have hv1 : hv < 1 := by rw [e]; exact (q_div_lt hL).mpr t1
  have I' : (stepB sh ks b a).I = if opR (sh a) then comeI b.I b.U b.M a (sh a) else setF b.I a (sh a) := rfl
  have U' : (stepB sh ks b a).U = if opR (sh a) then comeU b.U b.M a (sh a) else setF b.U a 0 := rfl
  have M' : (stepB sh ks b a).M = if opR (sh a) then comeM b.M (sh a) else b.M := rfl
  have G' : ∀ u v, (stepB sh ks b a).G u v = if u = a ∧ v = a then sh a else if u = a ∧ v ∈ ks then togF b.I b.U b.M v (sh a) else if v = a ∧ u ∈ ks then togF b.I b.U b.M u (sh a) else b.G u v := fun _ _ => rfl
  -- the grid at the two
  have Gd : ∀ c ∈ [(1 : Int), 2], P = c → mk a = 3 - c → (stepB sh ks b a).G (un 1) (un 2) = togF b.I b.U b.M (un c) (sh a) := fun c hc2 e2 e3 => by
    have hk := inks c hc2 e2
    simp only [List.mem_cons, List.not_mem_nil, or_false] at hc2
    rcases hc2 with rfl | rfl
    · have ea := un_of 2 (by decide) e3
      rw [G', if_neg (fun z => u12 (z.1.trans ea)), if_neg (fun z => u12 (z.1.trans ea)), if_pos ⟨ea.symm, hk⟩]
    · have ea := un_of 1 (by decide) e3
      rw [G', if_neg (fun z => u12 (ea.symm.trans z.2.symm)), if_pos ⟨ea.symm, hk⟩]
  have Gn : mk a = 0 → (stepB sh ks b a).G (un 1) (un 2) = b.G (un 1) (un 2) := fun e2 => by
    have n1 := un_ne hu (a := a) (c := 1) (by decide) (by rw [e2]; decide)
    have n2 := un_ne hu (a := a) (c := 2) (by decide) (by rw [e2]; decide)
    rw [G', if_neg (fun z => n1 z.1), if_neg (fun z => n1 z.1), if_neg (fun z => n2 z.1)]
  obtain ⟨bc1, bc3⟩ := bor_c P hp (mk a) hm hc
  have lkP : ∀ c, P = c → ∀ z ∈ Z, z.1 ∈ lstK c := fun c e z hz => e ▸ kz z hz
  -- the three ways
  by_cases c1 : sh a = 1
  · have nop : ¬ opR (sh a) := fun z => by have := z.2; grind
    have eZ : stepZ sh mk (Z, hv) a = (shZ (mk a) Z, hv) := if_pos c1
    rw [if_neg nop] at I' U' M'
    rw [eZ]
    refine ⟨by rw [M']; exact hM, fun c hc2 hpc => ?_, fun hp3 => ?_⟩
    · show evZ (inF c) (shZ (mk a) Z) = _ ∧ evZ (upF c) (shZ (mk a) Z) = _
      rw [evZ_sh, evZ_sh, I', U']
      rcases bc1 c hc2 hpc with ⟨e1, e2⟩ | ⟨e1, e2⟩
      · have ne := un_ne hu (a := a) hc2 (by rw [e2]; exact (c_ne c hc2).1.symm)
        obtain ⟨q1, q2⟩ := hSc c hc2 e1
        rw [setF_ne ne, setF_ne ne, e2, ← q1, ← q2]
        exact ⟨evZ_congr fun z hz => by unfold inF; dsimp only; rw [bor_0 P hp _ (kz z hz)], rfl⟩
      · have ea := un_of c hc2 e2
        rw [evZ_at h.tb e1, evZ_at h.tb e1, ← ea, setF_eq, setF_eq, c1, e2]
        unfold inF upF
        dsimp only
        exact ⟨if_pos (c_ne c hc2).2.1, if_neg (c_ne c hc2).1.symm⟩
    · show evZ (finF hv) (shZ (mk a) Z) = _
      rw [evZ_sh]
      rcases bc3 hp3 with ⟨e1, e2⟩ | ⟨c, hc2, e1, e2⟩
      · rw [Gn e2, ← hSf e1, e2]
        exact evZ_congr fun z hz => by unfold finF; dsimp only; rw [bor_0 P hp _ (kz z hz)]
      · obtain ⟨q1, q2⟩ := hSc c hc2 e1
        rw [Gd c hc2 e1 e2, e2, evZ_two (g := inF c) (k := upF c) (x := 1) (y := hv) fun z hz => sur_fin c hc2 _ (lkP c e1 z hz), q1, q2, c1, ← hM]
        unfold togF
        split
        · grind
        · have : hv = 0 := by grind
          rw [this]
          grind
  by_cases c2 : 0 < sh a
  · have sl : s < L := by
      have : s ≠ L := fun z => c1 (by rw [es]; exact (q_div_one hL).mpr z)
      omega
    have sh1 : sh a < 1 := by rw [es]; exact (q_div_lt hL).mpr sl
    have hs : HsOk hv (sh a) := ⟨hv0, hv1, c2, sh1⟩
    have op : opR (sh a) := ⟨c2, sh1⟩
    have eZ : stepZ sh mk (Z, hv) a = (cmZ hv (sh a) (mk a) Z, comeM hv (sh a)) := by
      unfold stepZ
      rw [if_neg c1, if_pos c2]
    rw [if_pos op] at I' U' M'
    rw [eZ]
    rw [← hM] at I' U' M'
    refine ⟨M'.symm, fun c hc2 hpc => ?_, fun hp3 => ?_⟩
    · show evZ (inF c) (cmZ hv (sh a) (mk a) Z) = _ ∧ evZ (upF c) (cmZ hv (sh a) (mk a) Z) = _
      rw [evZ_cm0 hs nn, evZ_cm0 hs nn, I', U']
      rcases bc1 c hc2 hpc with ⟨e1, e2⟩ | ⟨e1, e2⟩
      · have ne := un_ne hu (a := a) hc2 (by rw [e2]; exact (c_ne c hc2).1.symm)
        obtain ⟨q1, q2⟩ := hSc c hc2 e1
        rw [e2]
        constructor
        · rw [evZ_two (g := inF c) (k := upF c) (x := 1) (y := if hv + sh a < 1 then 0 else wF hv (sh a)) fun z hz => by rw [oth_in hs c hc2 _ (lkP c e1 z hz), Rat.mul_one], q1, q2]
          unfold comeI
          split
          · rw [setF_ne ne]; grind
          · dsimp only
            rw [if_neg ne]
            unfold wF
            grind
        · rw [evZ_congr (f := fun k => (if hv + sh a < 1 then hv / (hv + sh a) else if hv + sh a = 1 then 0 else 1 - wF hv (sh a)) * upF c k) fun z hz => by rw [oth_up hs c hc2 _ (lkP c e1 z hz), Rat.mul_comm], evZ_mulf, q2]
          unfold comeU
          split
          · rw [setF_ne ne]; grind
          · split
            · grind
            · rw [setF_ne ne]
              unfold wF
              grind
      · have ea := un_of c hc2 e2
        rw [evZ_at h.tb e1, evZ_at h.tb e1, ← ea, e2, fst_in hs c hc2, fst_up hs c hc2]
        constructor
        · unfold comeI
          split
          · rw [setF_eq]
          · dsimp only
            rw [if_pos rfl]
            rfl
        · unfold comeU
          split
          · rw [setF_eq]
          · split
            · rfl
            · rw [setF_eq]
              rfl
    · show evZ (finF (comeM hv (sh a))) (cmZ hv (sh a) (mk a) Z) = _
      rw [evZ_cm0 hs nn]
      rcases bc3 hp3 with ⟨e1, e2⟩ | ⟨c, hc2, e1, e2⟩
      · rw [Gn e2, ← hSf e1, e2]
        exact evZ_congr fun z hz => aft_fin hs _ (lkP 3 e1 z hz)
      · obtain ⟨q1, q2⟩ := hSc c hc2 e1
        rw [Gd c hc2 e1 e2, e2, evZ_two (g := inF c) (k := upF c) (x := sh a) (y := if 1 < hv + sh a then hv + sh a - 1 else 0) fun z hz => snd_fin hs c hc2 _ (lkP c e1 z hz), q1, q2, ← hM]
        unfold togF
        split <;> grind
  · have sz : sh a = 0 := by
      have : s = 0 := by
        rcases Int.lt_or_eq_of_le s0 with z | z
        · exact absurd (by rw [es]; exact (q_div_pos hL).mpr z) c2
        · exact z.symm
      rw [es, this, Rat.intCast_zero, Rat.div_def, Rat.zero_mul]
    have nop : ¬ opR (sh a) := fun z => c2 z.1
    have eZ : stepZ sh mk (Z, hv) a = (Z, hv) := by
      unfold stepZ
      rw [if_neg c1, if_neg c2]
    rw [if_neg nop] at I' U' M'
    rw [eZ]
    refine ⟨by rw [M']; exact hM, fun c hc2 hpc => ?_, fun hp3 => ?_⟩
    · show evZ (inF c) Z = _ ∧ evZ (upF c) Z = _
      rw [I', U']
      rcases bc1 c hc2 hpc with ⟨e1, e2⟩ | ⟨e1, e2⟩
      · have ne := un_ne hu (a := a) hc2 (by rw [e2]; exact (c_ne c hc2).1.symm)
        obtain ⟨q1, q2⟩ := hSc c hc2 e1
        rw [setF_ne ne, setF_ne ne]
        exact ⟨q1, q2⟩
      · have ea := un_of c hc2 e2
        rw [evZ_at h.tb e1, evZ_at h.tb e1, ← ea, setF_eq, setF_eq, sz]
        unfold inF upF
        exact ⟨if_neg (c_ne c hc2).1.symm, if_neg (c_ne c hc2).1.symm⟩
    · show evZ (finF hv) Z = _
      rcases bc3 hp3 with ⟨e1, e2⟩ | ⟨c, hc2, e1, e2⟩
      · rw [Gn e2]
        exact hSf e1
      · rw [Gd c hc2 e1 e2, evZ_congr (f := fun _ => 0) fun z hz => non_fin c hc2 _ (lkP c e1 z hz), evZ_zero, sz, ← hM]
        unfold togF
        split
        · grind
        · grind
theorem stZ_succ {sh : Int → Rat} {mk : Int → Int} {ord : List Int} {i : Nat} {a : Int} (h : ord[i]? = some a) : stZ sh mk ord (i + 1) = stepZ sh mk (stZ sh mk ord i) a := by
  show (match ord[i]? with | some a => stepZ sh mk (stZ sh mk ord i) a | none => stZ sh mk ord i) = _
  rw [h]
theorem stB_succ {sh : Int → Rat} {ord : List Int} {i : Nat} {a : Int} (h : ord[i]? = some a) : stB sh ord (i + 1) = stepB sh (ord.take i) (stB sh ord i) a := by
  show (match ord[i]? with | some a => stepB sh (ord.take i) (stB sh ord i) a | none => stB sh ord i) = _
  rw [h]
theorem nd_take {ord : List Int} (hn : ord.Nodup) {i : Nat} {a : Int} (ha : ord[i]? = some a) : a ∉ ord.take i := fun z => by
  obtain ⟨j, hj, e⟩ := List.getElem_of_mem z
  rw [List.getElem_take] at e
  rw [List.length_take] at hj
  have := (List.getElem?_inj (i := j) (j := i) (by omega) hn).mp (by rw [ha, List.getElem?_eq_getElem (by omega), e])
  omega
theorem tk_succ {ord : List Int} {i : Nat} {a : Int} (ha : ord[i]? = some a) : ord.take (i + 1) = ord.take i ++ [a] := by rw [List.take_succ, ha]; rfl
/-- all steps' bounds -/
theorem ti_all {L : Int} {sh : Int → Rat} {mk : Int → Int} {ord : List Int} (hL : 0 < L) (h2 : L ≤ 1000000000) (ok : MkOk mk) (hn : ord.Nodup) (hs : ∀ a ∈ ord, ∃ s : Int, sh a = (s : Rat) / L ∧ 0 ≤ s ∧ s ≤ L) : ∀ i, i ≤ ord.length → ∃ P, TI L mk (ord.take i) i (stZ sh mk ord i) P
  | 0, _ => ⟨0, ⟨0, by show (0 : Rat) = _; rw [Rat.intCast_zero, Rat.div_def, Rat.zero_mul], by omega, hL⟩, .start, fun m hm => by
    rw [List.take_zero]
    simp only [List.mem_cons, List.not_mem_nil, or_false] at hm
    rcases hm with rfl | rfl
    · simp [b01]
    · simp [b02]⟩
  | i + 1, h => by
    obtain ⟨P, k⟩ := ti_all hL h2 ok hn hs i (by omega)
    have ha : ord[i]? = some ord[i] := List.getElem?_eq_getElem (by omega)
    obtain ⟨s, es, s0, s1⟩ := hs _ (List.getElem_mem (show i < ord.length by omega))
    rw [stZ_succ ha, tk_succ ha]
    exact ⟨_, k.step hL h2 ok (nd_take hn ha) es s0 s1⟩
theorem sem_all {L : Int} {sh : Int → Rat} {mk un : Int → Int} {ord : List Int} (hL : 0 < L) (h2 : L ≤ 1000000000) (ok : MkOk mk) (hu : ∀ c ∈ [(1 : Int), 2], mk (un c) = c) (hn : ord.Nodup) (hs : ∀ a ∈ ord, ∃ s : Int, sh a = (s : Rat) / L ∧ 0 ≤ s ∧ s ≤ L) : ∀ i, i ≤ ord.length → ∃ P, TI L mk (ord.take i) i (stZ sh mk ord i) P ∧ Sem un (stB sh ord i) (stZ sh mk ord i) P
  | 0, h => by
    have k : TI L mk (ord.take 0) 0 (stZ sh mk ord 0) 0 := ⟨⟨0, by show (0 : Rat) = _; rw [Rat.intCast_zero, Rat.div_def, Rat.zero_mul], by omega, hL⟩, .start, fun m hm => by
      rw [List.take_zero]
      simp only [List.mem_cons, List.not_mem_nil, or_false] at hm
      rcases hm with rfl | rfl
      · simp [b01]
      · simp [b02]⟩
    exact ⟨0, k, rfl, fun c hc e => absurd e.symm (c_ne c hc).1, (fun z => absurd z (by decide))⟩
  | i + 1, h => by
    obtain ⟨P, k, z⟩ := sem_all hL h2 ok hu hn hs i (by omega)
    have ha : ord[i]? = some ord[i] := List.getElem?_eq_getElem (by omega)
    obtain ⟨s, es, s0, s1⟩ := hs _ (List.getElem_mem (show i < ord.length by omega))
    rw [stZ_succ ha, tk_succ ha, stB_succ ha]
    exact ⟨_, k.step hL h2 ok (nd_take hn ha) es s0 s1, z.step k hL ok hu (nd_take hn ha) es s0 s1⟩
def dueR (sh : Int → Rat) (mk : Int → Int) (ord : List Int) : Rat := evZ (finF (stZ sh mk ord ord.length).2) (stZ sh mk ord ord.length).1
/-- the table tells what the matrix has -/
theorem due_eq {L : Int} {sh : Int → Rat} {mk un : Int → Int} {ord : List Int} (hL : 0 < L) (h2 : L ≤ 1000000000) (ok : MkOk mk) (hu : ∀ c ∈ [(1 : Int), 2], mk (un c) = c) (hn : ord.Nodup) (hs : ∀ a ∈ ord, ∃ s : Int, sh a = (s : Rat) / L ∧ 0 ≤ s ∧ s ≤ L) (m1 : un 1 ∈ ord) (m2 : un 2 ∈ ord) : dueR sh mk ord = (stB sh ord ord.length).G (un 1) (un 2) := by
  obtain ⟨P, k, z⟩ := sem_all hL h2 ok hu hn hs ord.length (Nat.le_refl _)
  rw [List.take_length] at k
  refine z.f ?_
  have a1 := (k.arr 1 (by decide)).mpr ⟨un 1, m1, hu 1 (by decide)⟩
  have a2 := (k.arr 2 (by decide)).mpr ⟨un 2, m2, hu 2 (by decide)⟩
  have hp := k.tb.p
  simp only [List.mem_cons, List.not_mem_nil, or_false] at hp
  rcases hp with rfl | rfl | rfl | rfl
  · rw [b01] at a1; exact absurd a1 (by decide)
  · rw [b12] at a2; exact absurd a2 (by decide)
  · rw [b21] at a1; exact absurd a1 (by decide)
  · rfl
/-- a duel over L -/
theorem duel_key {a b L : Int} (hL : 0 < L) : ∃ bt f g : Int, (low a L).2 * (shr (low b L).2 (low a L).2).1 = bt ∧ 0 < bt ∧ (low a L).1 * (bt / (low a L).2) = f ∧ (low b L).1 * (bt / (low b L).2) = g ∧ f * L = a * bt ∧ g * L = b * bt ∧ (low a L).2 * (low b L).2 / gc (low a L).2 (low b L).2 = bt := by
  have p1 := low_pos (t := a) hL
  have p2 := low_pos (t := b) hL
  have e1 := low_eq (t := a) hL
  have e2 := low_eq (t := b) hL
  generalize (low a L).1 = x1 at *
  generalize (low a L).2 = x2 at *
  generalize (low b L).1 = y1 at *
  generalize (low b L).2 = y2 at *
  have hg := gc_pos (a := y2) (b := x2) (by omega)
  have d1 : gc y2 x2 ∣ y2 := gc_dl
  have d2' : gc y2 x2 ∣ x2 := gc_dr
  have es : (shr y2 x2).1 = y2 / gc y2 x2 := by rw [shr_low (by omega)]; rfl
  obtain ⟨m, hm⟩ := d1
  obtain ⟨n, hn⟩ := d2'
  have hgc : gc x2 y2 = gc y2 x2 := by unfold gc; rw [Int.gcd_comm]
  have hym : y2 / gc y2 x2 = m := by
    conv => lhs; lhs; rw [hm]
    rw [Int.mul_ediv_cancel_left _ (by omega)]
  have hm0 : 0 < m := by
    have : 0 < gc y2 x2 * m := by rw [← hm]; omega
    exact Int.pos_of_mul_pos_right this (by omega)
  refine ⟨x2 * m, x1 * m, y1 * n, by rw [es, hym], Int.mul_pos (by omega) hm0, by rw [Int.mul_ediv_cancel_left _ (by omega)], ?_, ?_, ?_, ?_⟩
  · have : x2 * m / y2 = n := by
      have h : x2 * m = y2 * n := by
        conv => lhs; lhs; rw [hn]
        conv => rhs; lhs; rw [hm]
        simp only [Int.mul_comm, Int.mul_left_comm, Int.mul_assoc]
      rw [h, Int.mul_ediv_cancel_left _ (by omega)]
    rw [this]
  · rw [show x1 * m * L = (x1 * L) * m by simp only [Int.mul_comm, Int.mul_left_comm, Int.mul_assoc], e1]
    simp only [Int.mul_comm, Int.mul_left_comm, Int.mul_assoc]
  · rw [show y1 * n * L = (y1 * L) * n by simp only [Int.mul_comm, Int.mul_left_comm, Int.mul_assoc], e2]
    have h : x2 * m = y2 * n := by
      conv => lhs; lhs; rw [hn]
      conv => rhs; lhs; rw [hm]
      simp only [Int.mul_comm, Int.mul_left_comm, Int.mul_assoc]
    rw [h]
    simp only [Int.mul_comm, Int.mul_left_comm, Int.mul_assoc]
  · have h : x2 * y2 = gc y2 x2 * (x2 * m) := by
      conv => lhs; rhs; rw [hm]
      simp only [Int.mul_comm, Int.mul_left_comm, Int.mul_assoc]
    rw [hgc, h, Int.mul_ediv_cancel_left _ (by omega)]
theorem sides_pos {a b L : Int} (hL : 0 < L) (ha : 0 < a ∧ a < L) (hb : 0 < b ∧ b < L) : 0 < (sidesD L a b).1 ∧ 0 < (sidesD L a b).2 := by
  obtain ⟨bt, f, g, e1, h0, e2, e3, e4, e5, _⟩ := duel_key (a := a) (b := b) hL
  have ff : 0 < f ∧ f < bt := by
    have h1 : 0 < f * L := by rw [e4]; exact Int.mul_pos ha.1 h0
    have h2 : f * L < bt * L := by
      rw [e4, Int.mul_comm bt]
      exact Int.mul_lt_mul_of_pos_right ha.2 h0
    exact ⟨Int.pos_of_mul_pos_left h1 (by omega), Int.lt_of_mul_lt_mul_right h2 (by omega)⟩
  have gg : 0 < g ∧ g < bt := by
    have h1 : 0 < g * L := by rw [e5]; exact Int.mul_pos hb.1 h0
    have h2 : g * L < bt * L := by
      rw [e5, Int.mul_comm bt]
      exact Int.mul_lt_mul_of_pos_right hb.2 h0
    exact ⟨Int.pos_of_mul_pos_left h1 (by omega), Int.lt_of_mul_lt_mul_right h2 (by omega)⟩
  unfold sidesD sidesF
  dsimp only
  rw [e1, e2, e3]
  split
  · exact ⟨ff.1, gg.1⟩
  · exact ⟨by show 0 < bt - g; omega, by show 0 < bt - f; omega⟩
/-! the ways of duels, in shares -/
theorem sides_q {L a b : Int} (hL : 0 < L) (ha : 0 < a ∧ a < L) (hb : 0 < b ∧ b < L) : 0 < (sidesD L a b).1 + (sidesD L a b).2 ∧ ((sidesD L a b).1 : Rat) / (((sidesD L a b).1 + (sidesD L a b).2 : Int) : Rat) = pA ((a : Rat) / L) ((b : Rat) / L) ∧ ((sidesD L a b).2 : Rat) / (((sidesD L a b).1 + (sidesD L a b).2 : Int) : Rat) = pB ((a : Rat) / L) ((b : Rat) / L) ∧ 0 < (sidesD L a b).1 ∧ (sidesD L a b).1 ≤ L ∧ 0 < (sidesD L a b).2 ∧ (sidesD L a b).2 ≤ L := by
  obtain ⟨sp1, sp2⟩ := sides_pos hL ha hb
  obtain ⟨bt, f, g, e1, h0, e2, e3, e4, e5, e6⟩ := duel_key (a := a) (b := b) hL
  have btL : bt ≤ L := by
    have p1 := low_pos (t := a) hL
    have d1 : f * L = a * bt := e4
    rw [← e6]
    have hd : (low a L).2 * (low b L).2 / gc (low a L).2 (low b L).2 ∣ L := by
      have c1 : (low a L).2 ∣ L := ⟨gc a L, by rw [show (low a L).2 = L / gc a L from rfl, Int.ediv_mul_cancel gc_dr]⟩
      have c2 : (low b L).2 ∣ L := ⟨gc b L, by rw [show (low b L).2 = L / gc b L from rfl, Int.ediv_mul_cancel gc_dr]⟩
      have hl := Nat.lcm_dvd (Int.natAbs_dvd_natAbs.mpr c1) (Int.natAbs_dvd_natAbs.mpr c2)
      have el : ((Int.lcm (low a L).2 (low b L).2 : Nat) : Int) = (low a L).2 * (low b L).2 / gc (low a L).2 (low b L).2 := by
        unfold Int.lcm gc Nat.lcm
        have p2 := low_pos (t := b) hL
        generalize (low a L).2 = x at *
        generalize (low b L).2 = y at *
        rw [Int.natCast_ediv, Int.natCast_mul, Int.natAbs_of_nonneg (by omega), Int.natAbs_of_nonneg (by omega)]
        rfl
      rw [← el]
      have h3 : ((Nat.lcm (low a L).2.natAbs (low b L).2.natAbs : Nat) : Int) ∣ ((L.natAbs : Nat) : Int) := Int.natCast_dvd_natCast.mpr hl
      rw [Int.natAbs_of_nonneg (show 0 ≤ L by omega)] at h3
      exact h3
    exact Int.le_of_dvd hL hd
  have hs : sidesD L a b = if f + g < bt then (f, g) else (bt - g, bt - f) := by
    unfold sidesD sidesF
    dsimp only
    rw [e1, e2, e3]
  have hLq := iq_pos hL
  have hbq := iq_pos h0
  have q4 : (f : Rat) * L = a * bt := by rw [← Rat.intCast_mul, ← Rat.intCast_mul, e4]
  have q5 : (g : Rat) * L = b * bt := by rw [← Rat.intCast_mul, ← Rat.intCast_mul, e5]
  have fq : (f : Rat) = (a : Rat) / L * bt := by grind
  have gq : (g : Rat) = (b : Rat) / L * bt := by grind
  have aq := iq_pos ha.1
  have bq := iq_pos hb.1
  have lt1 : f + g < bt ↔ (a : Rat) / L + (b : Rat) / L < 1 := by
    have e : ((f + g : Int) : Rat) = ((a : Rat) / L + (b : Rat) / L) * bt := by rw [Rat.intCast_add, fq, gq]; grind
    rw [← Rat.intCast_lt_intCast, e]
    constructor
    · intro h
      rcases (Rat.le_total : (a : Rat) / L + (b : Rat) / L ≤ 1 ∨ 1 ≤ (a : Rat) / L + (b : Rat) / L) with z | z
      · rcases Rat.le_iff_lt_or_eq.mp z with y | y
        · exact y
        · rw [y] at h; grind
      · have := Rat.mul_le_mul_of_nonneg_right z (Rat.le_of_lt hbq)
        grind
    · intro h
      have := Rat.mul_lt_mul_of_pos_right h hbq
      grind
  have ga := div_pos' aq hLq
  have gb := div_pos' bq hLq
  have a1 : (a : Rat) / L < 1 := (q_div_lt hL).mpr ha.2
  have b1 : (b : Rat) / L < 1 := (q_div_lt hL).mpr hb.2
  rw [hs] at sp1 sp2 ⊢
  generalize (a : Rat) / L = x at *
  generalize (b : Rat) / L = y at *
  have hbn : (bt : Rat) ≠ 0 := by grind
  by_cases c : f + g < bt
  · have c' := lt1.mp c
    rw [if_pos c] at sp1 sp2 ⊢
    dsimp only at sp1 sp2 ⊢
    have xy : x + y ≠ 0 := by grind
    refine ⟨by omega, ?_, ?_, sp1, by omega, sp2, by omega⟩
    · rw [Rat.intCast_add, fq, gq]
      unfold pA
      rw [if_pos c']
      have : x * bt + y * bt ≠ 0 := by
        have : x * bt + y * bt = (x + y) * bt := by grind
        rw [this]
        intro z
        rcases Rat.mul_eq_zero.mp z with z | z <;> grind
      grind
    · rw [Rat.intCast_add, fq, gq]
      unfold pB
      rw [if_pos c']
      have : x * bt + y * bt ≠ 0 := by
        have : x * bt + y * bt = (x + y) * bt := by grind
        rw [this]
        intro z
        rcases Rat.mul_eq_zero.mp z with z | z <;> grind
      grind
  · have c' : ¬ x + y < 1 := fun z => c (lt1.mpr z)
    rw [if_neg c] at sp1 sp2 ⊢
    dsimp only at sp1 sp2 ⊢
    have xy : 2 - (x + y) ≠ 0 := by grind
    have hf0 : 0 < f := by
      have h : (0 : Rat) < (f : Rat) := by
        rw [fq]
        have := Rat.mul_pos ga hbq
        grind
      exact Rat.intCast_pos.mp h
    have hg0 : 0 < g := by
      have h : (0 : Rat) < (g : Rat) := by
        rw [gq]
        have := Rat.mul_pos gb hbq
        grind
      exact Rat.intCast_pos.mp h
    have den : bt * (2 - (x + y)) ≠ 0 := by
      intro z
      rcases Rat.mul_eq_zero.mp z with z | z <;> grind
    refine ⟨by omega, ?_, ?_, sp1, by omega, sp2, by omega⟩
    · rw [Rat.intCast_add, Rat.intCast_sub, Rat.intCast_sub, fq, gq]
      unfold pA
      rw [if_neg c']
      have e1 : (bt : Rat) - y * bt = bt * (1 - y) := by grind
      have e2 : bt * (1 - y) + ((bt : Rat) - x * bt) = bt * (2 - (x + y)) := by grind
      rw [e1, e2]
      grind
    · rw [Rat.intCast_add, Rat.intCast_sub, Rat.intCast_sub, fq, gq]
      unfold pB
      rw [if_neg c']
      have e1 : (bt : Rat) - x * bt = bt * (1 - x) := by grind
      have e2 : ((bt : Rat) - y * bt) + bt * (1 - x) = bt * (2 - (x + y)) := by grind
      rw [e1, e2]
      grind
def dep (u : Option Ps) (c : List Ps) : Nat := c.length + (if u.isSome = true then 1 else 0)
def tU : Option Ps → Int
  | none => 0
  | some p => p.2
def mU (mk : Int → Int) : Option Ps → Int
  | none => 0
  | some p => mk p.1
def mask (mk : Int → Int) : List Int → Int
  | [] => 0
  | k :: ks => bor (mk k) (mask mk ks)
theorem bor_laws : ∀ i ∈ [(0 : Int), 1, 2, 3], ∀ j ∈ [(0 : Int), 1, 2, 3], bor i j ∈ [(0 : Int), 1, 2, 3] ∧ bor i j = bor j i ∧ bor 0 j = j ∧ bor i 0 = i ∧ ∀ k ∈ [(0 : Int), 1, 2, 3], bor (bor i j) k = bor i (bor j k) := by decide +kernel
theorem m012 : ∀ i ∈ [(0 : Int), 1, 2], i ∈ [(0 : Int), 1, 2, 3] := by decide
theorem mask_in {mk : Int → Int} (h : ∀ a, mk a ∈ [(0 : Int), 1, 2]) : ∀ ks, mask mk ks ∈ [(0 : Int), 1, 2, 3]
  | [] => by show (0 : Int) ∈ [(0 : Int), 1, 2, 3]; decide
  | k :: ks => (bor_laws _ (m012 _ (h k)) _ (mask_in h ks)).1
theorem mask_snoc {mk : Int → Int} (h : ∀ a, mk a ∈ [(0 : Int), 1, 2]) (a : Int) : ∀ ks, mask mk (ks ++ [a]) = bor (mask mk ks) (mk a)
  | [] => by
    have b := bor_laws _ (m012 _ (h a)) 0 (by decide)
    show bor (mk a) 0 = bor 0 (mk a)
    rw [b.2.2.2.1]
    exact (bor_laws 0 (by decide) _ (m012 _ (h a))).2.2.1.symm
  | k :: ks => by
    show bor (mk k) (mask mk (ks ++ [a])) = bor (bor (mk k) (mask mk ks)) (mk a)
    rw [mask_snoc h a ks]
    exact ((bor_laws _ (m012 _ (h k)) _ (mask_in h ks)).2.2.2.2 _ (m012 _ (h a))).symm
theorem evW_app (g : List Int → Rat) : ∀ (x y : Wt), evW g (x ++ y) = evW g x + evW g y
  | [], y => by show evW g y = 0 + evW g y; grind
  | z :: x, y => by
    show z.2 * g z.1 + evW g (x ++ y) = z.2 * g z.1 + evW g x + evW g y
    rw [evW_app g x y]
    grind
theorem duel_none (L : Int) (o : Ps) (c : List Ps) (ks : List Int) : duelN L none (o :: c) ks = duelN L (some o) c ks := by
  cases c <;> rfl
theorem duel_due (L : Int) (u o : Ps) (c : List Ps) (ks : List Int) : duelN L (some u) (o :: c) ks = .due L u o c ks := rfl
/-- what is behind a duel, as one of three -/
theorem play_as (L : Int) (w l : Ps) (c : List Ps) (ks : List Int) : playN L w l c ks = if w.2 + l.2 < L then duelN L (some (w.1, w.2 + l.2)) c ks else duelN L (if w.2 + l.2 = L then none else some (l.1, w.2 + l.2 - L)) c (ks ++ [w.1]) := by
  unfold playN
  split
  · rfl
  · split <;> rfl
structure Up2 (L : Int) (u : Option Ps) : Prop where
  op : ∀ p, u = some p → OpP L p
theorem up_some {L : Int} {p : Ps} (h : OpP L p) : Up2 L (some p) := ⟨fun q e => by cases e; exact h⟩
theorem up_none {L : Int} : Up2 L none := ⟨fun _ e => nomatch e⟩
theorem up_tU {L : Int} {u : Option Ps} (hL : 0 < L) (h : Up2 L u) : 0 ≤ tU u ∧ tU u < L := by
  cases u with
  | none => exact ⟨Int.le_refl 0, hL⟩
  | some p => have := h.op p rfl; unfold OpP at this; show 0 ≤ p.2 ∧ p.2 < L; omega
/-- the step behind a duel: who is up, the kept ones -/
def plU (L : Int) (w l : Ps) : Option Ps := if w.2 + l.2 < L then some (w.1, w.2 + l.2) else if w.2 + l.2 = L then none else some (l.1, w.2 + l.2 - L)
def plK (L : Int) (w l : Ps) (ks : List Int) : List Int := if w.2 + l.2 < L then ks else ks ++ [w.1]
theorem play_eq (L : Int) (w l : Ps) (c : List Ps) (ks : List Int) : playN L w l c ks = duelN L (plU L w l) c (plK L w l ks) := by
  unfold playN plU plK
  split
  · rfl
  · split <;> rfl
def nxT (L t s : Int) : Int := if t + s < L then t + s else t + s - L
theorem plU_t {L : Int} {w l : Ps} : tU (plU L w l) = nxT L w.2 l.2 := by
  unfold plU nxT
  split
  · rfl
  · split
    · rename_i h; show (0 : Int) = _; omega
    · rfl
theorem plU_op {L : Int} {w l : Ps} (hw : OpP L w) (hl : OpP L l) : Up2 L (plU L w l) := by
  unfold OpP at hw hl
  unfold plU
  split
  · exact up_some ⟨by show 0 < w.2 + l.2; omega, by assumption⟩
  · split
    · exact up_none
    · exact up_some ⟨by show 0 < w.2 + l.2 - L; omega, by show w.2 + l.2 - L < L; omega⟩
theorem plU_dep {L : Int} {w l : Ps} {c : List Ps} : dep (plU L w l) c ≤ c.length + 1 := by
  unfold dep
  split <;> omega
theorem ways_due {L : Int} {u o : Ps} {c : List Ps} {ks : List Int} {d : Nat} {r : Rat} : waysN (d + 1) (.due L u o c ks) r = waysN d (playN L u o c ks) (r * (((sidesD L u.2 o.2).1 : Rat) / (((sidesD L u.2 o.2).1 + (sidesD L u.2 o.2).2 : Int) : Rat))) ++ waysN d (playN L o u c ks) (r * (((sidesD L u.2 o.2).2 : Rat) / (((sidesD L u.2 o.2).1 + (sidesD L u.2 o.2).2 : Int) : Rat))) := by
  rw [waysN_none rfl]
  have e : sidesN (.due L u o c ks) = (sidesD L u.2 o.2).1 + (sidesD L u.2 o.2).2 := by
    show ([(sidesD L u.2 o.2).1, (sidesD L u.2 o.2).2] : List Int).sum = _
    simp
  rw [e]
  show (waysN _ _ _ ++ (waysN _ _ _ ++ [])) = _
  rw [List.append_nil]
theorem ways_lst {L : Int} {u : Ps} {ks : List Int} {d : Nat} {r : Rat} (hL : 0 < L) : waysN (d + 1) (.lst L u ks) r = [(srtI (ks ++ [u.1]), r * ((u.2 : Rat) / L)), (srtI ks, r * (1 - (u.2 : Rat) / L))] := by
  rw [waysN_none rfl]
  have e : sidesN (.lst L u ks) = (low u.2 L).2 := by
    show ([(low u.2 L).1, (low u.2 L).2 - (low u.2 L).1] : List Int).sum = _
    simp
    omega
  rw [e]
  have q := q_nd ((u.2 : Rat) / L)
  have hl : low u.2 L = qt ((u.2 : Rat) / L) := low_qt hL rfl
  have h1 : (((low u.2 L).1 : Int) : Rat) / (((low u.2 L).2 : Int) : Rat) = (u.2 : Rat) / L := by rw [hl]; exact q
  have p1 := low_pos (t := u.2) hL
  have h2 : (((low u.2 L).2 - (low u.2 L).1 : Int) : Rat) / (((low u.2 L).2 : Int) : Rat) = 1 - (u.2 : Rat) / L := by
    have hp := iq_pos (show 0 < (low u.2 L).2 by omega)
    rw [Rat.intCast_sub, ← h1]
    grind
  have w1 : ∀ x, waysN d (.tol (ks ++ [u.1])) x = [(srtI (ks ++ [u.1]), x)] := fun x => waysN_some rfl
  have w2 : ∀ x, waysN d (.tol ks) x = [(srtI ks, x)] := fun x => waysN_some rfl
  show (waysN d (.tol (ks ++ [u.1])) _ ++ (waysN d (.tol ks) _ ++ [])) = _
  rw [w1, w2, h1, h2]
  rfl
theorem tree_up : ∀ {d : Nat} {n : Nd}, TreeOk d n → TreeOk (d + 1) n
  | 0, _, h => .inl h
  | _ + 1, _, .inl h => .inl h
  | _ + 1, _, .inr ⟨a, b, c, e⟩ => .inr ⟨a, b, c, fun p hp => ⟨(e p hp).1, tree_up (e p hp).2⟩⟩
theorem tree_to {n : Nd} {d e : Nat} (h : TreeOk d n) (k : d ≤ e) : TreeOk e n := by
  induction e with
  | zero => rw [show d = 0 by omega] at h; exact h
  | succ e ih =>
    by_cases c : d ≤ e
    · exact tree_up (ih c)
    · rw [show d = e + 1 by omega] at h; exact h
theorem duel_tree {L : Int} (hL : 0 < L) (h2 : L ≤ 1000000000) : ∀ (c : List Ps) (u : Option Ps) (ks : List Int), Up2 L u → (∀ p ∈ c, OpP L p) → TreeOk (dep u c) (duelN L u c ks)
  | [], none, ks, _, _ => by
    show told (.tol ks) ≠ none
    exact fun z => nomatch z
  | [], some u, ks, hu, _ => by
    have ou := hu.op u rfl
    have b := low_bL (a := u.2) hL h2 ⟨by unfold OpP at ou; omega, by unfold OpP at ou; omega⟩
    refine .inr ?_
    have e : sidesN (.lst L u ks) = (low u.2 L).2 := by
      show ([(low u.2 L).1, (low u.2 L).2 - (low u.2 L).1] : List Int).sum = _
      simp
      omega
    show 0 < sidesN (.lst L u ks) ∧ Bd 64 (sidesN (.lst L u ks)) ∧ _
    rw [e]
    refine ⟨by omega, b.2.2, by show 2 ≤ 100; decide, fun p hp => ?_⟩
    have o1 := (low_opn (a := u.2) hL).mpr ou
    have o2 := low_dvd (a := u.2) hL
    replace hp : p ∈ [((low u.2 L).1, Nd.tol (ks ++ [u.1])), ((low u.2 L).2 - (low u.2 L).1, .tol ks)] := hp
    simp only [List.mem_cons, List.not_mem_nil, or_false] at hp
    rcases hp with rfl | rfl
    · exact ⟨b.2.1, fun z => nomatch z⟩
    · exact ⟨bd_64 (by dsimp only; omega), fun z => nomatch z⟩
  | o :: c, none, ks, _, hc => by
    rw [duel_none]
    have := duel_tree hL h2 c (some o) ks (up_some (hc o List.mem_cons_self)) fun p hp => hc p (List.mem_cons_of_mem _ hp)
    exact this
  | o :: c, some u, ks, hu, hc => by
    have ou := hu.op u rfl
    have oo := hc o List.mem_cons_self
    obtain ⟨s0, _, _, s1, s2, s3, s4⟩ := sides_q hL ou oo
    rw [duel_due]
    refine .inr ?_
    have e : sidesN (.due L u o c ks) = (sidesD L u.2 o.2).1 + (sidesD L u.2 o.2).2 := by
      show ([(sidesD L u.2 o.2).1, (sidesD L u.2 o.2).2] : List Int).sum = _
      simp
    have T : ∀ w l, OpP L w → OpP L l → TreeOk (c.length + 1) (playN L w l c ks) := fun w l hw hl => by
      rw [play_eq]
      exact tree_to (duel_tree hL h2 c _ _ (plU_op hw hl) fun p hp => hc p (List.mem_cons_of_mem _ hp)) plU_dep
    show 0 < sidesN (.due L u o c ks) ∧ Bd 64 (sidesN (.due L u o c ks)) ∧ _
    rw [e]
    refine ⟨s0, bd_64 (by omega), by show 2 ≤ 100; decide, fun p hp => ?_⟩
    replace hp : p ∈ [((sidesD L u.2 o.2).1, playN L u o c ks), ((sidesD L u.2 o.2).2, playN L o u c ks)] := hp
    simp only [List.mem_cons, List.not_mem_nil, or_false] at hp
    rcases hp with rfl | rfl
    · exact ⟨bd_64 (by dsimp only; omega), T u o ou oo⟩
    · exact ⟨bd_64 (by dsimp only; omega), T o u oo ou⟩
theorem parts2 : ∀ n : Nd, (parts n).length ≤ 2
  | .tol _ => by show 0 ≤ 2; decide
  | .lst _ _ _ => Nat.le_refl 2
  | .due _ _ _ _ _ => Nat.le_refl 2
theorem ways_len2 : ∀ (d : Nat) (n : Nd) (r : Rat), (waysN d n r).length ≤ 2 ^ d
  | 0, n, r => by
    unfold waysN
    cases told n <;> simp
  | d + 1, n, r => by
    cases h : told n with
    | some ks =>
      rw [waysN_some h]
      have := Nat.pow_pos (n := d + 1) (show 0 < 2 by decide)
      show 1 ≤ _
      omega
    | none =>
      rw [waysN_none h]
      have hp := parts2 n
      have ih := ways_len2 d
      generalize sidesN n = sn
      generalize parts n = l at hp ⊢
      match l, hp with
      | [], _ => exact Nat.zero_le _
      | [a], _ =>
        show (waysN d a.2 (r * ((a.1 : Rat) / sn)) ++ []).length ≤ _
        rw [List.append_nil]
        have := ih a.2 (r * ((a.1 : Rat) / sn))
        rw [Nat.pow_succ]
        omega
      | [a, b], _ =>
        show (waysN d a.2 (r * ((a.1 : Rat) / sn)) ++ (waysN d b.2 (r * ((b.1 : Rat) / sn)) ++ [])).length ≤ _
        rw [List.append_nil, List.length_append]
        have i1 := ih a.2 (r * ((a.1 : Rat) / sn))
        have i2 := ih b.2 (r * ((b.1 : Rat) / sn))
        rw [Nat.pow_succ]
        omega
theorem add_lt {L a b : Int} (hL : 0 < L) : ((a : Rat) / L + (b : Rat) / L < 1 ↔ a + b < L) := by
  have hLq := iq_pos hL
  have e : (a : Rat) / L + (b : Rat) / L = ((a + b : Int) : Rat) / L := by rw [Rat.intCast_add]; grind
  rw [e]
  exact q_div_lt hL
theorem add_eq {L a b : Int} (hL : 0 < L) : ((a : Rat) / L + (b : Rat) / L = 1 ↔ a + b = L) := by
  have hLq := iq_pos hL
  have e : (a : Rat) / L + (b : Rat) / L = ((a + b : Int) : Rat) / L := by rw [Rat.intCast_add]; grind
  rw [e]
  exact q_div_one hL
theorem come_nx {L t s : Int} (hL : 0 < L) : comeM ((t : Rat) / L) ((s : Rat) / L) = ((nxT L t s : Int) : Rat) / L := by
  have hLq := iq_pos hL
  unfold comeM nxT
  by_cases c : t + s < L
  · rw [if_pos ((add_lt hL).mpr c), if_pos c, Rat.intCast_add]
    grind
  · rw [if_neg (fun z => c ((add_lt hL).mp z)), if_neg c, Rat.intCast_sub, Rat.intCast_add]
    grind
def bkG (L : Int) (mk : Int → Int) (fin : Rat → Ky → Rat) : Int → List Ps → Ky → Rat
  | t, [], k => fin ((t : Rat) / L) k
  | t, p :: c, k => stp ((t : Rat) / L) ((p.2 : Rat) / L) (mk p.1) (bkG L mk fin (nxT L t p.2) c) k
structure FinOk (L : Int) (mk : Int → Int) (fin : Rat → Ky → Rat) (f : List Int → Rat) : Prop where
  m : ∀ a, mk a ∈ [(0 : Int), 1, 2]
  a : ∀ ks, f (srtI ks) = fin (((0 : Int) : Rat) / L) (0, mask mk ks)
  b : ∀ (t u : Int) ks, 0 < t → t < L → (t : Rat) / L * f (srtI (ks ++ [u])) + (1 - (t : Rat) / L) * f (srtI ks) = fin ((t : Rat) / L) (mk u, mask mk ks)
theorem key_A {L : Int} (hL : 0 < L) {mk : Int → Int} (hm : ∀ a, mk a ∈ [(0 : Int), 1, 2]) {u o : Ps} {ks : List Int} : (mU mk (plU L u o), mask mk (plK L u o ks)) = kA ((u.2 : Rat) / L) ((o.2 : Rat) / L) (mk o.1) (mk u.1, mask mk ks) := by
  unfold kA plU plK
  by_cases c : u.2 + o.2 < L
  · rw [if_pos c, if_pos c, if_pos ((add_lt hL).mpr c)]
    rfl
  · rw [if_neg c, if_neg c, if_neg (fun z => c ((add_lt hL).mp z)), mask_snoc hm]
    by_cases d : u.2 + o.2 = L
    · rw [if_pos d, if_pos ((add_eq hL).mpr d)]
      rfl
    · rw [if_neg d, if_neg (fun z => d ((add_eq hL).mp z))]
      rfl
theorem key_B {L : Int} (hL : 0 < L) {mk : Int → Int} (hm : ∀ a, mk a ∈ [(0 : Int), 1, 2]) {u o : Ps} {ks : List Int} : (mU mk (plU L o u), mask mk (plK L o u ks)) = kB ((u.2 : Rat) / L) ((o.2 : Rat) / L) (mk o.1) (mk u.1, mask mk ks) := by
  unfold kB plU plK
  by_cases c : u.2 + o.2 < L
  · rw [if_pos (show o.2 + u.2 < L by omega), if_pos (show o.2 + u.2 < L by omega), if_pos ((add_lt hL).mpr c)]
    rfl
  · rw [if_neg (show ¬ o.2 + u.2 < L by omega), if_neg (show ¬ o.2 + u.2 < L by omega), if_neg (fun z => c ((add_lt hL).mp z)), mask_snoc hm]
    by_cases d : u.2 + o.2 = L
    · rw [if_pos (show o.2 + u.2 = L by omega), if_pos ((add_eq hL).mpr d)]
      rfl
    · rw [if_neg (show ¬ o.2 + u.2 = L by omega), if_neg (fun z => d ((add_eq hL).mp z))]
      rfl
theorem nxT_comm (L t s : Int) : nxT L s t = nxT L t s := by unfold nxT; rw [Int.add_comm]
/-- what a functional comes to over all ways -/
theorem ev_duel {L : Int} (hL : 0 < L) {mk : Int → Int} {fin : Rat → Ky → Rat} {f : List Int → Rat} (F : FinOk L mk fin f) : ∀ (c : List Ps) (u : Option Ps) (ks : List Int) (d : Nat) (r : Rat), Up2 L u → (∀ p ∈ c, OpP L p) → dep u c ≤ d → evW f (waysN d (duelN L u c ks) r) = r * bkG L mk fin (tU u) c (mU mk u, mask mk ks)
  | [], none, ks, d, r, _, _, _ => by
    rw [show waysN d (duelN L none [] ks) r = [(srtI ks, r)] from waysN_some rfl]
    show r * f (srtI ks) + 0 = r * fin (((0 : Int) : Rat) / L) (0, mask mk ks)
    rw [F.a]
    grind
  | [], some u, ks, d, r, hu, _, hd => by
    have ou := hu.op u rfl
    unfold dep at hd
    obtain ⟨e, rfl⟩ : ∃ e, d = e + 1 := ⟨d - 1, by simp at hd; omega⟩
    rw [show duelN L (some u) [] ks = .lst L u ks from rfl, ways_lst hL]
    show r * ((u.2 : Rat) / L) * f (srtI (ks ++ [u.1])) + (r * (1 - (u.2 : Rat) / L) * f (srtI ks) + 0) = r * fin ((u.2 : Rat) / L) (mk u.1, mask mk ks)
    rw [← F.b u.2 u.1 ks ou.1 ou.2]
    grind
  | o :: c, none, ks, d, r, _, hc, hd => by
    have oo := hc o List.mem_cons_self
    rw [duel_none, ev_duel hL F c (some o) ks d r (up_some oo) (fun p hp => hc p (List.mem_cons_of_mem _ hp)) hd]
    have os : (0 : Rat) < (o.2 : Rat) / L := (q_div_pos hL).mpr oo.1
    have o1 : (o.2 : Rat) / L < 1 := (q_div_lt hL).mpr oo.2
    have z0 : ((0 : Int) : Rat) / L = 0 := by rw [Rat.intCast_zero, Rat.div_def, Rat.zero_mul]
    have n0 : nxT L 0 o.2 = o.2 := by unfold nxT; rw [Int.zero_add, if_pos oo.2]
    show r * bkG L mk fin o.2 c (mk o.1, mask mk ks) = r * stp (((0 : Int) : Rat) / L) ((o.2 : Rat) / L) (mk o.1) (bkG L mk fin (nxT L 0 o.2) c) (0, mask mk ks)
    rw [n0, z0]
    generalize (o.2 : Rat) / L = s at os o1
    have lt : 0 + s < 1 := by grind
    have e1 : pA 0 s = 0 := by unfold pA; rw [if_pos lt]; grind
    have e2 : pB 0 s = 1 := by unfold pB; rw [if_pos lt]; grind
    have e3 : kB 0 s (mk o.1) (0, mask mk ks) = (mk o.1, mask mk ks) := if_pos lt
    unfold stp
    rw [e1, e2, e3]
    grind
  | o :: c, some u, ks, d, r, hu, hc, hd => by
    have ou := hu.op u rfl
    have oo := hc o List.mem_cons_self
    have hc2 : ∀ p ∈ c, OpP L p := fun p hp => hc p (List.mem_cons_of_mem _ hp)
    unfold dep at hd
    obtain ⟨e, rfl⟩ : ∃ e, d = e + 1 := ⟨d - 1, by simp at hd; omega⟩
    obtain ⟨_, q1, q2, _⟩ := sides_q hL ou oo
    have dd : c.length + 1 ≤ e := by simp at hd; omega
    rw [duel_due, ways_due, evW_app, q1, q2, play_eq, play_eq, ev_duel hL F c _ _ e _ (plU_op ou oo) hc2 (Nat.le_trans plU_dep dd), ev_duel hL F c _ _ e _ (plU_op oo ou) hc2 (Nat.le_trans plU_dep dd), plU_t, plU_t, nxT_comm L u.2 o.2, key_A hL F.m, key_B hL F.m]
    show _ = r * stp ((u.2 : Rat) / L) ((o.2 : Rat) / L) (mk o.1) (bkG L mk fin (nxT L u.2 o.2) c) (mk u.1, mask mk ks)
    unfold stp
    grind
/-! the law's table, backward -/
def bkO (sh : Int → Rat) (mk : Int → Int) : Rat → List Int → Ky → Rat
  | h, [], k => finF h k
  | h, a :: r, k => if sh a = 1 then bkO sh mk h r (k.1, bor k.2 (mk a)) else if 0 < sh a then stp h (sh a) (mk a) (bkO sh mk (comeM h (sh a)) r) k else bkO sh mk h r k
theorem bk_due {L : Int} {sh : Int → Rat} {mk : Int → Int} {ord : List Int} (hL : 0 < L) (h2 : L ≤ 1000000000) (ok : MkOk mk) (hn : ord.Nodup) (hs : ∀ a ∈ ord, ∃ s : Int, sh a = (s : Rat) / L ∧ 0 ≤ s ∧ s ≤ L) : ∀ j i, i + j = ord.length → evZ (bkO sh mk (stZ sh mk ord i).2 (ord.drop i)) (stZ sh mk ord i).1 = dueR sh mk ord
  | 0, i, h => by
    rw [Nat.add_zero] at h
    subst h
    rw [List.drop_length]
    rfl
  | j + 1, i, h => by
    have hi : i < ord.length := by omega
    have ha : ord[i]? = some ord[i] := List.getElem?_eq_getElem hi
    have ih := bk_due hL h2 ok hn hs j (i + 1) (by omega)
    rw [← ih, stZ_succ ha, List.drop_eq_getElem_cons hi]
    obtain ⟨P, T⟩ := ti_all hL h2 ok hn hs i (by omega)
    obtain ⟨s, es, s0, s1⟩ := hs _ (List.getElem_mem hi)
    obtain ⟨t, et, t0, t1⟩ := T.t
    have nn := T.tb.nn
    generalize stZ sh mk ord i = X at *
    generalize ord[i] = a at *
    unfold stepZ
    by_cases c1 : sh a = 1
    · rw [if_pos c1]
      show evZ (bkO sh mk X.2 (a :: ord.drop (i + 1))) X.1 = evZ (bkO sh mk X.2 (ord.drop (i + 1))) (shZ (mk a) X.1)
      rw [evZ_sh]
      exact evZ_congr fun z _ => if_pos c1
    rw [if_neg c1]
    by_cases c2 : 0 < sh a
    · rw [if_pos c2]
      have sl : s < L := by
        have : s ≠ L := fun z => c1 (by rw [es]; exact (q_div_one hL).mpr z)
        omega
      have hO : HsOk X.2 (sh a) := ⟨by rw [et]; exact div_nn (Rat.intCast_nonneg.mpr t0) (iq_pos hL), by rw [et]; exact (q_div_lt hL).mpr t1, c2, by rw [es]; exact (q_div_lt hL).mpr sl⟩
      show evZ (bkO sh mk X.2 (a :: ord.drop (i + 1))) X.1 = evZ (bkO sh mk (comeM X.2 (sh a)) (ord.drop (i + 1))) (cmZ X.2 (sh a) (mk a) X.1)
      rw [evZ_cm0 hO nn]
      refine evZ_congr fun z _ => ?_
      show (if sh a = 1 then _ else if 0 < sh a then _ else _) = _
      rw [if_neg c1, if_pos c2]
    · rw [if_neg c2]
      refine evZ_congr fun z _ => ?_
      show (if sh a = 1 then _ else if 0 < sh a then _ else _) = _
      rw [if_neg c1, if_neg c2]
theorem com_cons (L : Int) (S : List Int) (a : Int) (ord : List Int) : comL L S (a :: ord) = if isO L (S.getD a.toNat 0) = true then (a, S.getD a.toNat 0) :: comL L S ord else comL L S ord := by
  unfold comL
  rw [List.filter_cons]
  split <;> rfl
theorem kep_cons (L : Int) (S : List Int) (a : Int) (ord : List Int) : kepL L S (a :: ord) = if S.getD a.toNat 0 = L then a :: kepL L S ord else kepL L S ord := by
  unfold kepL
  rw [List.filter_cons]
  by_cases c : S.getD a.toNat 0 = L
  · rw [if_pos (decide_eq_true c), if_pos c]
  · rw [if_neg (by rw [decide_eq_true_iff]; exact c), if_neg c]
theorem bk_open {L : Int} {S : List Int} {mk : Int → Int} (hL : 0 < L) (hm : ∀ a, mk a ∈ [(0 : Int), 1, 2]) : ∀ (ord : List Int), (∀ a ∈ ord, 0 ≤ S.getD a.toNat 0 ∧ S.getD a.toNat 0 ≤ L) → ∀ (t : Int) (k : Ky), 0 ≤ t → t < L → k.1 ∈ [(0 : Int), 1, 2] → k.2 ∈ [(0 : Int), 1, 2, 3] → bkO (shR L S) mk ((t : Rat) / L) ord k = bkG L mk finF t (comL L S ord) (k.1, bor k.2 (mask mk (kepL L S ord)))
  | [], _, t, k, _, _, _, k2 => by
    show finF ((t : Rat) / L) k = finF ((t : Rat) / L) (k.1, bor k.2 0)
    rw [(bor_laws _ k2 0 (by decide)).2.2.2.1]
  | a :: ord, hb, t, k, t0, t1, k1, k2 => by
    have ih := bk_open hL hm ord (fun x hx => hb x (List.mem_cons_of_mem _ hx))
    obtain ⟨b0, b1⟩ := hb a List.mem_cons_self
    have es : shR L S a = ((S.getD a.toNat 0 : Int) : Rat) / L := rfl
    rw [com_cons, kep_cons]
    have hK := mask_in hm (kepL L S ord)
    have hma := m012 _ (hm a)
    generalize S.getD a.toNat 0 = s at *
    show (if shR L S a = 1 then bkO (shR L S) mk ((t : Rat) / L) ord (k.1, bor k.2 (mk a)) else if 0 < shR L S a then stp ((t : Rat) / L) (shR L S a) (mk a) (bkO (shR L S) mk (comeM ((t : Rat) / L) (shR L S a)) ord) k else bkO (shR L S) mk ((t : Rat) / L) ord k) = _
    rw [es]
    by_cases c1 : s = L
    · rw [if_pos ((q_div_one hL).mpr c1), if_pos c1, if_neg (by unfold isO; rw [decide_eq_true_iff]; omega)]
      rw [ih t (k.1, bor k.2 (mk a)) t0 t1 k1 (bor_laws _ k2 _ hma).1]
      show _ = bkG L mk finF t (comL L S ord) (k.1, bor k.2 (bor (mk a) (mask mk (kepL L S ord))))
      rw [← (bor_laws _ k2 _ hma).2.2.2.2 _ hK]
    · rw [if_neg (fun z => c1 ((q_div_one hL).mp z)), if_neg c1]
      by_cases c2 : 0 < s
      · rw [if_pos ((q_div_pos hL).mpr c2), if_pos (by unfold isO; rw [decide_eq_true_iff]; omega)]
        have nx0 : 0 ≤ nxT L t s ∧ nxT L t s < L := by unfold nxT; split <;> omega
        rw [come_nx hL]
        show stp ((t : Rat) / L) ((s : Rat) / L) (mk a) (bkO (shR L S) mk (((nxT L t s : Int) : Rat) / L) ord) k = stp ((t : Rat) / L) ((s : Rat) / L) (mk a) (bkG L mk finF (nxT L t s) (comL L S ord)) (k.1, bor k.2 (mask mk (kepL L S ord)))
        have hk1 := m012 _ k1
        have comm : ∀ x ∈ [(0 : Int), 1, 2, 3], bor (bor k.2 (mask mk (kepL L S ord))) x = bor (bor k.2 x) (mask mk (kepL L S ord)) := fun x hx => by
          rw [(bor_laws _ k2 _ hK).2.2.2.2 _ hx, (bor_laws _ hK _ hx).2.1, (bor_laws _ k2 _ hx).2.2.2.2 _ hK]
        have eA : bkO (shR L S) mk (((nxT L t s : Int) : Rat) / L) ord (kA ((t : Rat) / L) ((s : Rat) / L) (mk a) k) = bkG L mk finF (nxT L t s) (comL L S ord) (kA ((t : Rat) / L) ((s : Rat) / L) (mk a) (k.1, bor k.2 (mask mk (kepL L S ord)))) := by
          unfold kA
          split
          · exact ih _ k nx0.1 nx0.2 k1 k2
          · dsimp only
            rw [comm _ hk1]
            refine ih _ (_, bor k.2 k.1) nx0.1 nx0.2 ?_ (bor_laws _ k2 _ hk1).1
            dsimp only
            split
            · decide
            · exact hm a
        have eB : bkO (shR L S) mk (((nxT L t s : Int) : Rat) / L) ord (kB ((t : Rat) / L) ((s : Rat) / L) (mk a) k) = bkG L mk finF (nxT L t s) (comL L S ord) (kB ((t : Rat) / L) ((s : Rat) / L) (mk a) (k.1, bor k.2 (mask mk (kepL L S ord)))) := by
          unfold kB
          split
          · exact ih _ (mk a, k.2) nx0.1 nx0.2 (hm a) k2
          · dsimp only
            rw [comm _ hma]
            refine ih _ (_, bor k.2 (mk a)) nx0.1 nx0.2 ?_ (bor_laws _ k2 _ hma).1
            dsimp only
            split
            · decide
            · exact k1
        unfold stp
        rw [eA, eB]
      · rw [if_neg (fun z => c2 ((q_div_pos hL).mp z)), if_neg (by unfold isO; rw [decide_eq_true_iff]; omega)]
        exact ih t k t0 t1 k1 k2
theorem srtI_mem {x : Int} {ks : List Int} : x ∈ srtI ks ↔ x ∈ ks := (List.mergeSort_perm ks _).mem_iff
def mk2 (x y : Int) (a : Int) : Int := if a = y then 2 else if a = x then 1 else 0
theorem mk2_ok {x y : Int} : MkOk (mk2 x y) := by
  refine ⟨fun a => ?_, fun a b e ne => ?_⟩
  · unfold mk2
    split
    · decide
    · split <;> decide
  · unfold mk2 at e ne
    by_cases c1 : a = y
    · by_cases c2 : b = y
      · rw [c1, c2]
      · rw [if_pos c1, if_neg c2] at e
        by_cases c3 : b = x
        · rw [if_pos c3] at e; exact absurd e (by decide)
        · rw [if_neg c3] at e; exact absurd e (by decide)
    · by_cases c3 : a = x
      · by_cases c2 : b = y
        · rw [if_neg c1, if_pos c3, if_pos c2] at e; exact absurd e (by decide)
        · by_cases c4 : b = x
          · rw [c3, c4]
          · rw [if_neg c1, if_pos c3, if_neg c2, if_neg c4] at e; exact absurd e (by decide)
      · rw [if_neg c1, if_neg c3] at ne
        exact absurd rfl ne
def mcode (p q : Prop) [Decidable p] [Decidable q] : Int := (if p then 1 else 0) + (if q then 2 else 0)
theorem mask2 {x y : Int} (h : x ≠ y) : ∀ ks : List Int, mask (mk2 x y) ks = mcode (x ∈ ks) (y ∈ ks)
  | [] => by unfold mcode; simp [mask]
  | k :: ks => by
    show bor (mk2 x y k) (mask (mk2 x y) ks) = _
    rw [mask2 h ks]
    unfold mk2 mcode
    by_cases c1 : k = y
    · subst c1
      by_cases c3 : x ∈ ks <;> by_cases c4 : k ∈ ks <;> simp [h, c3, c4, b20, b21, b22, show bor 2 3 = 3 from by decide +kernel]
    · by_cases c2 : k = x
      · subst c2
        by_cases c3 : k ∈ ks <;> by_cases c4 : y ∈ ks <;> simp [c1, Ne.symm h, c3, c4, b10, b11, b12, show bor 1 3 = 3 from by decide +kernel]
      · have n1 : ¬ y = k := fun z => c1 z.symm
        have n2 : ¬ x = k := fun z => c2 z.symm
        by_cases c3 : x ∈ ks <;> by_cases c4 : y ∈ ks <;> simp [c1, c2, n1, n2, c3, c4, b00, b01, b02, show bor 0 3 = 3 from by decide +kernel]
theorem fin2 {L x y : Int} (h : x ≠ y) : FinOk L (mk2 x y) finF (bothF x y) := by
  refine ⟨mk2_ok.rg, fun ks => ?_, fun t u ks t0 t1 => ?_⟩
  · unfold bothF finF
    rw [mask2 h]
    simp only [srtI_mem]
    unfold mcode
    by_cases c3 : x ∈ ks <;> by_cases c4 : y ∈ ks <;> simp [c3, c4, b00, b10, b20]
  · unfold bothF finF
    rw [mask2 h]
    simp only [srtI_mem, List.mem_append, List.mem_singleton]
    unfold mcode mk2
    by_cases c1 : u = y
    · subst c1
      by_cases c3 : x ∈ ks <;> by_cases c4 : u ∈ ks <;> simp [h, c3, c4, b02, b12, b22, show bor 3 2 = 3 from by decide +kernel] <;> grind
    · by_cases c2 : u = x
      · subst c2
        have n1 : ¬ y = u := fun z => c1 z.symm
        by_cases c3 : u ∈ ks <;> by_cases c4 : y ∈ ks <;> simp [c1, n1, c3, c4, b01, b11, b21, show bor 3 1 = 3 from by decide +kernel] <;> grind
      · have n1 : ¬ y = u := fun z => c1 z.symm
        have n2 : ¬ x = u := fun z => c2 z.symm
        by_cases c3 : x ∈ ks <;> by_cases c4 : y ∈ ks <;> simp [c1, c2, n1, n2, c3, c4, b00, b10, b20, b30] <;> grind
/-! one alone -/
def mk1 (x a : Int) : Int := if a = x then 1 else 0
def fin1 (h : Rat) (k : Ky) : Rat := if k.2 = 1 then 1 else if k.1 = 1 then h else 0
theorem mk1_rg (x a : Int) : mk1 x a ∈ [(0 : Int), 1, 2] := by unfold mk1; split <;> decide
theorem mask1 {x : Int} : ∀ ks : List Int, mask (mk1 x) ks = if x ∈ ks then 1 else 0
  | [] => by simp [mask]
  | k :: ks => by
    show bor (mk1 x k) (mask (mk1 x) ks) = _
    rw [mask1 ks]
    unfold mk1
    by_cases c : k = x
    · subst c
      by_cases c3 : k ∈ ks <;> simp [c3, b10, b11]
    · have n2 : ¬ x = k := fun z => c z.symm
      by_cases c3 : x ∈ ks <;> simp [c, n2, c3, b00, b01]
theorem finO {L x : Int} : FinOk L (mk1 x) fin1 (bothF x x) := by
  refine ⟨mk1_rg x, fun ks => ?_, fun t u ks t0 t1 => ?_⟩
  · unfold bothF fin1
    rw [mask1]
    simp only [srtI_mem]
    by_cases c3 : x ∈ ks <;> simp [c3]
  · unfold bothF fin1
    rw [mask1]
    simp only [srtI_mem, List.mem_append, List.mem_singleton]
    unfold mk1
    by_cases c2 : u = x
    · subst c2
      by_cases c3 : u ∈ ks <;> simp [c3] <;> grind
    · have n2 : ¬ x = u := fun z => c2 z.symm
      by_cases c3 : x ∈ ks <;> simp [c2, n2, c3] <;> grind
def shX (x : Int) : List Ps → Int
  | [] => 0
  | p :: c => if p.1 = x then p.2 else shX x c
theorem shX_no {x : Int} : ∀ {c : List Ps}, x ∉ c.map (·.1) → shX x c = 0
  | [], _ => rfl
  | p :: c, h => by
    rw [List.map_cons, List.mem_cons] at h
    unfold shX
    rw [if_neg (fun z => h (.inl z.symm)), shX_no fun z => h (.inr z)]
/-- one keeps its share -/
theorem bk_one {L x : Int} (hL : 0 < L) : ∀ (c : List Ps), (∀ p ∈ c, OpP L p) → (c.map (·.1)).Nodup → ∀ t : Int, 0 ≤ t → t < L → bkG L (mk1 x) fin1 t c (0, 0) = (shX x c : Rat) / L ∧ (x ∉ c.map (·.1) → bkG L (mk1 x) fin1 t c (1, 0) = (t : Rat) / L ∧ bkG L (mk1 x) fin1 t c (0, 1) = 1)
  | [], _, _, t, t0, t1 => by
    have z0 : ((0 : Int) : Rat) / L = 0 := by rw [Rat.intCast_zero, Rat.div_def, Rat.zero_mul]
    refine ⟨?_, fun _ => ⟨?_, ?_⟩⟩
    · show fin1 _ (0, 0) = ((0 : Int) : Rat) / L
      rw [z0]
      rfl
    · rfl
    · rfl
  | p :: c, hc, nd, t, t0, t1 => by
    have op := hc p List.mem_cons_self
    unfold OpP at op
    rw [List.map_cons, List.nodup_cons] at nd
    have nx0 : 0 ≤ nxT L t p.2 ∧ nxT L t p.2 < L := by unfold nxT; split <;> omega
    obtain ⟨i0, i1⟩ := bk_one (x := x) hL c (fun q hq => hc q (List.mem_cons_of_mem _ hq)) nd.2 (nxT L t p.2) nx0.1 nx0.2
    have hO : HsOk ((t : Rat) / L) ((p.2 : Rat) / L) := ⟨div_nn (Rat.intCast_nonneg.mpr t0) (iq_pos hL), (q_div_lt hL).mpr t1, (q_div_pos hL).mpr op.1, (q_div_lt hL).mpr op.2⟩
    have ab := hO.ab
    have cn := come_nx (t := t) (s := p.2) hL
    have z0 : ((0 : Int) : Rat) / L = 0 := by rw [Rat.intCast_zero, Rat.div_def, Rat.zero_mul]
    obtain ⟨h0, h1, s0, s1⟩ := hO
    have d1 : (t : Rat) / L + (p.2 : Rat) / L ≠ 0 := by grind
    have d2 : 2 - ((t : Rat) / L + (p.2 : Rat) / L) ≠ 0 := by grind
    have eshow : ∀ k, bkG L (mk1 x) fin1 t (p :: c) k = stp ((t : Rat) / L) ((p.2 : Rat) / L) (mk1 x p.1) (bkG L (mk1 x) fin1 (nxT L t p.2) c) k := fun _ => rfl
    rw [eshow, eshow, eshow]
    generalize bkG L (mk1 x) fin1 (nxT L t p.2) c = G at *
    generalize ((nxT L t p.2 : Int) : Rat) / L = h' at *
    by_cases cx : p.1 = x
    · have hx : x ∉ c.map (·.1) := cx ▸ nd.1
      obtain ⟨g1, g2⟩ := i1 hx
      rw [shX_no hx, z0] at i0
      refine ⟨?_, fun z => absurd (List.mem_cons.mpr (.inl cx.symm)) z⟩
      have e1 : shX x (p :: c) = p.2 := if_pos cx
      have e2 : mk1 x p.1 = 1 := if_pos cx
      rw [e1, e2]
      generalize (t : Rat) / L = h at *
      generalize (p.2 : Rat) / L = s at *
      unfold stp
      by_cases e : h + s = 1
      · unfold kA kB pA pB comeM at *
        split <;> simp [e, b00, b01] at * <;> grind
      · unfold kA kB pA pB comeM at *
        split <;> simp [e, b00, b01] at * <;> grind
    · have e1 : shX x (p :: c) = shX x c := if_neg cx
      have e2 : mk1 x p.1 = 0 := if_neg cx
      rw [e1, e2]
      generalize (t : Rat) / L = h at *
      generalize (p.2 : Rat) / L = s at *
      refine ⟨?_, fun z => ?_⟩
      · unfold stp
        by_cases e : h + s = 1
        · unfold kA kB
          split <;> simp [e, b00] <;> grind
        · unfold kA kB
          split <;> simp [e, b00] <;> grind
      · have hx : x ∉ c.map (·.1) := fun y => z (List.mem_cons_of_mem _ y)
        obtain ⟨g1, g2⟩ := i1 hx
        refine ⟨?_, ?_⟩
        · have i00 : G (0, 0) = 0 := by
            rw [i0, shX_no hx]
            exact z0
          unfold stp
          by_cases e : h + s = 1
          · unfold kA kB pA pB comeM at *
            split <;> simp [e, b00, b01] at * <;> grind
          · unfold kA kB pA pB comeM at *
            split <;> simp [e, b00, b01] at * <;> grind
        · unfold stp
          by_cases e : h + s = 1
          · unfold kA kB
            split <;> simp [e, b10] <;> grind
          · unfold kA kB
            split <;> simp [e, b10] <;> grind
theorem stB_sym {sh : Int → Rat} {ord : List Int} : ∀ i x y, (stB sh ord i).G x y = (stB sh ord i).G y x
  | 0, _, _ => rfl
  | i + 1, x, y => by
    have ih := stB_sym (sh := sh) (ord := ord) i
    cases ha : ord[i]? with
    | none =>
      have e : stB sh ord (i + 1) = stB sh ord i := by
        show (match ord[i]? with | some a => stepB sh (ord.take i) (stB sh ord i) a | none => stB sh ord i) = _
        rw [ha]
      rw [e]
      exact ih x y
    | some a =>
      rw [stB_succ ha]
      generalize stB sh ord i = b at ih
      show (if x = a ∧ y = a then sh a else if x = a ∧ y ∈ ord.take i then togF b.I b.U b.M y (sh a) else if y = a ∧ x ∈ ord.take i then togF b.I b.U b.M x (sh a) else b.G x y) = (if y = a ∧ x = a then sh a else if y = a ∧ x ∈ ord.take i then togF b.I b.U b.M x (sh a) else if x = a ∧ y ∈ ord.take i then togF b.I b.U b.M y (sh a) else b.G y x)
      rw [ih x y]
      by_cases c1 : x = a
      · by_cases c2 : y = a
        · rw [if_pos ⟨c1, c2⟩, if_pos ⟨c2, c1⟩]
        · simp [c1, c2]
      · by_cases c2 : y = a
        · simp [c1, c2]
        · simp [c1, c2]
theorem stB_diag {sh : Int → Rat} {ord : List Int} (hn : ord.Nodup) : ∀ i, i ≤ ord.length → ∀ a ∈ ord.take i, (stB sh ord i).G a a = sh a
  | 0, _, a, h => by rw [List.take_zero] at h; cases h
  | i + 1, hi, a, h => by
    have ih := stB_diag (sh := sh) hn i (by omega)
    have hc : ord[i]? = some ord[i] := List.getElem?_eq_getElem (by omega)
    rw [stB_succ hc]
    rw [tk_succ hc] at h
    generalize stB sh ord i = b at ih
    show (if a = ord[i] ∧ a = ord[i] then sh ord[i] else if a = ord[i] ∧ a ∈ ord.take i then togF b.I b.U b.M a (sh ord[i]) else if a = ord[i] ∧ a ∈ ord.take i then togF b.I b.U b.M a (sh ord[i]) else b.G a a) = _
    by_cases c : a = ord[i]
    · rw [if_pos ⟨c, c⟩, c]
    · rw [if_neg (fun z => c z.1), if_neg (fun z => c z.1), if_neg (fun z => c z.1)]
      exact ih a ((List.mem_append.mp h).resolve_right fun z => c (List.mem_singleton.mp z))
def sumP (c : List Ps) : Int := (c.map (·.2)).sum
theorem fl_of {L n e : Int} (h0 : 0 ≤ e) (h1 : e < L) : (L * n + e) / L = n := by
  rw [Int.add_comm, Int.add_mul_ediv_left _ _ (by omega), Int.ediv_eq_zero_of_lt h0 h1, Int.zero_add]
/-- so many are kept: one of the two whole neighbours -/
theorem sizes_duel {L : Int} (hL : 0 < L) : ∀ (c : List Ps) (u : Option Ps) (ks : List Int) (d : Nat) (r : Rat), Up2 L u → (∀ p ∈ c, OpP L p) → dep u c ≤ d → ∀ T, T = L * ks.length + tU u + sumP c → (∀ w ∈ waysN d (duelN L u c ks) r, (w.1.length : Int) = T / L ∨ (w.1.length : Int) = (T + L - 1) / L) ∧ (∃ w ∈ waysN d (duelN L u c ks) r, (w.1.length : Int) = T / L) ∧ ∃ w ∈ waysN d (duelN L u c ks) r, (w.1.length : Int) = (T + L - 1) / L
  | [], none, ks, d, r, _, _, _, T, hT => by
    rw [show waysN d (duelN L none [] ks) r = [(srtI ks, r)] from waysN_some rfl]
    have e0 : T = L * ks.length := by rw [hT]; show L * ks.length + 0 + 0 = _; omega
    have e1 : T / L = ks.length := by rw [e0]; have := fl_of (n := (ks.length : Int)) (Int.le_refl 0) hL; rw [Int.add_zero] at this; exact this
    have e2 : (T + L - 1) / L = ks.length := by rw [e0, show L * (ks.length : Int) + L - 1 = L * ks.length + (L - 1) by omega]; exact fl_of (by omega) (by omega)
    rw [e1, e2]
    have hl : (((srtI ks, r) : List Int × Rat).1.length : Int) = ks.length := by show ((srtI ks).length : Int) = _; rw [srtI_len]
    exact ⟨fun w hw => by rw [List.mem_singleton.mp hw]; exact .inl hl, ⟨_, List.mem_singleton.mpr rfl, hl⟩, ⟨_, List.mem_singleton.mpr rfl, hl⟩⟩
  | [], some u, ks, d, r, hu, _, hd, T, hT => by
    have ou := hu.op u rfl
    unfold OpP at ou
    unfold dep at hd
    obtain ⟨e, rfl⟩ : ∃ e, d = e + 1 := ⟨d - 1, by simp at hd; omega⟩
    rw [show duelN L (some u) [] ks = .lst L u ks from rfl, ways_lst hL]
    have e0 : T = L * ks.length + u.2 := by rw [hT]; show L * ks.length + u.2 + 0 = _; omega
    have e1 : T / L = ks.length := by rw [e0]; exact fl_of (by omega) ou.2
    have e2 : (T + L - 1) / L = ks.length + 1 := by
      rw [e0, show L * (ks.length : Int) + u.2 + L - 1 = L * ((ks.length : Int) + 1) + (u.2 - 1) by rw [Int.mul_add]; omega]
      exact fl_of (by omega) (by omega)
    rw [e1, e2]
    have h1 : ((srtI (ks ++ [u.1])).length : Int) = ks.length + 1 := by rw [srtI_len, List.length_append]; rfl
    have h2 : ((srtI ks).length : Int) = ks.length := by rw [srtI_len]
    refine ⟨fun w hw => ?_, ⟨_, List.mem_cons_of_mem _ (List.mem_singleton.mpr rfl), h2⟩, ⟨_, List.mem_cons_self, h1⟩⟩
    simp only [List.mem_cons, List.not_mem_nil, or_false] at hw
    rcases hw with rfl | rfl
    · exact .inr h1
    · exact .inl h2
  | o :: c, none, ks, d, r, _, hc, hd, T, hT => by
    have oo := hc o List.mem_cons_self
    rw [duel_none]
    refine sizes_duel hL c (some o) ks d r (up_some oo) (fun p hp => hc p (List.mem_cons_of_mem _ hp)) hd T ?_
    rw [hT]
    show L * ks.length + 0 + sumP (o :: c) = L * ks.length + o.2 + sumP c
    unfold sumP
    rw [List.map_cons, List.sum_cons]
    omega
  | o :: c, some u, ks, d, r, hu, hc, hd, T, hT => by
    have ou := hu.op u rfl
    have oo := hc o List.mem_cons_self
    have hc2 : ∀ p ∈ c, OpP L p := fun p hp => hc p (List.mem_cons_of_mem _ hp)
    unfold dep at hd
    obtain ⟨e, rfl⟩ : ∃ e, d = e + 1 := ⟨d - 1, by simp at hd; omega⟩
    have dd : c.length + 1 ≤ e := by simp at hd; omega
    have hT2 : T = L * ks.length + u.2 + (o.2 + sumP c) := by
      rw [hT]
      show L * ks.length + u.2 + sumP (o :: c) = _
      unfold sumP
      rw [List.map_cons, List.sum_cons]
    have key : ∀ w l : Ps, OpP L w → OpP L l → w.2 + l.2 = u.2 + o.2 → ∀ r, (∀ x ∈ waysN e (playN L w l c ks) r, (x.1.length : Int) = T / L ∨ (x.1.length : Int) = (T + L - 1) / L) ∧ (∃ x ∈ waysN e (playN L w l c ks) r, (x.1.length : Int) = T / L) ∧ ∃ x ∈ waysN e (playN L w l c ks) r, (x.1.length : Int) = (T + L - 1) / L := fun w l hw hl hs r => by
      rw [play_eq]
      refine sizes_duel hL c _ _ e r (plU_op hw hl) hc2 (Nat.le_trans plU_dep dd) T ?_
      rw [hT2, plU_t]
      unfold plK nxT
      split
      · omega
      · rw [List.length_append, Int.natCast_add, Int.mul_add]
        simp only [List.length_cons, List.length_nil]
        omega
    rw [duel_due, ways_due]
    obtain ⟨a1, ⟨x, hx, ex⟩, ⟨y, hy, ey⟩⟩ := key u o ou oo rfl _
    obtain ⟨b1, _, _⟩ := key o u oo ou (Int.add_comm _ _) (r * (((sidesD L u.2 o.2).2 : Rat) / (((sidesD L u.2 o.2).1 + (sidesD L u.2 o.2).2 : Int) : Rat)))
    exact ⟨fun w hw => (List.mem_append.mp hw).elim (a1 w) (b1 w), ⟨x, List.mem_append_left _ hx, ex⟩, ⟨y, List.mem_append_left _ hy, ey⟩⟩
/-- a bottom in common -/
theorem den_duel {L : Int} (hL : 0 < L) (h2 : L ≤ 1000000000) : ∀ (c : List Ps) (t : Int), 0 ≤ t → t < L → (∀ p ∈ c, OpP L p) → ∃ Dd : Int, 0 < Dd ∧ Dd ≤ 2 ^ (32 * (c.length + 1)) ∧ ∀ (u : Option Ps) (ks : List Int) (d : Nat) (r : Rat) (D0 : Int), Up2 L u → tU u = t → dep u c ≤ d → 0 ≤ r → isI (r * (D0 : Rat)) → ∀ w ∈ waysN d (duelN L u c ks) r, 0 ≤ w.2 ∧ isI (w.2 * ((D0 * Dd : Int) : Rat))
  | [], t, t0, t1, _ => by
    have hLq := iq_pos hL
    refine ⟨L, hL, by show L ≤ 2 ^ 32; rw [show (2 : Int) ^ 32 = 4294967296 from rfl]; omega, fun u ks d r D0 hu hut hd r0 hi w hw => ?_⟩
    cases u with
    | none =>
      rw [show waysN d (duelN L none [] ks) r = [(srtI ks, r)] from waysN_some rfl] at hw
      rw [List.mem_singleton.mp hw]
      refine ⟨r0, ?_⟩
      show isI (r * _)
      rw [Rat.intCast_mul, ← Rat.mul_assoc]
      exact isI_mul hi (isI_int _)
    | some u =>
      have ou := hu.op u rfl
      unfold OpP at ou
      unfold dep at hd
      obtain ⟨e, rfl⟩ : ∃ e, d = e + 1 := ⟨d - 1, by simp at hd; omega⟩
      rw [show duelN L (some u) [] ks = .lst L u ks from rfl, ways_lst hL] at hw
      have g0 := (q_div_pos hL).mpr ou.1
      have g1 := (q_div_lt hL).mpr ou.2
      simp only [List.mem_cons, List.not_mem_nil, or_false] at hw
      rcases hw with rfl | rfl
      · refine ⟨Rat.mul_nonneg r0 (Rat.le_of_lt g0), ?_⟩
        have e : r * ((u.2 : Rat) / L) * ((D0 * L : Int) : Rat) = r * (D0 : Rat) * (u.2 : Rat) := by rw [Rat.intCast_mul]; grind
        show isI (r * ((u.2 : Rat) / L) * ((D0 * L : Int) : Rat))
        rw [e]
        exact isI_mul hi (isI_int _)
      · refine ⟨Rat.mul_nonneg r0 (by grind), ?_⟩
        have e : r * (1 - (u.2 : Rat) / L) * ((D0 * L : Int) : Rat) = r * (D0 : Rat) * ((L - u.2 : Int) : Rat) := by rw [Rat.intCast_mul, Rat.intCast_sub]; grind
        show isI (r * (1 - (u.2 : Rat) / L) * ((D0 * L : Int) : Rat))
        rw [e]
        exact isI_mul hi (isI_int _)
  | o :: c, t, t0, t1, hc => by
    have oo := hc o List.mem_cons_self
    have hc2 : ∀ p ∈ c, OpP L p := fun p hp => hc p (List.mem_cons_of_mem _ hp)
    by_cases ct : t = 0
    · obtain ⟨Dd, D0', D1', run⟩ := den_duel hL h2 c o.2 (by have := oo.1; omega) oo.2 hc2
      refine ⟨Dd, D0', ?_, fun u ks d r D0 hu hut hd r0 hi => ?_⟩
      · refine Int.le_trans D1' ?_
        rw [List.length_cons, pow32 (c.length + 1)]
        have : (0 : Int) < 2 ^ (32 * (c.length + 1)) := Int.pow_pos (by decide)
        omega
      · cases u with
        | none => rw [duel_none]; exact run (some o) ks d r D0 (up_some oo) rfl hd r0 hi
        | some u =>
          have := (hu.op u rfl).1
          have : u.2 = t := hut
          omega
    · have nx0 : 0 ≤ nxT L t o.2 ∧ nxT L t o.2 < L := by have := oo.1; have := oo.2; unfold nxT; split <;> omega
      obtain ⟨d1, d10, d11, ia⟩ := cm_den hL h2 t0 t1 oo.1 oo.2
      obtain ⟨Dd, D0', D1', run⟩ := den_duel hL h2 c (nxT L t o.2) nx0.1 nx0.2 hc2
      obtain ⟨g0, g1⟩ := grow32 (n := c.length + 1) D0' D1' d10 d11
      refine ⟨Dd * d1, g0, g1, fun u ks d r D0 hu hut hd r0 hi => ?_⟩
      cases u with
      | none => exact absurd hut.symm ct
      | some u =>
        have ou := hu.op u rfl
        have eut : u.2 = t := hut
        unfold dep at hd
        obtain ⟨e, rfl⟩ : ∃ e, d = e + 1 := ⟨d - 1, by simp at hd; omega⟩
        have dd : c.length + 1 ≤ e := by simp at hd; omega
        obtain ⟨_, q1, q2, _⟩ := sides_q hL ou oo
        rw [duel_due, ways_due, q1, q2, play_eq, play_eq, eut]
        have hO : HsOk ((t : Rat) / L) ((o.2 : Rat) / L) := ⟨div_nn (Rat.intCast_nonneg.mpr t0) (iq_pos hL), (q_div_lt hL).mpr t1, (q_div_pos hL).mpr oo.1, (q_div_lt hL).mpr oo.2⟩
        obtain ⟨a0, b0, _⟩ := hO.ab
        obtain ⟨i1, i2⟩ := ia D0 r hi
        have ed : D0 * (Dd * d1) = D0 * d1 * Dd := by simp only [Int.mul_comm, Int.mul_left_comm, Int.mul_assoc]
        intro w hw
        rw [ed]
        rcases List.mem_append.mp hw with hw | hw
        · exact run _ _ e _ (D0 * d1) (plU_op ou oo) (by rw [plU_t, eut]) (Nat.le_trans plU_dep dd) (Rat.mul_nonneg r0 a0) i1 w hw
        · exact run _ _ e _ (D0 * d1) (plU_op oo ou) (by rw [plU_t, eut, nxT_comm]) (Nat.le_trans plU_dep dd) (Rat.mul_nonneg r0 b0) i2 w hw
theorem bk_ones {L : Int} (hL : 0 < L) : ∀ (c : List Ps), (∀ p ∈ c, OpP L p) → ∀ t k, 0 ≤ t → t < L → bkG L (fun _ => 0) (fun _ _ => 1) t c k = 1
  | [], _, _, _, _, _ => rfl
  | p :: c, hc, t, k, t0, t1 => by
    have op := hc p List.mem_cons_self
    have nx0 : 0 ≤ nxT L t p.2 ∧ nxT L t p.2 < L := by have := op.1; have := op.2; unfold nxT; split <;> omega
    have hO : HsOk ((t : Rat) / L) ((p.2 : Rat) / L) := ⟨div_nn (Rat.intCast_nonneg.mpr t0) (iq_pos hL), (q_div_lt hL).mpr t1, (q_div_pos hL).mpr op.1, (q_div_lt hL).mpr op.2⟩
    show stp _ _ _ (bkG L (fun _ => 0) (fun _ _ => 1) (nxT L t p.2) c) k = 1
    unfold stp
    rw [bk_ones hL c (fun q hq => hc q (List.mem_cons_of_mem _ hq)) _ _ nx0.1 nx0.2, bk_ones hL c (fun q hq => hc q (List.mem_cons_of_mem _ hq)) _ _ nx0.1 nx0.2]
    have := hO.ab
    grind
theorem fin_ones {L : Int} : FinOk L (fun _ => 0) (fun _ _ => 1) (fun _ => 1) := ⟨fun _ => by show (0 : Int) ∈ [(0 : Int), 1, 2]; decide, fun _ => rfl, fun t u ks _ _ => by grind⟩
theorem com_op {L : Int} {S ord : List Int} : ∀ p ∈ comL L S ord, OpP L p := fun p hp => by
  unfold comL at hp
  obtain ⟨a, ha, rfl⟩ := List.mem_map.mp hp
  have := (List.mem_filter.mp ha).2
  unfold isO at this
  have h1 := of_decide_eq_true this
  exact h1
theorem com_fst {L : Int} {S ord : List Int} : (comL L S ord).map (·.1) = ord.filter fun a => isO L (S.getD a.toNat 0) := by
  unfold comL
  rw [List.map_map]
  exact List.map_id' _
theorem shX_com {L x : Int} {S : List Int} : ∀ {ord : List Int}, isO L (S.getD x.toNat 0) = true → x ∈ ord → shX x (comL L S ord) = S.getD x.toNat 0
  | a :: ord, ho, hx => by
    rw [com_cons]
    by_cases c : a = x
    · subst c
      rw [if_pos ho]
      exact if_pos rfl
    · have hx2 := (List.mem_cons.mp hx).resolve_left fun z => c z.symm
      split
      · show (if a = x then _ else shX x (comL L S ord)) = _
        rw [if_neg c]
        exact shX_com ho hx2
      · exact shX_com ho hx2
theorem wt_ord {L : Int} {S : List Int} : ∀ (ord : List Int), (∀ a ∈ ord, 0 ≤ S.getD a.toNat 0 ∧ S.getD a.toNat 0 ≤ L) → 0 < L → L * (kepL L S ord).length + sumP (comL L S ord) = (ord.map fun a => S.getD a.toNat 0).sum
  | [], _, _ => by simp [kepL, comL, sumP]
  | a :: ord, h, hL => by
    have ih := wt_ord ord (fun x hx => h x (List.mem_cons_of_mem _ hx)) hL
    have ha := h a List.mem_cons_self
    rw [com_cons, kep_cons, List.map_cons, List.sum_cons, ← ih]
    generalize S.getD a.toNat 0 = v at ha ⊢
    unfold isO
    by_cases c1 : v = L
    · rw [if_pos c1, if_neg (by rw [decide_eq_true_iff]; omega), List.length_cons, Int.natCast_add, Int.mul_add]
      simp
      omega
    · rw [if_neg c1]
      by_cases c2 : 0 < v
      · rw [if_pos (decide_eq_true ⟨c2, by omega⟩)]
        unfold sumP
        rw [List.map_cons, List.sum_cons]
        dsimp only
        omega
      · rw [if_neg (by rw [decide_eq_true_iff]; omega)]
        omega
theorem sum_perm {l m : List Int} (h : l.Perm m) : l.sum = m.sum := by
  induction h with
  | nil => rfl
  | cons x _ ih => rw [List.sum_cons, List.sum_cons, ih]
  | swap x y l => simp only [List.sum_cons]; omega
  | trans _ _ h1 h2 => rw [h1, h2]
theorem sum_upN (S : List Int) : ((upN S.length).map fun a => S.getD a.toNat 0).sum = S.sum := by
  congr 1
  unfold upN
  rw [List.map_map]
  refine List.ext_getElem (by simp) fun i h1 h2 => ?_
  rw [List.getElem_map, List.getElem_range]
  show S.getD ((i : Int)).toNat 0 = _
  rw [Int.toNat_natCast, List.getD_eq_getElem?_getD, List.getElem?_eq_getElem h2]
  rfl
/-- all that is asked of the ways -/
theorem duel_ways {L : Int} {S ord : List Int} (ok : ShOk L S) (hp : ord.Perm (upN S.length)) : ∃ W, W = waysN (comL L S ord).length (duelN L none (comL L S ord) (kepL L S ord)) 1 ∧ (∃ D : Int, 0 < D ∧ D ≤ 2 ^ 900 ∧ GoodW D W) ∧ togW W (upN S.length) = matD L S ord ∧ (∀ w ∈ W, (w.1.length : Int) = S.sum / L ∨ (w.1.length : Int) = (S.sum + L - 1) / L) ∧ (∃ w ∈ W, (w.1.length : Int) = S.sum / L) ∧ ∃ w ∈ W, (w.1.length : Int) = (S.sum + L - 1) / L := by
  have hL : 0 < L := by have := ok.l1; omega
  have h2 := ok.l2
  have hon : ord.Nodup := hp.nodup_iff.mpr ((upN_lt S.length).imp fun h => Int.ne_of_lt h)
  have hin : ∀ x : Int, x ∈ ord ↔ 0 ≤ x ∧ x < S.length := fun x => by rw [hp.mem_iff]; exact upN_mem
  have hol : ord.length = S.length := by rw [hp.length_eq]; unfold upN; rw [List.length_map, List.length_range]
  have hb : ∀ a ∈ ord, 0 ≤ S.getD a.toNat 0 ∧ S.getD a.toNat 0 ≤ L := fun a ha => by
    have := (hin a).mp ha
    rw [List.getD_eq_getElem?_getD, List.getElem?_eq_getElem (by omega)]
    exact ok.b _ (List.getElem_mem _)
  have hs : ∀ a ∈ ord, ∃ s : Int, shR L S a = (s : Rat) / L ∧ 0 ≤ s ∧ s ≤ L := fun a ha => ⟨_, rfl, hb a ha⟩
  have hc := com_op (L := L) (S := S) (ord := ord)
  have hd : dep none (comL L S ord) ≤ (comL L S ord).length := by unfold dep; simp
  have cl : (comL L S ord).length ≤ 24 := by
    have := congrArg List.length (com_fst (L := L) (S := S) (ord := ord))
    rw [List.length_map] at this
    rw [this]
    have h3 := List.length_filter_le (fun a => isO L (S.getD a.toNat 0)) ord
    have := ok.n
    omega
  have one : (1 : Rat) * ((1 : Int) : Rat) = 1 := by grind
  refine ⟨_, rfl, ?_, ?_, ?_⟩
  · obtain ⟨Dd, D0, D1, run⟩ := den_duel hL h2 (comL L S ord) 0 (Int.le_refl 0) hL hc
    refine ⟨1 * Dd, by omega, ?_, ⟨run none (kepL L S ord) _ 1 1 up_none rfl hd (by decide) (by rw [one]; exact isI_int 1), ?_⟩⟩
    · rw [Int.one_mul]
      refine Int.le_trans D1 ?_
      have h3 : 32 * ((comL L S ord).length + 1) ≤ 900 := by omega
      have h5 : ((2 ^ (32 * ((comL L S ord).length + 1)) : Nat) : Int) ≤ ((2 ^ 900 : Nat) : Int) := Int.ofNat_le.mpr (Nat.pow_le_pow_right (by decide) h3)
      rw [Int.natCast_pow, Int.natCast_pow] at h5
      exact h5
    · rw [ev_duel hL fin_ones (comL L S ord) none (kepL L S ord) _ 1 up_none hc hd]
      show 1 * bkG L (fun _ => 0) (fun _ _ => 1) 0 (comL L S ord) _ ≤ 1
      rw [bk_ones hL _ hc _ _ (Int.le_refl 0) hL]
      grind
  · have key : ∀ i j : Int, (0 ≤ i ∧ i < S.length) → (0 ≤ j ∧ j < S.length) → evW (bothF i j) (waysN (comL L S ord).length (duelN L none (comL L S ord) (kepL L S ord)) 1) = (stB (shR L S) ord ord.length).G i j := fun i j hi hj => by
      by_cases c : i = j
      · subst c
        rw [stB_diag hon ord.length (Nat.le_refl _) i (by rw [List.take_length]; exact (hin i).mpr hi)]
        rw [ev_duel hL finO (comL L S ord) none (kepL L S ord) _ 1 up_none hc hd, mask1]
        have nd : ((comL L S ord).map (·.1)).Nodup := by rw [com_fst]; exact hon.filter _
        obtain ⟨v0, v1⟩ := bk_one (x := i) hL (comL L S ord) hc nd 0 (Int.le_refl 0) hL
        have hio := (hin i).mpr hi
        have bi := hb i hio
        have ek : (i ∈ kepL L S ord) ↔ S.getD i.toNat 0 = L := by
          unfold kepL
          rw [List.mem_filter, decide_eq_true_iff]
          exact ⟨fun z => z.2, fun z => ⟨hio, z⟩⟩
        have ec : (i ∈ (comL L S ord).map (·.1)) ↔ isO L (S.getD i.toNat 0) = true := by
          rw [com_fst, List.mem_filter]
          exact ⟨fun z => z.2, fun z => ⟨hio, z⟩⟩
        show 1 * bkG L (mk1 i) fin1 0 (comL L S ord) (0, if i ∈ kepL L S ord then 1 else 0) = ((S.getD i.toNat 0 : Int) : Rat) / L
        by_cases c1 : S.getD i.toNat 0 = L
        · rw [if_pos (ek.mpr c1), (v1 (fun z => by have := ec.mp z; unfold isO at this; have := of_decide_eq_true this; omega)).2, c1]
          have := iq_pos hL
          grind
        · rw [if_neg (fun z => c1 (ek.mp z)), v0]
          by_cases c2 : isO L (S.getD i.toNat 0) = true
          · rw [shX_com c2 hio, Rat.one_mul]
          · rw [shX_no (fun z => c2 (ec.mp z)), Rat.one_mul]
            have : S.getD i.toNat 0 = 0 := by
              unfold isO at c2
              rw [decide_eq_true_iff] at c2
              omega
            rw [this]
      · have un : ∀ c' ∈ [(1 : Int), 2], mk2 i j ((fun c' => if c' = 1 then i else j) c') = c' := fun c' hc' => by
          simp only [List.mem_cons, List.not_mem_nil, or_false] at hc'
          unfold mk2
          rcases hc' with rfl | rfl
          · simp [c]
          · simp
        have h := due_eq (un := fun c' => if c' = 1 then i else j) hL h2 (mk2_ok (x := i) (y := j)) un hon hs ((hin _).mpr (by simpa using hi)) ((hin _).mpr (by simpa using hj))
        have h3 := bk_due hL h2 (mk2_ok (x := i) (y := j)) hon hs ord.length 0 (by omega)
        rw [List.drop_zero] at h3
        have z0 : ((0 : Int) : Rat) / L = 0 := by rw [Rat.intCast_zero, Rat.div_def, Rat.zero_mul]
        have h4 : evZ (bkO (shR L S) (mk2 i j) 0 ord) [((0, 0), 1)] = dueR (shR L S) (mk2 i j) ord := h3
        have h5 := bk_open (mk := mk2 i j) hL mk2_ok.rg ord hb 0 (0, 0) (Int.le_refl 0) hL (by decide) (by decide)
        rw [z0] at h5
        rw [ev_duel hL (fin2 c) (comL L S ord) none (kepL L S ord) _ 1 up_none hc hd]
        have h6 : (stB (shR L S) ord ord.length).G i j = dueR (shR L S) (mk2 i j) ord := by
          rw [h]
          simp
        rw [h6, ← h4]
        show 1 * bkG L (mk2 i j) finF 0 (comL L S ord) (0, mask (mk2 i j) (kepL L S ord)) = 1 * bkO (shR L S) (mk2 i j) 0 ord (0, 0) + 0
        rw [h5]
        dsimp only
        rw [(bor_laws 0 (by decide) _ (mask_in mk2_ok.rg _)).2.2.1]
        grind
    unfold togW matD matG upN
    rw [List.map_map]
    refine List.map_congr_left fun i hi => ?_
    show (List.map (fun i : Nat => (i : Int)) (List.range S.length)).map (fun j => qt (evW (bothF (i : Int) j) _)) = _
    rw [List.map_map]
    refine List.map_congr_left fun j hj => ?_
    show qt (evW (bothF (i : Int) (j : Int)) _) = _
    have hi' := List.mem_range.mp hi
    have hj' := List.mem_range.mp hj
    rw [key i j ⟨by omega, by omega⟩ ⟨by omega, by omega⟩]
  · refine sizes_duel hL (comL L S ord) none (kepL L S ord) _ 1 up_none hc hd S.sum ?_
    have h3 := wt_ord (L := L) (S := S) ord hb hL
    have h4 : (ord.map fun a => S.getD a.toNat 0).sum = S.sum := by rw [sum_perm (hp.map _), sum_upN]
    show S.sum = L * (kepL L S ord).length + 0 + sumP (comL L S ord)
    omega
/-! the law's mixing of a cell -/
def mixr (c k : Int) : Int :=
  let a := (c % 2147483629 + 7919 * k + 17) * 48271 % 2147483647
  let b := (a * a + 3 * k) % 2147483629
  b * (b + 3) % 2147483587
theorem mixr_b (c k : Int) : 0 ≤ mixr c k ∧ mixr c k < 2147483587 := by
  unfold mixr
  exact ⟨Int.emod_nonneg _ (by decide), Int.emod_lt_of_pos _ (by decide)⟩
def sp__law_cell (K : PySem.W.Frag) (mg : Str → Option Value) : Sp := fun vs H Q _ => match vs with | [.ref a, .int k] => ∃ ns : List Int, SqL K H a (ns.map V.int) ∧ 0 ≤ k ∧ k < 1000000 ∧ Q (.int (cellAt ns k (7919 * k + 13))) H | _ => False
theorem q__law_cell {H : Hp} {Q : VK} {E : XK} {a : Addr} {k : Int} (q : ∃ ns : List Int, SqL K H a (ns.map V.int) ∧ 0 ≤ k ∧ k < 1000000 ∧ Q (.int (cellAt ns k (7919 * k + 13))) H) : sp__law_cell K mg [.ref a, .int k] H Q E := q
local macro_rules | `(tactic| walk_at "op") => `(tactic| with_reducible refine q__law_cell ?_)
theorem c__law_cell (T : Txt K mg base) : Cal P w K mg base 1 "_law_cell" (sp__law_cell K mg) := by
  refine T.d__law_cell.cal (k := 0) sc__law_cell (by intro vs H Q E h; unfold sp__law_cell at h; split at h <;> first | rfl | exact h.elim) fun f cdv A outer s H vs Q E hr h => ?_
  refine ⟨_, (pss_cons (ps_if (pt_cmpR op_ltA (pv 1) (pe_callB call_lenA (by rfl) T.n_len (by decide +kernel) (pa_cons (pv 0) pa_nil)) (nomark _))
    (pss_one (ps_ret (pe_ix ix_seq (pv 0) (pv 1) (fun _ _ => rfl))))
    pss_nil)
    (pss_one (ps_ret (pe_op op_addA (pe_op op_mulA pe_int (pv 1)) pe_int)))), ?_⟩
  try simp only [cxOf_K, cxOf_K', cxOf_mg, cxOf_mg']
  unfold sp__law_cell at h
  split at h
  case h_2 => exact h.elim
  rename_i a k
  rw [show L2.start ["_law_script", "_law_k"] [V.ref a, V.int k] = [some (V.ref a), some (V.int k)] from rfl]
  obtain ⟨ns, hS, hk, hk2, q⟩ := h
  walk_at "sa"
  rw [List.length_map]
  refine L_d (fun c => ?_) (fun c => ?_)
  · walk_at "sts"
    exact L_ixL hS (cellAt_in hk c) q
  · walk_at "sa"
    rw [cellAt_out c] at q
    exact q
def sp__law_mix (K : PySem.W.Frag) (mg : Str → Option Value) : Sp := fun vs H Q _ => match vs with | [.int c, .int k] => 0 ≤ k ∧ k < 1000000 ∧ Q (.int (mixr c k)) H | _ => False
theorem q__law_mix {H : Hp} {Q : VK} {E : XK} {c : Int} {k : Int} (q : 0 ≤ k ∧ k < 1000000 ∧ Q (.int (mixr c k)) H) : sp__law_mix K mg [.int c, .int k] H Q E := q
local macro_rules | `(tactic| walk_at "op") => `(tactic| with_reducible refine q__law_mix ?_)
theorem c__law_mix (T : Txt K mg base) : Cal P w K mg base 1 "_law_mix" (sp__law_mix K mg) := by
  refine T.d__law_mix.cal (k := 0) sc__law_mix (by intro vs H Q E h; unfold sp__law_mix at h; split at h <;> first | rfl | exact h.elim) fun f cdv A outer s H vs Q E hr h => ?_
  refine ⟨_, (pss_cons (ps_set (i := 2) sc__law_mix.nd rfl (.inl rfl) (pe_op op_mod (pe_op op_mulA (pe_op op_addA (pe_op op_addA (pe_op op_mod (pv 0) pe_int) (pe_op op_mulA pe_int (pv 1))) pe_int) pe_int) pe_int))
    (pss_cons (ps_set (i := 2) sc__law_mix.nd rfl (.inl rfl) (pe_op op_mod (pe_op op_addA (pe_op op_mulA (pv 2) (pv 2)) (pe_op op_mulA pe_int (pv 1))) pe_int))
    (pss_one (ps_ret (pe_op op_mod (pe_op op_mulA (pv 2) (pe_op op_addA (pv 2) pe_int)) pe_int))))), ?_⟩
  try simp only [cxOf_K, cxOf_K', cxOf_mg, cxOf_mg']
  unfold sp__law_mix at h
  split at h
  case h_2 => exact h.elim
  rename_i c k
  rw [show L2.start ["_law_cell_here", "_law_k", "_law_number"] [V.int c, V.int k] = [some (V.int c), some (V.int k), none] from rfl]
  obtain ⟨hk, hk2, q⟩ := h
  walk_at "sa"
  exact q
def sp__law_row (K : PySem.W.Frag) (mg : Str → Option Value) : Sp := fun vs H Q _ => match vs with | [.int c, .int bit, .int many, .int most] => 0 ≤ many ∧ many ≤ 1000 ∧ 0 < most ∧ most ≤ 1000000000000 ∧ (∀ l : List Int, l.length = many.toNat → (∀ x ∈ l, 0 ≤ x ∧ x < most) → NewL H (l.map V.int) Q) | _ => False
theorem q__law_row {H : Hp} {Q : VK} {E : XK} {c : Int} {bit : Int} {many : Int} {most : Int} (q : 0 ≤ many ∧ many ≤ 1000 ∧ 0 < most ∧ most ≤ 1000000000000 ∧ (∀ l : List Int, l.length = many.toNat → (∀ x ∈ l, 0 ≤ x ∧ x < most) → NewL H (l.map V.int) Q)) : sp__law_row K mg [.int c, .int bit, .int many, .int most] H Q E := q
local macro_rules | `(tactic| walk_at "op") => `(tactic| with_reducible refine q__law_row ?_)
theorem c__law_row (T : Txt K mg base) : Cal P w K mg base 2 "_law_row" (sp__law_row K mg) := by
  refine T.d__law_row.cal (k := 1) sc__law_row (by intro vs H Q E h; unfold sp__law_row at h; split at h <;> first | rfl | exact h.elim) fun f cdv A outer s H vs Q E hr h => ?_
  refine ⟨_, (pss_cons (ps_set (i := 4) sc__law_row.nd rfl (.inl rfl) (pe_lst pa_nil))
    (pss_cons (ps_for PassesOwn.never rfl (pi_range1 (by rfl) T.n_range (pa_cons (pv 2) pa_nil)) (pg_name (i := 5) sc__law_row.nd rfl (.inl rfl))
    (pss_one (ps_if (pt_cmpR (op_eqA hr) (pe_op op_mod (pv 1) pe_int) pe_int (nomark _))
    (pss_cons (ps_expr (pe_bm PySem.F.plainAttrs_list PySem.F.slot_list_append PySem.F.type_list_append mt_append (pv 4) (pa_cons (pe_op op_mod (pv 0) (pv 3)) pa_nil)))
    (pss_one (ps_set (i := 0) sc__law_row.nd rfl (.inl rfl) (pe_op op_fdivW (pv 0) (pv 3)))))
    (pss_one (ps_expr (pe_bm PySem.F.plainAttrs_list PySem.F.slot_list_append PySem.F.type_list_append mt_append (pv 4) (pa_cons (pe_op op_mod (pe_c (c__law_mix T) hr (by decide) (by rfl) (pa_cons (pv 0) (pa_cons (pv 5) pa_nil))) (pv 3)) pa_nil)))))))
    (pss_one (ps_ret (pv 4))))), ?_⟩
  try simp only [cxOf_K, cxOf_K', cxOf_mg, cxOf_mg']
  unfold sp__law_row at h
  split at h
  case h_2 => exact h.elim
  rename_i c bit many most
  rw [show L2.start ["_law_cell_here", "_law_bit", "_law_many", "_law_most", "_law_row_here", "_law_k"] [V.int c, V.int bit, V.int many, V.int most] = [some (V.int c), some (V.int bit), some (V.int many), some (V.int most), none, none] from rfl]
  obtain ⟨h1, h2, h3, h4, q⟩ := h
  walk_at "sa"
  refine L_new (by decide) fun p hp => ?_
  walk_at "sa"
  refine L_r1 (by omega) (by omega) ?_
  refine f_range (fun i σ' H' => ∃ (c' : Int) (l : List Int) (v : Option V), σ' = [some (.int c'), some (.int bit), some (.int many), some (.int most), some (.ref p), v] ∧ Same H H' ∧ H' p = some (.lst (l.map V.int)) ∧ l.length = i ∧ ∀ x ∈ l, 0 ≤ x ∧ x < most) ⟨c, [], none, rfl, same_new hp, upd_same, rfl, by simp⟩ ?_ ?_
  · rintro i σ' H' hi ⟨c', l, v, rfl, s, hd, hlen, hb⟩
    have hz : l.length < 1000000 := by omega
    walk_at "sa"
    refine L_d (fun _ => ?_) (fun _ => ?_)
    · walk_at "sts"
      refine L_tyL (.of hd) ?_
      walk_at "sts"
      refine L_I h3 ?_
      walk_at "sts"
      refine L_app hd (by rw [List.length_map]; exact sz_lt hz) ?_
      walk_at "sts"
      refine L_I ((bd_64 (by omega)).cdiv h3) ?_
      walk_at "sts"
      refine ⟨_, l ++ [c' % most], _, rfl, same_mut s hp, by rw [List.map_append]; exact upd_same, by simp [hlen], fun x hx => ?_⟩
      rcases List.mem_append.mp hx with hx | hx
      · exact hb x hx
      · rw [List.mem_singleton.mp hx]
        exact ⟨Int.emod_nonneg _ (by omega), Int.emod_lt_of_pos _ h3⟩
    · walk_at "sts"
      refine L_tyL (.of hd) ?_
      walk_at "sts"
      refine ⟨by omega, by omega, ?_⟩
      walk_at "sts"
      refine L_I h3 ?_
      walk_at "sts"
      refine L_app hd (by rw [List.length_map]; exact sz_lt hz) ?_
      walk_at "sts"
      refine ⟨_, l ++ [mixr c' (0 + (i : Int)) % most], _, rfl, same_mut s hp, by rw [List.map_append]; exact upd_same, by simp [hlen], fun x hx => ?_⟩
      rcases List.mem_append.mp hx with hx | hx
      · exact hb x hx
      · rw [List.mem_singleton.mp hx]
        exact ⟨Int.emod_nonneg _ (by omega), Int.emod_lt_of_pos _ h3⟩
  · rintro σ' H' ⟨c', l, v, rfl, s, hd, hlen, hb⟩
    walk_at "sts"
    exact q l hlen hb p H' hp s hd
def sp__law_whole (K : PySem.W.Frag) (mg : Str → Option Value) : Sp := fun vs H Q _ => match vs with | [.int t] => Q (.bl true) H | _ => False
theorem q__law_whole {H : Hp} {Q : VK} {E : XK} {t : Int} (q : Q (.bl true) H) : sp__law_whole K mg [.int t] H Q E := q
local macro_rules | `(tactic| walk_at "op") => `(tactic| with_reducible refine q__law_whole ?_)
theorem c__law_whole (T : Txt K mg base) : Cal P w K mg base 1 "_law_whole" (sp__law_whole K mg) := by
  refine T.d__law_whole.cal (k := 0) sc__law_whole (by intro vs H Q E h; unfold sp__law_whole at h; split at h <;> first | rfl | exact h.elim) fun f cdv A outer s H vs Q E hr h => ?_
  refine ⟨_, (pss_one (ps_ret (pe_and (pe_callB call_isi (by rfl) T.n_isinstance (by decide +kernel) (pa_cons (pv 0) (pa_cons (pe_ty "int" (by rfl) T.n_int (by decide +kernel)) pa_nil))) (pe_one (pe_not (pe_callB call_isi (by rfl) T.n_isinstance (by decide +kernel) (pa_cons (pv 0) (pa_cons (pe_ty "bool" (by rfl) T.n_bool (by decide +kernel)) pa_nil)))))))), ?_⟩
  try simp only [cxOf_K, cxOf_K', cxOf_mg, cxOf_mg']
  unfold sp__law_whole at h
  split at h
  case h_2 => exact h.elim
  rename_i t
  rw [show L2.start ["_law_found"] [V.int t] = [some (V.int t)] from rfl]
  walk_at "sa"
  exact h
def sp__law_fraction (K : PySem.W.Frag) (mg : Str → Option Value) : Sp := fun vs H Q _ => match vs with | [.ref a, .ref b] => ∃ x y : Int, SqT K H a [.int x, .int y] ∧ SqT K H b [.int x, .int y] ∧ Q (.bl true) H | _ => False
theorem q__law_fraction {H : Hp} {Q : VK} {E : XK} {a : Addr} {b : Addr} (q : ∃ x y : Int, SqT K H a [.int x, .int y] ∧ SqT K H b [.int x, .int y] ∧ Q (.bl true) H) : sp__law_fraction K mg [.ref a, .ref b] H Q E := q
local macro_rules | `(tactic| walk_at "op") => `(tactic| with_reducible refine q__law_fraction ?_)
theorem c__law_fraction (T : Txt K mg base) : Cal P w K mg base 2 "_law_fraction" (sp__law_fraction K mg) := by
  refine T.d__law_fraction.cal (k := 1) sc__law_fraction (by intro vs H Q E h; unfold sp__law_fraction at h; split at h <;> first | rfl | exact h.elim) fun f cdv A outer s H vs Q E hr h => ?_
  refine ⟨_, (pss_cons (ps_if (PW.pt (pw_or (pt_not (pt_val (pe_callB call_isi (by rfl) T.n_isinstance (by decide +kernel) (pa_cons (pv 0) (pa_cons (pe_ty "tuple" (by rfl) T.n_tuple (by decide +kernel)) pa_nil))))) (pw_or (pt_cmpR (op_neA hr) (pe_callB call_lenA (by rfl) T.n_len (by decide +kernel) (pa_cons (pv 0) pa_nil)) pe_int (nomark _)) (pw_or (pt_not (pt_val (pe_c (c__law_whole T) hr (by decide) (by rfl) (pa_cons (pe_ix ix_seq (pv 0) pe_int (fun _ _ => rfl)) pa_nil)))) (pw_or1 (pt_not (pt_val (pe_c (c__law_whole T) hr (by decide) (by rfl) (pa_cons (pe_ix ix_seq (pv 0) pe_int (fun _ _ => rfl)) pa_nil)))))))))
    (pss_one (ps_ret pe_bl))
    pss_nil)
    (pss_one (ps_ret (pe_cmpR (op_eqA hr) (pv 0) (pv 1) (nomark _))))), ?_⟩
  try simp only [cxOf_K, cxOf_K', cxOf_mg, cxOf_mg']
  unfold sp__law_fraction at h
  split at h
  case h_2 => exact h.elim
  rename_i a b
  rw [show L2.start ["_law_found", "_law_due"] [V.ref a, V.ref b] = [some (V.ref a), some (V.ref b)] from rfl]
  obtain ⟨x, y, ha, hb, q⟩ := h
  walk_at "sts"
  refine L_isi (tyx_T ha) (b := true) (by decide +kernel) ?_
  walk_at "sts"
  refine L_lenT ha ?_
  walk_at "sts"
  refine L_ndF rfl ?_
  walk_at "sts"
  refine L_ixT ha rfl ?_
  walk_at "sts"
  refine L_ixT ha rfl ?_
  walk_at "sts"
  refine L_eqR (d := .tuple [.int x, .int y]) (.tup ha (.cons (.int _) (.cons (.int _) .nil))) (.tup hb (.cons (.int _) (.cons (.int _) .nil))) (shp_tup (n := 0) (shp_cons shp_int (shp_cons shp_int shp_nil))).ok ?_
  exact q
theorem hitR {K : PySem.W.Frag} {H : Hp} {us : List V} {rows : List (List (Int × Int))} (hA : DpAll K H us (rows.map d2r)) {i : Nat} {x : V} (hx : us[i]? = some x) : ∃ r a vs, rows[i]? = some r ∧ x = V.ref a ∧ SqL K H a vs ∧ DpAll K H vs (r.map d2) := by
  obtain ⟨d, h1, h2⟩ := hA.of hx
  rw [List.getElem?_map] at h1
  obtain ⟨r, h3, rfl⟩ := Option.map_eq_some_iff.mp h1
  obtain ⟨a, xs, rfl, h4, h5⟩ := of_lst h2
  exact ⟨r, a, xs, h3, rfl, h4, h5⟩
theorem dpLen {K : PySem.W.Frag} {H : Hp} : ∀ {us : List V} {ds : List PyData}, DpAll K H us ds → us.length = ds.length
  | _, [], h => by cases h; rfl
  | _, d :: ds, h => by
    cases h with | cons h1 h2 => rw [List.length_cons, List.length_cons, dpLen h2]
def sp__law_matrix (K : PySem.W.Frag) (mg : Str → Option Value) : Sp := fun vs H Q _ => match vs with | [.ref a, .ref b] => ∃ (rows : List (List (Int × Int))) (us ws : List V), SqL K H a us ∧ SqL K H b ws ∧ DpAll K H us (rows.map d2r) ∧ DpAll K H ws (rows.map d2r) ∧ rows.length ≤ 24 ∧ (∀ r ∈ rows, r.length ≤ 24) ∧ ∀ H', Same H H' → Q (.bl true) H' | _ => False
theorem q__law_matrix {H : Hp} {Q : VK} {E : XK} {a : Addr} {b : Addr} (q : ∃ (rows : List (List (Int × Int))) (us ws : List V), SqL K H a us ∧ SqL K H b ws ∧ DpAll K H us (rows.map d2r) ∧ DpAll K H ws (rows.map d2r) ∧ rows.length ≤ 24 ∧ (∀ r ∈ rows, r.length ≤ 24) ∧ ∀ H', Same H H' → Q (.bl true) H') : sp__law_matrix K mg [.ref a, .ref b] H Q E := q
local macro_rules | `(tactic| walk_at "op") => `(tactic| with_reducible refine q__law_matrix ?_)
theorem c__law_matrix (T : Txt K mg base) : Cal P w K mg base 3 "_law_matrix" (sp__law_matrix K mg) := by
  refine T.d__law_matrix.cal (k := 2) sc__law_matrix (by intro vs H Q E h; unfold sp__law_matrix at h; split at h <;> first | rfl | exact h.elim) fun f cdv A outer s H vs Q E hr h => ?_
  refine ⟨_, (pss_cons (ps_if (PW.pt (pw_or (pt_not (pt_val (pe_callB call_isi (by rfl) T.n_isinstance (by decide +kernel) (pa_cons (pv 0) (pa_cons (pe_ty "list" (by rfl) T.n_list (by decide +kernel)) pa_nil))))) (pw_or1 (pt_cmpR (op_neA hr) (pe_callB call_lenA (by rfl) T.n_len (by decide +kernel) (pa_cons (pv 0) pa_nil)) (pe_callB call_lenA (by rfl) T.n_len (by decide +kernel) (pa_cons (pv 1) pa_nil)) (nomark _)))))
    (pss_one (ps_ret pe_bl))
    pss_nil)
    (pss_cons (ps_for PassesOwn.never rfl (pi_zip (by rfl) T.n_zip (pa_cons (pv 0) (pa_cons (pv 1) pa_nil))) (pg_tup rfl (pgs_cons (pg_name (i := 2) sc__law_matrix.nd rfl (.inl rfl)) (pgs_cons (pg_name (i := 3) sc__law_matrix.nd rfl (.inl rfl)) pgs_nil)))
    (pss_cons (ps_if (PW.pt (pw_or (pt_not (pt_val (pe_callB call_isi (by rfl) T.n_isinstance (by decide +kernel) (pa_cons (pv 2) (pa_cons (pe_ty "list" (by rfl) T.n_list (by decide +kernel)) pa_nil))))) (pw_or1 (pt_cmpR (op_neA hr) (pe_callB call_lenA (by rfl) T.n_len (by decide +kernel) (pa_cons (pv 2) pa_nil)) (pe_callB call_lenA (by rfl) T.n_len (by decide +kernel) (pa_cons (pv 3) pa_nil)) (nomark _)))))
    (pss_one (ps_ret pe_bl))
    pss_nil)
    (pss_one (ps_for PassesOwn.never rfl (pi_zip (by rfl) T.n_zip (pa_cons (pv 2) (pa_cons (pv 3) pa_nil))) (pg_tup rfl (pgs_cons (pg_name (i := 4) sc__law_matrix.nd rfl (.inl rfl)) (pgs_cons (pg_name (i := 5) sc__law_matrix.nd rfl (.inl rfl)) pgs_nil)))
    (pss_one (ps_if (pt_not (pt_val (pe_c (c__law_fraction T) hr (by decide) (by rfl) (pa_cons (pv 4) (pa_cons (pv 5) pa_nil)))))
    (pss_one (ps_ret pe_bl))
    pss_nil))))))
    (pss_one (ps_ret pe_bl)))), ?_⟩
  try simp only [cxOf_K, cxOf_K', cxOf_mg, cxOf_mg']
  unfold sp__law_matrix at h
  split at h
  case h_2 => exact h.elim
  rename_i a b
  rw [show L2.start ["_law_found", "_law_due", "_law_row_here", "_law_others", "_law_one", "_law_other"] [V.ref a, V.ref b] = [some (V.ref a), some (V.ref b), none, none, none, none] from rfl]
  obtain ⟨rows, us, ws, ha, hb, dA, dB, hl, hr, q⟩ := h
  have lA := dpLen dA
  have lB := dpLen dB
  rw [List.length_map] at lA lB
  walk_at "sts"
  refine L_isi (tyx_L ha) (b := true) (by decide +kernel) ?_
  walk_at "sts"
  refine L_lenL ha ?_
  walk_at "sts"
  refine L_lenL hb ?_
  walk_at "sts"
  refine L_ndF (by omega) ?_
  walk_at "sts"
  refine L_rz ha hb ?_
  refine f_it (walk_zip (n := rows.length) (by omega)) (fun i σ' H' => ∃ v2 v3 v4 v5 : Option V, σ' = [some (.ref a), some (.ref b), v2, v3, v4, v5] ∧ Same H H') ⟨_, _, _, _, rfl, .refl _⟩ (fun i σ' H' _ ⟨_, _, _, _, _, e⟩ => ⟨e.seq ha, e.seq hb⟩) ?_ ?_
  · rintro i x σ' H' H'' hi ⟨v2, v3, v4, v5, rfl, s⟩ ⟨T1, y, z, rfl, hT, rfl, hy, hz⟩
    obtain ⟨r, a1, vs1, hr1, rfl, h1, d1⟩ := hitR dA hy
    obtain ⟨r2, a2, vs2, hr2, rfl, h2, d2'⟩ := hitR dB hz
    rw [hr1] at hr2
    cases hr2
    have rl := hr r (List.mem_of_getElem? hr1)
    have l1 := dpLen d1
    have l2 := dpLen d2'
    rw [List.length_map] at l1 l2
    have s4 := same_upd (o := HO.tup [V.ref a1, V.ref a2]) s hT
    refine L_gTup (.of upd_same) rfl ?_
    generalize upd H' T1 (HO.tup [V.ref a1, V.ref a2]) = H4 at s4 ⊢
    walk_at "sts"
    refine L_isi (tyx_L (s4.seq h1)) (b := true) (by decide +kernel) ?_
    walk_at "sts"
    refine L_lenL (s4.seq h1) ?_
    walk_at "sts"
    refine L_lenL (s4.seq h2) ?_
    walk_at "sts"
    refine L_ndF (by omega) ?_
    walk_at "sts"
    refine L_rz (s4.seq h1) (s4.seq h2) ?_
    refine f_it (walk_zip (n := r.length) (by omega)) (fun j σ' H' => ∃ v4 v5 : Option V, σ' = [some (.ref a), some (.ref b), some (.ref a1), some (.ref a2), v4, v5] ∧ Same H H') ⟨_, _, rfl, s4⟩ (fun j σ' H' _ ⟨_, _, _, e⟩ => ⟨e.seq h1, e.seq h2⟩) ?_ ?_
    · rintro j x σ' H5 H6 hj ⟨v4, v5, rfl, s5⟩ ⟨T2, y, z, rfl, hT2, rfl, hy2, hz2⟩
      obtain ⟨p, t1, hp1, rfl, g1⟩ := hit2 d1 hy2
      obtain ⟨p2, t2, hp2, rfl, g2⟩ := hit2 d2' hz2
      rw [hp1] at hp2
      cases hp2
      have s6 := same_upd (o := HO.tup [V.ref t1, V.ref t2]) s5 hT2
      refine L_gTup (.of upd_same) rfl ?_
      generalize upd H5 T2 (HO.tup [V.ref t1, V.ref t2]) = H7 at s6 ⊢
      walk_at "sts"
      refine ⟨p.1, p.2, s6.seqT g1, s6.seqT g2, ?_⟩
      walk_at "sts"
      exact ⟨_, _, rfl, s6⟩
    · rintro σ' H5 ⟨v4, v5, rfl, s5⟩
      walk_at "sts"
      exact ⟨_, _, _, _, rfl, s5⟩
  · rintro σ' H5 ⟨v2, v3, v4, v5, rfl, s5⟩
    walk_at "sts"
    exact q _ s5
def sp__law_shares (K : PySem.W.Frag) (mg : Str → Option Value) : Sp := fun vs H Q _ => match vs with | [.ref a, .int st, .int most] => ∃ ns : List Int, SqL K H a (ns.map V.int) ∧ 0 ≤ st ∧ st ≤ 1000 ∧ 1 ≤ most ∧ most ≤ 24 ∧ ∀ (L : Int) (S : List Int) p us H', H p = none → Same H H' → H' p = some (.lst us) → DpAll K (rs (· ≠ p) H') us (S.map fun s => d2 (low s L)) → ShOk L S → 1 ≤ S.length → (S.length : Int) ≤ most → Q (.ref p) H' | _ => False
theorem q__law_shares {H : Hp} {Q : VK} {E : XK} {a : Addr} {st : Int} {most : Int} (q : ∃ ns : List Int, SqL K H a (ns.map V.int) ∧ 0 ≤ st ∧ st ≤ 1000 ∧ 1 ≤ most ∧ most ≤ 24 ∧ ∀ (L : Int) (S : List Int) p us H', H p = none → Same H H' → H' p = some (.lst us) → DpAll K (rs (· ≠ p) H') us (S.map fun s => d2 (low s L)) → ShOk L S → 1 ≤ S.length → (S.length : Int) ≤ most → Q (.ref p) H') : sp__law_shares K mg [.ref a, .int st, .int most] H Q E := q
local macro_rules | `(tactic| walk_at "op") => `(tactic| with_reducible refine q__law_shares ?_)
theorem c__law_shares (T : Txt K mg base) : Cal P w K mg base 3 "_law_shares" (sp__law_shares K mg) := by
  refine T.d__law_shares.cal (k := 2) sc__law_shares (by intro vs H Q E h; unfold sp__law_shares at h; split at h <;> first | rfl | exact h.elim) fun f cdv A outer s H vs Q E hr h => ?_
  refine ⟨_, (pss_cons (ps_set (i := 3) sc__law_shares.nd rfl (.inl rfl) (pe_op op_addA pe_int (pe_op op_mod (pe_c (c__law_cell T) hr (by decide) (by rfl) (pa_cons (pv 0) (pa_cons (pv 1) pa_nil))) (pv 2))))
    (pss_cons (ps_set (i := 4) sc__law_shares.nd rfl (.inl rfl) (pe_c (c__law_cell T) hr (by decide) (by rfl) (pa_cons (pv 0) (pa_cons (pe_op op_addA (pv 1) pe_int) pa_nil))))
    (pss_cons (ps_set (i := 5) sc__law_shares.nd rfl (.inr rfl) (pe_op op_addA pe_int (pe_op op_mod (pe_c (c__law_cell T) hr (by decide) (by rfl) (pa_cons (pv 0) (pa_cons (pe_op op_addA (pv 1) pe_int) pa_nil))) (pe_ix ix_seq (pe_lst (pa_cons pe_int (pa_cons pe_int (pa_cons pe_int (pa_cons (pe_op op_pow pe_int pe_int) pa_nil))))) (pe_op op_mod (pe_op op_fdivW (pv 4) pe_int) pe_int) (fun _ _ => rfl)))))
    (pss_cons (ps_set (i := 6) sc__law_shares.nd rfl (.inl rfl) (pe_c (c__law_row T) hr (by decide) (by rfl) (pa_cons (pe_c (c__law_cell T) hr (by decide) (by rfl) (pa_cons (pv 0) (pa_cons (pe_op op_addA (pv 1) pe_int) pa_nil))) (pa_cons (pv 4) (pa_cons (pv 3) (pa_cons (pe_op op_addA (pe_op op_addA (pv 5) pe_int) (pe_op op_fdivW (pv 5) pe_int)) pa_nil))))))
    (pss_one (ps_ret (pe_lc (own := [("_law_top", 7)]) (g := (gName 7)) (tt := tYes) (te := (tCall (sp__law_low K mg) [] E0 (tCons (tCB aMin2 (tCons (tVar 7) (tCons (tVar 5) tNil))) (tCons (tVar 5) tNil)))) rfl sc__law_shares.nd (pi_list (pv 6)) (blkOk_by (N := ["_law_script", "_law_start", "_law_most", "_law_many", "_law_bit", "_law_bottom", "_law_tops", "_law_top"]) (sc := defScope s__law_shares) (by decide +kernel)) (fun _ _ _ _ _ => by exact (pg_name (i := 7) sc__law_shares.nd rfl (.inl rfl))) (fun _ _ _ _ _ => pts_nil) (fun _ _ _ _ _ => by exact (pe_c (c__law_low T) hr (by decide) (by rfl) (pa_cons (pe_callB (call_min2A rfl) (by rfl) T.n_min (by decide +kernel) (pa_cons (pv 7) (pa_cons (pv 5) pa_nil))) (pa_cons (pv 5) pa_nil))))))))))), ?_⟩
  try simp only [cxOf_K, cxOf_K', cxOf_mg, cxOf_mg']
  unfold sp__law_shares at h
  split at h
  case h_2 => exact h.elim
  rename_i a st most
  rw [show L2.start ["_law_script", "_law_start", "_law_most", "_law_many", "_law_bit", "_law_bottom", "_law_tops", "_law_top"] [V.ref a, V.int st, V.int most] = [some (V.ref a), some (V.int st), some (V.int most), none, none, none, none, none] from rfl]
  obtain ⟨ns, hS, st0, st1, mo0, mo1, q⟩ := h
  walk_at "sts"
  refine ⟨ns, hS, st0, by omega, ?_⟩
  walk_at "sts"
  refine L_I (by omega) ?_
  have m0 := Int.emod_nonneg (cellAt ns st (7919 * st + 13)) (show most ≠ 0 by omega)
  have m1 := Int.emod_lt_of_pos (cellAt ns st (7919 * st + 13)) (show 0 < most by omega)
  generalize cellAt ns st (7919 * st + 13) % most = many at m0 m1
  walk_at "sts"
  refine ⟨ns, hS, by omega, by omega, ?_⟩
  generalize cellAt ns (st + 1) (7919 * (st + 1) + 13) = bit
  walk_at "sts"
  refine ⟨ns, hS, by omega, by omega, ?_⟩
  walk_at "sa"
  walk_at "nw"
  rename_i p1 hp1 H1 s1 e1
  walk_at "sa"
  refine L_ixP (ns := [4, 12, 1000, 1000000000]) (P := fun x => 1 ≤ x ∧ x ≤ 1000000000) (.of e1) (by simp) (Int.emod_nonneg _ (by decide)) (Int.emod_lt_of_pos _ (by decide)) fun ms hms => ?_
  walk_at "sts"
  refine L_I (by omega) ?_
  have b0 := Int.emod_nonneg (cellAt ns (st + 2) (7919 * (st + 2) + 13)) (show ms ≠ 0 by omega)
  have b1 := Int.emod_lt_of_pos (cellAt ns (st + 2) (7919 * (st + 2) + 13)) (show 0 < ms by omega)
  generalize cellAt ns (st + 2) (7919 * (st + 2) + 13) % ms = bo at b0 b1
  walk_at "sts"
  refine ⟨ns, s1.seq hS, by omega, by omega, ?_⟩
  walk_at "sa"
  refine ⟨by omega, by omega, by omega, by omega, fun tops htl htb p2 H2 hp2 s2 e2 => ?_⟩
  walk_at "sts"
  refine L_rl (.of e2) ?_
  have hL : 0 < 1 + bo := by omega
  refine lc_dp (K := K) walk_list (fun i => tops[i]?.map fun t => d2 (low (min t (1 + bo)) (1 + bo))) (by rw [List.length_map]; omega) (fun H' e => .of (e _ _ e2)) ?_ ?_
  · rintro i x1 p0 H11 H12 R R' hi np s11 ⟨o, ho⟩ ⟨rfl, hx⟩ r1 r2
    rw [List.getElem?_map] at hx
    obtain ⟨t, ht, rfl⟩ := Option.map_eq_some_iff.mp hx
    have hb := htb t (List.mem_of_getElem? ht)
    walk_at "sts"
    refine ⟨rfl, ?_⟩
    walk_at "sts"
    refine ⟨by omega, (bd_64 (by omega)).mono (by decide), fun p13 H13 hp13 s13 e13 => ?_⟩
    have n13 : p13 ≠ p0 := fun z => by rw [z, ho] at hp13; cases hp13
    exact r1 _ _ _ (by rw [ht]; rfl) s13 (dp_tupN e13 n13 (.cons (.int _) (.cons (.int _) .nil)))
  intro p H3 vs hp s3 e3 d3
  walk_at "sts"
  rw [List.length_map, fm_get (fun t => d2 (low (min t (1 + bo)) (1 + bo))) tops] at d3
  refine q (1 + bo) (tops.map fun t => min t (1 + bo)) p vs H3 ((s1.trans s2).free hp) (s1.trans (s2.trans s3)) e3 (by rw [List.map_map]; exact d3) ⟨by omega, by omega, fun s hs => ?_, by rw [List.length_map]; omega⟩ (by rw [List.length_map]; omega) (by rw [List.length_map]; omega)
  obtain ⟨t, ht, rfl⟩ := List.mem_map.mp hs
  have := htb t ht
  omega
theorem L_popAtI {H : Hp} {Q : VK} {l : Addr} {ps : List Int} {i : Int} (h : H l = some (.lst (ps.map V.int))) (h0 : 0 ≤ i) (h1 : i < ps.length) (hb : ps.length ≤ 1000) (q : ∀ y, ps[i.toNat]? = some y → Q (.int y) (upd H l (.lst ((ps.eraseIdx i.toNat).map V.int)))) : rPopAt (.ref l) [.int i] H Q := by
  have hlt : i.toNat < ps.length := by omega
  have q' := q _ (List.getElem?_eq_getElem hlt)
  have e : ((ps.eraseIdx i.toNat).map V.int) = (ps.map V.int).eraseIdx i.toNat := by
    rw [List.eraseIdx_eq_take_drop_succ, List.eraseIdx_eq_take_drop_succ, List.map_append, List.map_take, List.map_drop]
  rw [e] at q'
  exact ⟨l, _, i, i.toNat, .int ps[i.toNat], rfl, rfl, h, by omega, by omega, seqIndex_of h0 (by rw [List.length_map]; exact h1), by rw [List.getElem?_map, List.getElem?_eq_getElem hlt]; rfl, q'⟩
theorem L_lstRg {te : L2.St → Hp → (Int → Int → Hp → Prop) → Prop} {σ : L2.St} {H : Hp} {Q : VK} (h : te σ H fun a b H1 => RgOk a b ∧ ∀ q, H1 q = none → Q (.ref q) (upd H1 q (.lst (rgV a b)))) : tLstRg te σ H Q := h
theorem L_rg1 {ta : TE} {σ : L2.St} {H : Hp} {Q : Int → Int → Hp → Prop} (h : ta σ H fun x H1 => ∃ n, x = .int n ∧ Q 0 n H1) : tRg1 ta σ H Q := h
theorem rgV_up (n : Nat) : rgV 0 (n : Int) = (upN n).map V.int := by
  unfold rgV upN
  rw [List.map_map, show ((n : Int) - 0).toNat = n by omega]
  refine List.map_congr_left fun i _ => ?_
  show V.int (0 + (i : Int)) = V.int i
  rw [Int.zero_add]
theorem erase_perm {α : Type} : ∀ {l : List α} {i : Nat} {y : α}, l[i]? = some y → (y :: l.eraseIdx i).Perm l
  | [], _, _, h => by simp at h
  | a :: l, 0, y, h => by
    cases h
    exact .refl _
  | a :: l, i + 1, y, h => by
    have ih := erase_perm (l := l) (i := i) (y := y) h
    exact (List.Perm.swap a y _).trans (ih.cons a)
def sp__law_order (K : PySem.W.Frag) (mg : Str → Option Value) : Sp := fun vs H Q _ => match vs with | [.int c, .int bit, .int many] => ∃ n : Nat, many = (n : Int) ∧ n ≤ 24 ∧ ∀ ord : List Int, ord.Perm (upN n) → NewL H (ord.map V.int) Q | _ => False
theorem q__law_order {H : Hp} {Q : VK} {E : XK} {c : Int} {bit : Int} {many : Int} (q : ∃ n : Nat, many = (n : Int) ∧ n ≤ 24 ∧ ∀ ord : List Int, ord.Perm (upN n) → NewL H (ord.map V.int) Q) : sp__law_order K mg [.int c, .int bit, .int many] H Q E := q
local macro_rules | `(tactic| walk_at "op") => `(tactic| with_reducible refine q__law_order ?_)
theorem c__law_order (T : Txt K mg base) : Cal P w K mg base 3 "_law_order" (sp__law_order K mg) := by
  refine T.d__law_order.cal (k := 2) sc__law_order (by intro vs H Q E h; unfold sp__law_order at h; split at h <;> first | rfl | exact h.elim) fun f cdv A outer s H vs Q E hr h => ?_
  refine ⟨_, (pss_cons (ps_set (i := 3) sc__law_order.nd rfl (.inl rfl) (pe_listRg rfl (by rfl) T.n_list (prg_1 (by rfl) T.n_range (pv 2))))
    (pss_cons (ps_set (i := 4) sc__law_order.nd rfl (.inl rfl) (pe_lst pa_nil))
    (pss_cons (ps_for PassesOwn.never rfl (pi_list (pe_c (c__law_row T) hr (by decide) (by rfl) (pa_cons (pv 0) (pa_cons (pv 1) (pa_cons (pv 2) (pa_cons pe_int pa_nil)))))) (pg_name (i := 5) sc__law_order.nd rfl (.inl rfl))
    (pss_one (ps_expr (pe_bm PySem.F.plainAttrs_list PySem.F.slot_list_append PySem.F.type_list_append mt_append (pv 4) (pa_cons (pe_bm PySem.F.plainAttrs_list PySem.F.slot_list_pop PySem.F.type_list_pop mt_popAt (pv 3) (pa_cons (pe_op op_mod (pv 5) (pe_callB call_lenA (by rfl) T.n_len (by decide +kernel) (pa_cons (pv 3) pa_nil))) pa_nil)) pa_nil)))))
    (pss_one (ps_ret (pv 4)))))), ?_⟩
  try simp only [cxOf_K, cxOf_K', cxOf_mg, cxOf_mg']
  unfold sp__law_order at h
  split at h
  case h_2 => exact h.elim
  rename_i c bit many
  rw [show L2.start ["_law_cell_here", "_law_bit", "_law_many", "_law_left", "_law_order_here", "_law_pick"] [V.int c, V.int bit, V.int many] = [some (V.int c), some (V.int bit), some (V.int many), none, none, none] from rfl]
  obtain ⟨n, rfl, hn, q⟩ := h
  walk_at "sts"
  refine L_lstRg (L_rg1 ?_)
  walk_at "sts"
  refine ⟨⟨by decide, by decide, by omega, by omega, by show ((n : Int) - 0).toNat ≤ 16777216; omega⟩, ?_⟩
  walk_at "nwp"
  rename_i p3 hp3 H3 s3 e3
  rw [rgV_up n] at e3
  have n3 : (upN n).length = n := by unfold upN; rw [List.length_map, List.length_range]
  walk_at "sts"
  walk_at "nw"
  rename_i p4 hp4 H4 s4 e4
  walk_at "sts"
  refine ⟨by omega, by omega, by decide, by decide, fun pks hpl hpb p5 H5 hp5 s5 e5 => ?_⟩
  refine ⟨p5, rfl, ⟨_, .of e5⟩, ?_⟩
  have np34 : p3 ≠ p4 := fun z => by rw [z] at e3; rw [e3] at hp4; cases hp4
  have np35 : p3 ≠ p5 := fun z => by rw [← z, s4 _ _ e3] at hp5; cases hp5
  have np45 : p4 ≠ p5 := fun z => by rw [← z, e4] at hp5; cases hp5
  have nH4 : H p4 = none := s3.free hp4
  refine f_it walk_list (fun i σ' H' => ∃ (lf pl : List Int) (v5 : Option V), σ' = [some (.int c), some (.int bit), some (.int n), some (.ref p3), some (.ref p4), v5] ∧ Same H H' ∧ H' p5 = some (.lst (pks.map V.int)) ∧ H' p3 = some (.lst (lf.map V.int)) ∧ H' p4 = some (.lst (pl.map V.int)) ∧ (lf ++ pl).Perm (upN n) ∧ pl.length = i) ⟨upN n, [], _, rfl, s3.trans (s4.trans s5), e5, s5 _ _ (s4 _ _ e3), s5 _ _ e4, by rw [List.append_nil], rfl⟩ (fun i σ' H' _ ⟨_, _, _, _, _, e, _⟩ => .of e) ?_ ?_
  · rintro i x σ' Hy H6 hi ⟨lf, pl, v5, rfl, s6, e56, e36, e46, hpm, hli⟩ ⟨rfl, hx⟩
    rw [List.getElem?_map] at hx
    obtain ⟨pk, hpk, rfl⟩ := Option.map_eq_some_iff.mp hx
    have hll : lf.length + pl.length = n := by
      have := hpm.length_eq
      rw [List.length_append, n3] at this
      exact this
    rw [List.length_map] at hi
    walk_at "sts"
    refine L_tyL (.of e46) ?_
    walk_at "sts"
    refine L_tyL (.of e36) ?_
    walk_at "sts"
    refine L_lenL (.of e36) ?_
    walk_at "sts"
    rw [List.length_map]
    refine L_I (by omega) ?_
    walk_at "sts"
    have q0 := Int.emod_nonneg pk (show (lf.length : Int) ≠ 0 by omega)
    have q1 := Int.emod_lt_of_pos pk (show (0 : Int) < lf.length by omega)
    generalize pk % (lf.length : Int) = at_ at q0 q1
    refine L_popAtI e36 q0 q1 (by omega) fun y hy => ?_
    have s7 := same_mut (o := .lst ((lf.eraseIdx at_.toNat).map V.int)) s6 hp3
    have e57 : upd H6 p3 (.lst ((lf.eraseIdx at_.toNat).map V.int)) p5 = some (.lst (pks.map V.int)) := by rw [upd_ne np35.symm]; exact e56
    have e37 : upd H6 p3 (.lst ((lf.eraseIdx at_.toNat).map V.int)) p3 = some (.lst ((lf.eraseIdx at_.toNat).map V.int)) := upd_same
    have e47 : upd H6 p3 (.lst ((lf.eraseIdx at_.toNat).map V.int)) p4 = some (.lst (pl.map V.int)) := by rw [upd_ne np34.symm]; exact e46
    generalize upd H6 p3 (.lst ((lf.eraseIdx at_.toNat).map V.int)) = H7 at s7 e57 e37 e47 ⊢
    walk_at "sts"
    refine L_app e47 (by rw [List.length_map]; exact sz_lt (by omega)) ?_
    walk_at "sts"
    refine ⟨lf.eraseIdx at_.toNat, pl ++ [y], _, rfl, same_mut s7 nH4, by rw [upd_ne np45.symm]; exact e57, by rw [upd_ne np34]; exact e37, by rw [List.map_append]; exact upd_same, ?_, by simp [hli]⟩
    refine List.Perm.trans ?_ hpm
    refine List.Perm.trans ?_ ((erase_perm hy).append_right pl)
    rw [← List.append_assoc]
    exact List.perm_append_comm
  rintro σ' H6 ⟨lf, pl, v5, rfl, s6, e56, e36, e46, hpm, hli⟩
  rw [List.length_map, hpl] at hli
  walk_at "sts"
  have hlf : lf = [] := by
    have := hpm.length_eq
    rw [List.length_append, n3] at this
    exact List.length_eq_zero_iff.mp (by omega)
  rw [hlf, List.nil_append] at hpm
  exact q pl hpm p4 H6 nH4 s6 e46
theorem matG_len (n : Nat) (G : Int → Int → Rat) : (matG n G).length = n := by unfold matG; rw [List.length_map, List.length_range]
theorem matG_row {n : Nat} {G : Int → Int → Rat} {i : Nat} (h : i < n) : (matG n G)[i]? = some ((List.range n).map fun j : Nat => qt (G i j)) := by
  unfold matG
  rw [List.getElem?_map, List.getElem?_range h]
  rfl
theorem matG_rl {n : Nat} {G : Int → Int → Rat} : ∀ r ∈ matG n G, r.length = n := fun r hr => by
  unfold matG at hr
  obtain ⟨i, _, rfl⟩ := List.mem_map.mp hr
  rw [List.length_map, List.length_range]
/-- one of the matrix -/
theorem rn_at {K : PySem.W.Frag} {H0 H : Hp} {D : Addr} {os : List Addr} {n : Nat} {G : Int → Int → Rat} (h : RowsN K H0 H D os (matG n G)) {i : Nat} (hi : i < n) : ∃ o xs, os[i]? = some o ∧ H o = some (.lst xs) ∧ xs.length = n ∧ ∀ j : Nat, j < n → ∃ t, xs[j]? = some (.ref t) ∧ QtA K H t (G i j) := by
  obtain ⟨o, ho, xs, e, hp⟩ := paired_of h.at_ (matG_row (G := G) hi)
  have hl : xs.length = n := by rw [Paired.length hp, List.length_map, List.length_range]
  refine ⟨o, xs, ho, e, hl, fun j hj => ?_⟩
  obtain ⟨v, hv, t, rfl, ht⟩ := paired_of hp (i := j) (y := qt (G i j)) (by rw [List.getElem?_map, List.getElem?_range hj]; rfl)
  exact ⟨t, hv, ht⟩
theorem low_int {t L : Int} (hL : 0 < L) : (low t L).1 / (low t L).2 = t / L ∧ ((low t L).1 + (low t L).2 - 1) / (low t L).2 = (t + L - 1) / L := by
  have g := gc_pos (a := t) hL
  have e1 : (low t L).1 * gc t L = t := Int.ediv_mul_cancel gc_dl
  have e2 : (low t L).2 * gc t L = L := Int.ediv_mul_cancel gc_dr
  have p := low_pos (t := t) hL
  generalize (low t L).1 = x at *
  generalize (low t L).2 = y at *
  generalize gc t L = c at *
  subst e1
  constructor
  · rw [← e2, Int.mul_ediv_mul_of_pos_left _ _ g]
  · have e3 : x * c + L - 1 = (x + y - 1) * c + (c - 1) := by
      rw [← e2, Int.sub_mul, Int.add_mul, Int.one_mul]
      omega
    have h := @Int.ediv_ediv ((x + y - 1) * c + (c - 1)) c y
    rw [if_neg (fun z => by have := z.1; omega), Int.sub_zero] at h
    rw [e3, ← e2, Int.mul_comm y c, ← h, Int.mul_comm (x + y - 1) c, fl_of (by omega) (by omega)]
theorem low_list {L : Int} {S : List Int} : (List.range S.length).map (fun j : Nat => low (S.getD j 0) L) = S.map fun s => low s L := by
  refine List.ext_getElem (by simp) fun i h1 h2 => ?_
  rw [List.getElem_map, List.getElem_map, List.getElem_range, List.getD_eq_getElem?_getD, List.getElem?_eq_getElem (by simpa using h2)]
  rfl
theorem op_len {L : Int} {S ord : List Int} {us : List V} (hp : ord.Perm (upN S.length)) (hu : us.length = S.length) : ((List.range us.length).filterMap fun i => if isO L (S.getD i 0) = true then us[i]? else none).length = (comL L S ord).length := by
  have h1 := congrArg List.length (com_fst (L := L) (S := S) (ord := ord))
  rw [List.length_map] at h1
  rw [h1, (hp.filter _).length_eq]
  unfold upN
  rw [List.filter_map, List.length_map, hu]
  have key : ∀ l : List Nat, (∀ i ∈ l, i < us.length) → (l.filterMap fun i => if isO L (S.getD i 0) = true then us[i]? else none).length = (l.filter ((fun a : Int => isO L (S.getD a.toNat 0)) ∘ fun i : Nat => (i : Int))).length := fun l => by
    induction l with
    | nil => intro _; rfl
    | cons a l ih =>
      intro h
      have ih := ih fun i hi => h i (List.mem_cons_of_mem _ hi)
      have ha := h a List.mem_cons_self
      rw [List.filterMap_cons, List.filter_cons]
      have e : ((fun a : Int => isO L (S.getD a.toNat 0)) ∘ fun i : Nat => (i : Int)) a = isO L (S.getD a 0) := rfl
      rw [e]
      by_cases c : isO L (S.getD a 0) = true
      · rw [if_pos c, if_pos c, List.getElem?_eq_getElem ha]
        dsimp only
        rw [List.length_cons, List.length_cons, ih]
      · rw [if_neg c, if_neg c]
        dsimp only
        exact ih
  exact key _ fun i hi => by have := List.mem_range.mp hi; omega
def sp__law_good (K : PySem.W.Frag) (mg : Str → Option Value) : Sp := fun vs H Q _ => match vs with | [.ref sa, .ref oa] => ∃ (L : Int) (S ord : List Int) (us : List V), H sa = some (.lst us) ∧ DpAll K H us (S.map fun s => d2 (low s L)) ∧ ShOk L S ∧ 1 ≤ S.length ∧ S.length ≤ 6 ∧ H oa = some (.lst (ord.map V.int)) ∧ ord.Perm (upN S.length) ∧ Tabs (tabsL K mg) H ∧ ∀ H', Ev (tabsL K mg) H H' → Q (.bl true) H' | _ => False
theorem q__law_good {H : Hp} {Q : VK} {E : XK} {sa : Addr} {oa : Addr} (q : ∃ (L : Int) (S ord : List Int) (us : List V), H sa = some (.lst us) ∧ DpAll K H us (S.map fun s => d2 (low s L)) ∧ ShOk L S ∧ 1 ≤ S.length ∧ S.length ≤ 6 ∧ H oa = some (.lst (ord.map V.int)) ∧ ord.Perm (upN S.length) ∧ Tabs (tabsL K mg) H ∧ ∀ H', Ev (tabsL K mg) H H' → Q (.bl true) H') : sp__law_good K mg [.ref sa, .ref oa] H Q E := q
local macro_rules | `(tactic| walk_at "op") => `(tactic| with_reducible refine q__law_good ?_)
theorem c__law_good (T : Txt K mg base) : Cal P w K mg base 17 "_law_good" (sp__law_good K mg) := by
  refine T.d__law_good.cal (k := 16) sc__law_good (by intro vs H Q E h; unfold sp__law_good at h; split at h <;> first | rfl | exact h.elim) fun f cdv A outer s H vs Q E hr h => ?_
  refine ⟨_, (pss_cons (ps_set (i := 2) sc__law_good.nd rfl (.inl rfl) (pe_c (c_duels T) hr (by decide) (by rfl) (pa_cons (pe_callTy call_list1A (by rfl) T.n_list (by decide +kernel) (pa_cons (pv 0) pa_nil)) (pa_cons (pe_callTy call_list1A (by rfl) T.n_list (by decide +kernel) (pa_cons (pv 1) pa_nil)) pa_nil))))
    (pss_cons (ps_set (i := 3) sc__law_good.nd rfl (.inl rfl) (pe_c (c__law_ways T) hr (by decide) (by rfl) (pa_cons (pv 2) (pa_cons (pe_tup (pa_cons pe_int (pa_cons pe_int pa_nil))) pa_nil))))
    (pss_cons (ps_set (i := 4) sc__law_good.nd rfl (.inr rfl) (pe_c (c__law_together T) hr (by decide) (by rfl) (pa_cons (pv 3) (pa_cons (pe_listRg rfl (by rfl) T.n_list (prg_1 (by rfl) T.n_range (pe_callB call_lenA (by rfl) T.n_len (by decide +kernel) (pa_cons (pv 0) pa_nil)))) pa_nil))))
    (pss_cons (ps_if (pt_cmpR (op_neA hr) (pe_lc (own := [("_law_at", 10)]) (g := (gName 10)) (tt := tYes) (te := (tOp (rIx K) (tOp (rIx K) (tVar 4) (tVar 10)) (tVar 10))) rfl sc__law_good.nd (pi_range1 (by rfl) T.n_range (pa_cons (pe_callB call_lenA (by rfl) T.n_len (by decide +kernel) (pa_cons (pv 0) pa_nil)) pa_nil)) (blkOk_by (N := ["_law_shares_here", "_law_order_here", "_law_node", "_law_ways_here", "_law_due", "_law_total", "_law_one", "_law_sizes_kept", "_law_handed", "_law_found", "_law_at", "_law_kept", "_law_much"]) (sc := defScope s__law_good) (by decide +kernel)) (fun _ _ _ _ _ => by exact (pg_name (i := 10) sc__law_good.nd rfl (.inl rfl))) (fun _ _ _ _ _ => pts_nil) (fun _ _ _ _ _ => by exact (pe_ix ix_seq (pe_ix ix_seq (pv 4) (pv 10) (fun _ _ => rfl)) (pv 10) (fun _ _ => rfl)))) (pv 0) (nomark _))
    (pss_one (ps_ret pe_bl))
    pss_nil)
    (pss_cons (ps_set (i := 5) sc__law_good.nd rfl (.inl rfl) (pe_tup (pa_cons pe_int (pa_cons pe_int pa_nil))))
    (pss_cons (ps_for PassesOwn.never rfl (pi_list (pv 0)) (pg_name (i := 6) sc__law_good.nd rfl (.inl rfl))
    (pss_one (ps_set (i := 5) sc__law_good.nd rfl (.inl rfl) (pe_c (c__law_plus T) hr (by decide) (by rfl) (pa_cons (pv 5) (pa_cons (pv 6) pa_nil))))))
    (pss_cons (ps_setLc (i := 7) (own := [("_law_kept", 11), ("_law_much", 12)]) (g := (gTup K 2 (gCons (gName 11) (gCons (gName 12) gNil)))) (tt := tYes) (te := (tCB (aLen K) (tCons (tVar 11) tNil))) rfl sc__law_good.nd rfl rfl (sw_true rfl rfl rfl (by decide +kernel)) (pi_list (pv 3)) (blkOk_by (N := ["_law_shares_here", "_law_order_here", "_law_node", "_law_ways_here", "_law_due", "_law_total", "_law_one", "_law_sizes_kept", "_law_handed", "_law_found", "_law_at", "_law_kept", "_law_much"]) (sc := defScope s__law_good) (by decide +kernel)) (fun _ _ _ _ _ => by exact (pg_tup rfl (pgs_cons (pg_name (i := 11) sc__law_good.nd rfl (.inl rfl)) (pgs_cons (pg_name (i := 12) sc__law_good.nd rfl (.inl rfl)) pgs_nil)))) (fun _ _ _ _ _ => pts_nil) (fun _ _ _ _ _ => by exact (pe_callB call_lenA (by rfl) T.n_len (by decide +kernel) (pa_cons (pv 11) pa_nil))))
    (pss_cons (ps_if (PW.pt (pw_or (pt_cmpR (op_neA hr) (pe_callB (cr_min rfl) (by rfl) T.n_min (by decide +kernel) (pa_cons (pv 7) pa_nil)) (pe_op op_fdivW (pe_ix ix_seq (pv 5) pe_int (fun _ _ => rfl)) (pe_ix ix_seq (pv 5) pe_int (fun _ _ => rfl))) (nomark _)) (pw_or1 (pt_cmpR (op_neA hr) (pe_callB (cr_max rfl) (by rfl) T.n_max (by decide +kernel) (pa_cons (pv 7) pa_nil)) (pe_op op_fdivW (pe_op op_sub (pe_op op_addA (pe_ix ix_seq (pv 5) pe_int (fun _ _ => rfl)) (pe_ix ix_seq (pv 5) pe_int (fun _ _ => rfl))) pe_int) (pe_ix ix_seq (pv 5) pe_int (fun _ _ => rfl))) (nomark _)))))
    (pss_one (ps_ret pe_bl))
    pss_nil)
    (pss_cons (ps_if (pt_cmpR op_gt (pe_c (c__law_deep T) hr (by decide) (by rfl) (pa_cons (pv 2) pa_nil)) (pe_callB call_lenA (by rfl) T.n_len (by decide +kernel) (pa_cons (pe_lc (own := [("_law_one", 6)]) (g := (gName 6)) (tt := (tTest (tChain aLt aLt (tC (.int 0)) (tOp (rIx K) (tVar 6) (tC (.int 0))) (tOp (rIx K) (tVar 6) (tC (.int 1)))))) (te := (tVar 6)) rfl sc__law_good.nd (pi_list (pv 0)) (blkOk_by (N := ["_law_shares_here", "_law_order_here", "_law_node", "_law_ways_here", "_law_due", "_law_total", "_law_one", "_law_sizes_kept", "_law_handed", "_law_found", "_law_at", "_law_kept", "_law_much"]) (sc := defScope s__law_good) (by decide +kernel)) (fun _ _ _ _ _ => by exact (pg_name (i := 6) sc__law_good.nd rfl (.inl rfl))) (fun _ _ _ _ _ => by exact pts_one (pt_chain op_ltA op_ltA pe_int (pe_ix ix_seq (pv 6) pe_int (fun _ _ => rfl)) (pe_ix ix_seq (pv 6) pe_int (fun _ _ => rfl)))) (fun _ _ _ _ _ => by exact (pv 6))) pa_nil)) (nomark _))
    (pss_one (ps_ret pe_bl))
    pss_nil)
    (pss_cons (ps_set (i := 8) sc__law_good.nd rfl (.inl rfl) (pe_lst (pa_cons (pe_callTy call_list1A (by rfl) T.n_list (by decide +kernel) (pa_cons (pv 0) pa_nil)) (pa_cons (pe_callTy call_list1A (by rfl) T.n_list (by decide +kernel) (pa_cons (pv 1) pa_nil)) pa_nil))))
    (pss_cons (ps_set (i := 9) sc__law_good.nd rfl (.inl rfl) (pe_c (c_duel_matrix T) hr (by decide) (by rfl) (pa_cons (pe_ix ix_seq (pv 8) pe_int (fun _ _ => rfl)) (pa_cons (pe_ix ix_seq (pv 8) pe_int (fun _ _ => rfl)) pa_nil))))
    (pss_one (ps_ret (pe_and (pe_cmpR (op_eqA hr) (pv 8) (pe_lst (pa_cons (pv 0) (pa_cons (pv 1) pa_nil))) (nomark _)) (pe_one (pe_c (c__law_matrix T) hr (by decide) (by rfl) (pa_cons (pv 9) (pa_cons (pv 4) pa_nil)))))))))))))))))), ?_⟩
  try simp only [cxOf_K, cxOf_K', cxOf_mg, cxOf_mg']
  unfold sp__law_good at h
  split at h
  case h_2 => exact h.elim
  rename_i sa oa
  rw [show L2.start ["_law_shares_here", "_law_order_here", "_law_node", "_law_ways_here", "_law_due", "_law_total", "_law_one", "_law_sizes_kept", "_law_handed", "_law_found", "_law_at", "_law_kept", "_law_much"] [V.ref sa, V.ref oa] = [some (V.ref sa), some (V.ref oa), none, none, none, none, none, none, none, none, none, none, none] from rfl]
  obtain ⟨L, S, ord, us, hs, hd, ok, n1, n6, ho, hp, hT, q⟩ := h
  have hL : 0 < L := by have := ok.l1; omega
  have h2 := ok.l2
  have hul : us.length = S.length := by rw [hd.len, List.length_map]
  have hol : ord.length = S.length := by rw [hp.length_eq]; unfold upN; rw [List.length_map, List.length_range]
  have hob : ∀ a ∈ ord, 0 ≤ a ∧ a < S.length := fun a ha => upN_mem.mp (hp.mem_iff.mp ha)
  have hon : ord.Nodup := hp.nodup_iff.mpr ((upN_lt S.length).imp fun h => Int.ne_of_lt h)
  obtain ⟨W, hWe, ⟨D, d0, d1, gw⟩, htog, hsz, hmn, hmx⟩ := duel_ways ok hp
  have cl : (comL L S ord).length ≤ 6 := by
    have := congrArg List.length (com_fst (L := L) (S := S) (ord := ord))
    rw [List.length_map] at this
    rw [this]
    have h3 := List.length_filter_le (fun a => isO L (S.getD a.toNat 0)) ord
    omega
  have wl2 : W.length ≤ 64 := by
    rw [hWe]
    refine Nat.le_trans (ways_len2 _ _ _) ?_
    exact Nat.pow_le_pow_right (by decide) cl
  walk_at "sts"
  refine L_list1 (.of hs) fun h1 hh1 => ?_
  have s1 := same_new (o := .lst us) hh1
  have e1 : upd H h1 (.lst us) h1 = some (.lst us) := upd_same
  generalize upd H h1 (.lst us) = H1 at s1 e1 ⊢
  walk_at "sts"
  refine L_list1 (.of (s1 _ _ ho)) fun h2' hh2 => ?_
  have s2 := same_new (o := .lst (ord.map V.int)) hh2
  have e2 : upd H1 h2' (.lst (ord.map V.int)) h2' = some (.lst (ord.map V.int)) := upd_same
  generalize upd H1 h2' (.lst (ord.map V.int)) = H2 at s2 e2 ⊢
  walk_at "sts"
  have s12 := s1.trans s2
  have ev2 : Ev (tabsL K mg) H H2 := .same s12
  refine ⟨fun _ => True, L, S, ord, us, .of (s2 _ _ e1), hd.same s12, ok, .of e2, by omega, hob, NL.all, ev2.tb hT, fun v H3 ev3 at3 => ?_⟩
  have ev03 := ev2.trans ev3
  walk_at "sts"
  walk_at "nw"
  rename_i p4 hp4 H4 s4 e4
  walk_at "sts"
  have ev04 := ev03.trans (Ev.same (T := tabsL K mg) s4)
  have b1 : BdQ 3 (1 : Rat) := ⟨by unfold Bd; decide +kernel, by unfold Bd; decide +kernel⟩
  have tok := duel_tree hL h2 (comL L S ord) none (kepL L S ord) up_none com_op
  have dp0 : dep none (comL L S ord) = (comL L S ord).length := by unfold dep; simp
  rw [dp0] at tok
  refine ⟨_, (comL L S ord).length, 3, 1, by show (comL L S ord).length ≤ (7 : Nat); omega, AtN.ev at3 (Ev.same (T := tabsL K mg) s4), tok, by rw [← hWe]; omega, .of e4, b1, by omega, ev04.tb hT, fun wa H5 ws hwa ev5 e5 hW5 => ?_⟩
  rw [← hWe] at hW5
  have ev05 := ev04.trans ev5
  have wsl : ws.length = W.length := Paired.length hW5
  walk_at "sts"
  refine L_lstRg (L_rg1 ?_)
  walk_at "sts"
  refine L_lenL (.of (ev05.lst hs)) ?_
  walk_at "sts"
  refine ⟨⟨by decide, by decide, by omega, by omega, by show ((us.length : Int) - 0).toNat ≤ 16777216; omega⟩, fun q1 hq1 => ?_⟩
  have s6 := same_new (o := .lst (rgV 0 (us.length : Int))) hq1
  have e6 : upd H5 q1 (.lst (rgV 0 (us.length : Int))) q1 = some (.lst ((upN S.length).map V.int)) := by rw [upd_same, hul, rgV_up]
  generalize upd H5 q1 (.lst (rgV 0 (us.length : Int))) = H6 at s6 e6 ⊢
  walk_at "sts"
  refine ⟨W, upN S.length, ws, D, .of (s6 _ _ e5), paired_imp2 (fun _ _ h => h.to s6) hW5, .of e6, d0, d1, gw, by omega, by unfold upN; rw [List.length_map, List.length_range]; omega, fun du H7 os hdu s7 e7 rn7 => ?_⟩
  rw [htog] at rn7
  have s57 := s6.trans s7
  have ev07 := ev05.trans (Ev.same (T := tabsL K mg) s57)
  have wa7 := s57 _ _ e5
  have hW7 := paired_imp2 (fun _ _ h => WayR.to h s57) hW5
  have hs7 := ev07.lst hs
  have hd7 := ev07.dpA hd
  have at7 := AtN.ev (AtN.ev at3 (Ev.same (T := tabsL K mg) s4)) (ev5.trans (Ev.same (T := tabsL K mg) s57))
  walk_at "sts"
  refine L_lenL (.of hs7) ?_
  walk_at "sts"
  refine L_r1 (by omega) (by omega) ?_
  have hMG : matD L S ord = matG S.length (stB (shR L S) ord ord.length).G := rfl
  refine lc_ob (Q2 K) (fun _ _ _ _ s h => Q2.same h s) (fun H D us us' v a e h => Q2.mu h e) walk_range (fun j => some (low (S.getD j 0) L)) (by omega) (fun _ _ => True.intro) ?_ ?_
  · rintro j x1 Hb Hb' R R' hj sb ⟨rfl, rfl⟩ q1 q2
    have hj' : j < S.length := by omega
    obtain ⟨o, xs, ho1, eo, xl, hx⟩ := rn_at (hMG ▸ rn7) hj'
    obtain ⟨t2, ht2, htq2⟩ := hx j hj'
    rw [stB_diag hon ord.length (Nat.le_refl _) (j : Int) (by rw [List.take_length]; exact hp.mem_iff.mpr (upN_mem.mpr ⟨by omega, by omega⟩))] at htq2
    have elq : qt (shR L S (j : Int)) = low (S.getD j 0) L := (low_qt hL rfl).symm
    unfold QtA at htq2
    rw [elq] at htq2
    walk_at "sts"
    refine ⟨rfl, ?_⟩
    walk_at "sts"
    refine L_ixL (.of (sb _ _ e7)) (atI_int (v := .ref o) (by omega) (by rw [Int.zero_add, Int.toNat_natCast, List.getElem?_map, ho1]; rfl)) ?_
    walk_at "sts"
    refine L_ixL (.of (sb _ _ eo)) (atI_int (by omega) (by rw [Int.zero_add, Int.toNat_natCast]; exact ht2)) ?_
    exact q1 _ _ _ rfl (Same.refl _) ⟨t2, rfl, sb.seqT htq2⟩
  intro c1 H8 vs1 hc1 s8 e8 hv8
  rw [show ((us.length : Int)).toNat = S.length by omega, fm_some, low_list] at hv8
  walk_at "sts"
  have hs8 := s8 _ _ hs7
  have hd8 := hd7.same s8
  refine L_neR (d := .list (S.map fun s => d2 (low s L))) (.lst (.of e8) (by have := Q2.dpA hv8; rw [List.map_map] at this; exact this)) (.lst (.of hs8) hd8) (shp_lst (n := 1) (shp_map fun r _ => shp_tup (n := 0) (shp_cons shp_int (shp_cons shp_int shp_nil)))).ok ?_
  walk_at "sts"
  walk_at "nw"
  rename_i t9 ht9 H9 s9 e9
  walk_at "sts"
  have s79 := s8.trans s9
  have hs9 := s9 _ _ hs8
  have hd9 := hd8.same s9
  have z0 : ((0 : Int) : Rat) / L = 0 := by rw [Rat.intCast_zero, Rat.div_def, Rat.zero_mul]
  refine L_rl (.of hs9) ?_
  have sumb : ∀ i, 0 ≤ (S.take i).sum ∧ (S.take i).sum ≤ 24000000000 := fun i => by
    have key : ∀ l : List Int, (∀ s ∈ l, 0 ≤ s ∧ s ≤ L) → 0 ≤ l.sum ∧ l.sum ≤ L * l.length := fun l => by
      induction l with
      | nil => intro _; simp
      | cons a l ih =>
        intro h
        have i1 := ih fun s hs => h s (List.mem_cons_of_mem _ hs)
        have i2 := h a List.mem_cons_self
        rw [List.sum_cons, List.length_cons, Int.natCast_add, Int.mul_add]
        simp
        omega
    have h3 := key (S.take i) fun s hs => ok.b s (List.mem_of_mem_take hs)
    have h4 : ((S.take i).length : Int) ≤ 24 := by rw [List.length_take]; omega
    have h5 : L * ((S.take i).length : Int) ≤ 1000000000 * 24 := Int.mul_le_mul h2 h4 (by omega) (by decide)
    omega
  have bsum : ∀ i, BdQ 64 (((S.take i).sum : Rat) / L) := fun i => bdq_of (by omega) rfl (bd_64 (by have := sumb i; omega)) (bd_64 (by omega))
  refine f_it walk_list (fun i σ' H' => ∃ (tp : Addr) (v6 : Option V), σ' = [some (.ref sa), some (.ref oa), some v, some (.ref wa), some (.ref du), some (.ref tp), v6, none, none, none, none, none, none] ∧ Same H9 H' ∧ QtA K H' tp (((S.take i).sum : Rat) / L)) ⟨t9, _, rfl, .refl _, by rw [List.take_zero]; show QtA K H9 t9 (((0 : Int) : Rat) / L); rw [z0]; exact .of e9⟩ (fun _ _ _ _ ⟨_, _, _, s, _⟩ => .of (s _ _ hs9)) ?_ ?_
  · rintro i x σ' Hy Ha hi ⟨tp, v6, rfl, sa', htp⟩ ⟨rfl, hx⟩
    have hi' : i < S.length := by omega
    obtain ⟨t, ht1, ht⟩ := shQ_at hL hd9 (a := (i : Int)) ⟨by omega, by omega⟩
    rw [Int.toNat_natCast, hx] at ht1
    cases ht1
    have esh : shR L S (i : Int) = ((S.getD i 0 : Int) : Rat) / L := rfl
    rw [esh] at ht
    have hsi := ok.b (S.getD i 0) (by rw [List.getD_eq_getElem?_getD, List.getElem?_eq_getElem hi']; exact List.getElem_mem _)
    walk_at "sts"
    refine ⟨_, _, htp, sa'.seqT ht, (bsum i).mono (by decide), (bdq_of (by omega) rfl (bd_64 (by omega)) (bd_64 (by omega)) : BdQ 64 _).mono (by decide), fun pn Hb hpn sb eb => ?_⟩
    walk_at "sts"
    refine ⟨pn, _, rfl, sa'.trans sb, ?_⟩
    have e : ((S.take (i + 1)).sum : Rat) / L = ((S.take i).sum : Rat) / L + ((S.getD i 0 : Int) : Rat) / L := by
      rw [show S.take (i + 1) = S.take i ++ [S.getD i 0] by rw [List.take_succ, List.getD_eq_getElem?_getD, List.getElem?_eq_getElem hi']; rfl, List.sum_append]
      simp only [List.sum_cons, List.sum_nil, Int.add_zero]
      rw [Rat.intCast_add]
      have := iq_pos hL
      grind
    rw [e]
    exact .of eb
  rintro σ' Ha ⟨tp, v6, rfl, sa', htp⟩
  rw [hul, List.take_length] at htp
  have htp' : SqT K Ha tp [.int (low S.sum L).1, .int (low S.sum L).2] := by
    have this := htp
    unfold QtA at this
    rw [show qt ((S.sum : Rat) / L) = low S.sum L from (low_qt hL rfl).symm] at this
    exact this
  clear htp
  have s7a := s79.trans sa'
  obtain ⟨li1, li2⟩ := low_int (t := S.sum) hL
  have lp := low_pos (t := S.sum) hL
  have sb0 := sumb S.length
  rw [List.take_length] at sb0
  have lbd := low_bL (a := S.sum) hL h2 ⟨by omega, by omega⟩
  walk_at "sts"
  refine L_rl (.of (s7a _ _ wa7)) ?_
  refine lc_fm walk_list (fun i => W[i]?.map fun w => V.int (w.1.length : Int)) (by omega) (fun H' e => .of (e _ _ (s7a _ _ wa7))) ?_ ?_
  · rintro j x1 Hb Hb' R R' hj sm ⟨rfl, hx1⟩ q1 q2
    obtain ⟨w, hw, q0, kp, m, rfl, g1, g2, g3⟩ := paired_nth hW7 hx1
    refine L_gTup (.of (sm _ _ (s7a _ _ g1))) rfl ?_
    walk_at "sts"
    refine ⟨rfl, ?_⟩
    walk_at "sts"
    refine L_lenT (.of (sm _ _ (s7a _ _ g2))) ?_
    rw [List.length_map]
    exact q1 _ _ (by rw [hw]; rfl) (.refl _)
  intro sz Hb hsz0 sb eb
  rw [wsl, fm_get (fun w : List Int × Rat => V.int (w.1.length : Int)) W] at eb
  have eb' : Hb sz = some (.lst ((W.map fun w => (w.1.length : Int)).map V.int)) := by rw [eb, List.map_map]; rfl
  have hwn : 0 < (W.map fun w => (w.1.length : Int)).length := by
    rw [List.length_map]
    obtain ⟨w, hw, _⟩ := hmn
    exact List.length_pos_of_mem hw
  have cmp : S.sum / L ≤ (S.sum + L - 1) / L := Int.ediv_le_ediv hL (by omega)
  walk_at "sts"
  refine ⟨sz, _, rfl, .of eb', hwn, fun m hm hmin => ?_⟩
  have hmE : m = S.sum / L := by
    obtain ⟨w, hw, ew⟩ := hmn
    have h3 := hmin _ (List.mem_map.mpr ⟨w, hw, rfl⟩)
    obtain ⟨w2, hw2, rfl⟩ := List.mem_map.mp hm
    have := hsz w2 hw2
    omega
  walk_at "sts"
  have tpb := sb.seqT htp'
  refine L_ixT tpb rfl ?_
  walk_at "sts"
  refine L_ixT tpb rfl ?_
  walk_at "sts"
  refine L_I (lbd.2.2.cdiv (show 0 < (low S.sum L).2 by omega)) ?_
  walk_at "sts"
  refine L_ndF (by rw [hmE, li1]) ?_
  walk_at "sts"
  refine ⟨sz, _, rfl, .of eb', hwn, fun m2 hm2 hmax => ?_⟩
  have hmE2 : m2 = (S.sum + L - 1) / L := by
    obtain ⟨w, hw, ew⟩ := hmx
    have h3 := hmax _ (List.mem_map.mpr ⟨w, hw, rfl⟩)
    obtain ⟨w2, hw2, rfl⟩ := List.mem_map.mp hm2
    have := hsz w2 hw2
    omega
  walk_at "sts"
  refine L_ixT tpb rfl ?_
  walk_at "sts"
  refine L_ixT tpb rfl ?_
  walk_at "sts"
  refine L_ixT tpb rfl ?_
  walk_at "sts"
  refine L_I (lbd.2.2.cdiv (show 0 < (low S.sum L).2 by omega)) ?_
  walk_at "sts"
  refine L_ndF (by rw [hmE2, li2]) ?_
  walk_at "sts"
  have ev7b : Ev (tabsL K mg) H7 Hb := .same (s7a.trans sb)
  have ev0b := ev07.trans ev7b
  have nonempty : ∀ n : Nd, told n = none → parts n ≠ [] := fun n => by
    cases n with
    | tol _ => intro z; cases z
    | lst _ _ _ => intro _ z; cases z
    | due _ _ _ _ _ => intro _ z; cases z
  refine ⟨_, (comL L S ord).length, by show (comL L S ord).length ≤ (7 : Nat); omega, AtN.ev at7 ev7b, tok, nonempty _, fun _ _ _ _ p _ => nonempty p.2, ev0b.tb hT, fun k Hc k0 k1 evc => ?_⟩
  have ev0c := ev0b.trans evc
  have hsc := ev0c.lst hs
  have hdc := ev0c.dpA hd
  walk_at "sts"
  refine L_rl (.of hsc) ?_
  refine lc_fm walk_list (fun i => if isO L (S.getD i 0) = true then us[i]? else none) (by omega) (fun H' e => .of (e _ _ hsc)) ?_ ?_
  · rintro j x1 Hd Hd' R R' hj sm ⟨rfl, hx1⟩ q1 q2
    obtain ⟨t, ht1, ht⟩ := shA_at hdc (i := j) (by omega)
    rw [hx1] at ht1
    cases ht1
    have htd := sm.seqT ht
    walk_at "sts"
    refine ⟨rfl, ?_⟩
    walk_at "sts"
    refine L_ixT htd rfl ?_
    walk_at "sts"
    have lo := low_opn (a := S.getD j 0) hL
    have isO_t : (0 < (low (S.getD j 0) L).1 ∧ (low (S.getD j 0) L).1 < (low (S.getD j 0) L).2) → isO L (S.getD j 0) = true := fun z => by
      unfold isO
      rw [decide_eq_true_iff]
      exact lo.mp z
    have isO_f : ¬ (0 < (low (S.getD j 0) L).1 ∧ (low (S.getD j 0) L).1 < (low (S.getD j 0) L).2) → ¬ isO L (S.getD j 0) = true := fun z h => by
      unfold isO at h
      rw [decide_eq_true_iff] at h
      exact z (lo.mpr h)
    refine L_d (fun ca => ?_) (fun ca => ?_)
    · walk_at "sts"
      refine L_ixT htd rfl ?_
      walk_at "sts"
      refine L_d (fun cb => ?_) (fun cb => ?_)
      · walk_at "sts"
        exact q1 _ _ (by rw [if_pos (isO_t ⟨ca, cb⟩)]; exact hx1) (.refl _)
      · exact q2 _ (if_neg (isO_f (fun z => cb z.2))) (.refl _)
    · walk_at "sts"
      exact q2 _ (if_neg (isO_f (fun z => ca z.1))) (.refl _)
  intro op He hop0 se ee
  have opl := op_len (L := L) hp hul
  walk_at "sts"
  refine L_lenL (.of ee) ?_
  walk_at "sts"
  rw [opl]
  refine L_dF (by omega) ?_
  walk_at "sts"
  have ev0e := ev0c.trans (Ev.same (T := tabsL K mg) se)
  have hse := ev0e.lst hs
  have hoe := ev0e.lst ho
  have hde := ev0e.dpA hd
  have ev7e := ev7b.trans (evc.trans (Ev.same (T := tabsL K mg) se))
  have du7 := ev7e.lst e7
  have rn7e := rn7.ev ev7e
  refine L_list1 (.of hse) fun g1 hg1 => ?_
  have r1 := same_new (o := .lst us) hg1
  have f1 : upd He g1 (.lst us) g1 = some (.lst us) := upd_same
  generalize upd He g1 (.lst us) = G1 at r1 f1 ⊢
  walk_at "sts"
  refine L_list1 (.of (r1 _ _ hoe)) fun g2 hg2 => ?_
  have r2 := same_new (o := .lst (ord.map V.int)) hg2
  have f2 : upd G1 g2 (.lst (ord.map V.int)) g2 = some (.lst (ord.map V.int)) := upd_same
  generalize upd G1 g2 (.lst (ord.map V.int)) = G2 at r2 f2 ⊢
  walk_at "sts"
  walk_at "nw"
  rename_i hd3 hhd3 G3 r3 f3
  walk_at "sts"
  refine L_ixL (.of f3) (atI_int (by decide) rfl) ?_
  walk_at "sts"
  refine L_ixL (.of f3) (atI_int (by decide) rfl) ?_
  walk_at "sts"
  have r13 := r1.trans (r2.trans r3)
  have g13 := r3 _ _ (r2 _ _ f1)
  have g23 := r3 _ _ f2
  refine ⟨L, S, ord, us, .of g13, hde.same r13, ok, .of g23, hp, fun F G4 os2 hF r4 f4 rn4 => ?_⟩
  walk_at "sts"
  walk_at "nw"
  rename_i p5 hp5 G5 r5 f5
  walk_at "sts"
  have r45 := r4.trans r5
  have r15 := r13.trans r45
  have hd5 := hde.same r15
  refine L_eqR (d := .list [.list (S.map fun s => d2 (low s L)), .list (ord.map .int)]) (.lst (.of (r45 _ _ f3)) (.cons (.lst (.of (r45 _ _ g13)) hd5) (.cons (.lst (.of (r45 _ _ g23)) (dp_ints _)) .nil))) (.lst (.of f5) (.cons (.lst (.of (r15 _ _ hse)) hd5) (.cons (.lst (.of (r15 _ _ hoe)) (dp_ints _)) .nil))) ?_ ?_
  · exact (shp_lst (n := 2) (shp_cons (shp_lst (n := 1) (shp_map fun r _ => shp_tup (n := 0) (shp_cons shp_int (shp_cons shp_int shp_nil)))) (shp_cons (shp_lst (n := 1) (shp_map fun _ _ => shp_int)) shp_nil))).ok
  walk_at "sts"
  have ml : (matD L S ord).length = S.length := by rw [hMG, matG_len]
  refine ⟨matD L S ord, _, _, .of (r5 _ _ f4), .of (r15 _ _ du7), (rn4.same r5).dp, (rn7e.same r15).dp, by omega, fun r hr => by rw [hMG] at hr; rw [matG_rl r hr]; omega, fun G6 r6 => ?_⟩
  exact q G6 (ev0e.trans (.same (r15.trans r6)))
def sp_law (K : PySem.W.Frag) (mg : Str → Option Value) : Sp := fun vs H Q _ => match vs with | [.ref a] => ∃ ns : List Int, SqL K H a (ns.map V.int) ∧ ns.length ≤ 63 ∧ (∀ z ∈ ns, Builtin.Int.intBits z ≤ 1048576) ∧ Tabs (tabsL K mg) H ∧ ∀ H', Q (.bl true) H' | _ => False
theorem q_law {H : Hp} {Q : VK} {E : XK} {a : Addr} (q : ∃ ns : List Int, SqL K H a (ns.map V.int) ∧ ns.length ≤ 63 ∧ (∀ z ∈ ns, Builtin.Int.intBits z ≤ 1048576) ∧ Tabs (tabsL K mg) H ∧ ∀ H', Q (.bl true) H') : sp_law K mg [.ref a] H Q E := q
local macro_rules | `(tactic| walk_at "op") => `(tactic| with_reducible refine q_law ?_)
theorem c_law (T : Txt K mg base) {f : Addr} {fd : FuncData} (F : Fun K "law" "law" s_law f fd) : FnOk P w K mg base CX0 18 f fd ["_law_script"] (sp_law K mg) := by
  refine F.ok (k := 17) sc_law (by intro vs H Q E h; unfold sp_law at h; split at h <;> first | rfl | exact h.elim) fun cdv A outer s H vs Q E hr h => ?_
  refine ⟨_, (pss_cons (ps_set (i := 1) sc_law.nd rfl (.inl rfl) (pe_c (c__law_shares T) hr (by decide) (by rfl) (pa_cons (pv 0) (pa_cons pe_int (pa_cons pe_int pa_nil)))))
    (pss_cons (ps_for PassesOwn.never rfl (pi_range3 (by rfl) T.n_range (pa_cons pe_int (pa_cons pe_int (pa_cons pe_int pa_nil)))) (pg_name (i := 2) sc_law.nd rfl (.inl rfl))
    (pss_cons (ps_set (i := 3) sc_law.nd rfl (.inl rfl) (pe_c (c__law_order T) hr (by decide) (by rfl) (pa_cons (pe_c (c__law_cell T) hr (by decide) (by rfl) (pa_cons (pv 0) (pa_cons (pv 2) pa_nil))) (pa_cons (pe_c (c__law_cell T) hr (by decide) (by rfl) (pa_cons (pv 0) (pa_cons (pe_op op_addA (pv 2) pe_int) pa_nil))) (pa_cons (pe_callB call_lenA (by rfl) T.n_len (by decide +kernel) (pa_cons (pv 1) pa_nil)) pa_nil)))))
    (pss_one (ps_if (pt_not (pt_val (pe_c (c__law_good T) hr (by decide) (by rfl) (pa_cons (pv 1) (pa_cons (pv 3) pa_nil)))))
    (pss_one (ps_ret pe_bl))
    pss_nil))))
    (pss_one (ps_ret pe_bl)))), ?_⟩
  try simp only [cxOf_K, cxOf_K', cxOf_mg, cxOf_mg']
  unfold sp_law at h
  split at h
  case h_2 => exact h.elim
  rename_i a
  rw [show L2.start ["_law_script", "_law_shares_here", "_law_k", "_law_order_here"] [V.ref a] = [some (V.ref a), none, none, none] from rfl]
  obtain ⟨ns, hS, hl, hbits, hT, q⟩ := h
  walk_at "sts"
  refine ⟨ns, hS, by decide, by decide, by decide, by decide, fun L S sp us H1 hsp s1 e1 d1 hok hpos hn6 => ?_⟩
  have D1 : DpAll K H1 us (S.map fun s => d2 (low s L)) := d1.same rs_sub
  have hul : us.length = S.length := by rw [D1.len, List.length_map]
  walk_at "sts"
  refine L_r3 (n := 2) ⟨by decide, by decide, by decide +kernel, by decide +kernel⟩ ?_
  refine f_rangeC (fun i σ' H' => ∃ v2 v3 : Option V, σ' = [some (.ref a), some (.ref sp), v2, v3] ∧ Ev (tabsL K mg) H1 H') ⟨_, _, rfl, .refl⟩ ?_ ?_
  · rintro i σ' H2 hi ⟨v2, v3, rfl, ev2⟩
    walk_at "sts"
    refine ⟨ns, ev2.seq (s1.seq hS), by omega, by omega, ?_⟩
    walk_at "sts"
    refine ⟨ns, ev2.seq (s1.seq hS), by omega, by omega, ?_⟩
    walk_at "sts"
    refine L_lenL (.of (ev2.lst e1)) ?_
    walk_at "sts"
    rw [hul]
    refine ⟨S.length, rfl, by omega, fun ord hord oa H3 hoa s3 e3 => ?_⟩
    have ev3 := ev2.trans (Ev.same (T := tabsL K mg) s3)
    walk_at "sts"
    refine ⟨L, S, ord, us, ev3.lst e1, ev3.dpA D1, hok, hpos, by omega, e3, hord, ev3.tb (hT.ext s1), fun H4 ev4 => ?_⟩
    walk_at "sts"
    exact ⟨_, _, rfl, ev3.trans ev4⟩
  · rintro σ' H2 ⟨v2, v3, rfl, ev2⟩
    walk_at "sts"
    exact q _
end
theorem txt_mk {K : PySem.W.Frag} {h : Heap} {mg : Str → Option Value} {ts : List Addr} (X : K.In h) (G : h.Ns mainGlobals mg) (Y : ∀ P ∈ ts, h.get? P = some (PySem.W.tabObj #[]))
    (z_n_abs : PySem.W.nsIn K mainGlobals "abs" = some none)
    (z_n_sorted : PySem.W.nsIn K mainGlobals "sorted" = some none)
    (z_n_tuple : PySem.W.nsIn K mainGlobals "tuple" = some none)
    {C_Told : Addr} (aC_Told : PySem.W.nsIn K mainGlobals "Told" = some (some (.ref C_Told)))
    (pg_Told : PySem.W.plainGet K C_Told Str.empty = true) (hd_Told : PySem.W.hasDictIn K C_Told = true) (po_Told : PySem.W.plainOver K C_Told = true) (sa_Told : PySem.W.findIn K (.ref C_Told) "__setattr__" = some (some (.builtin "object.__setattr__"))) (mk_Told : PySem.W.makesIn K C_Told = true) (kc_Told : PySem.W.keepIn K (.ref C_Told) = true)
    (na_Told_places : PySem.W.findIn K (.ref C_Told) "places" = some none)
    {C_Die : Addr} (aC_Die : PySem.W.nsIn K mainGlobals "Die" = some (some (.ref C_Die)))
    (pg_Die : PySem.W.plainGet K C_Die Str.empty = true) (hd_Die : PySem.W.hasDictIn K C_Die = true) (po_Die : PySem.W.plainOver K C_Die = true) (sa_Die : PySem.W.findIn K (.ref C_Die) "__setattr__" = some (some (.builtin "object.__setattr__"))) (mk_Die : PySem.W.makesIn K C_Die = true) (kc_Die : PySem.W.keepIn K (.ref C_Die) = true)
    (na_Die_ways : PySem.W.findIn K (.ref C_Die) "ways" = some none)
    {C_NOUGHT : Addr} (aC_NOUGHT : PySem.W.nsIn K mainGlobals "NOUGHT" = some (some (.ref C_NOUGHT)))
    (tp_NOUGHT : ∃ (o : Obj) (its : Array Value) (n : Nat), K.lookup C_NOUGHT = some o ∧ o.cls = .type "tuple" ∧ o.data = .seq its n ∧ its.size ≤ sizeLine ∧ Vals [.int 0, .int 1] its.toList)
    {C_SURE : Addr} (aC_SURE : PySem.W.nsIn K mainGlobals "SURE" = some (some (.ref C_SURE)))
    (tp_SURE : ∃ (o : Obj) (its : Array Value) (n : Nat), K.lookup C_SURE = some o ∧ o.cls = .type "tuple" ∧ o.data = .seq its n ∧ its.size ≤ sizeLine ∧ Vals [.int 1, .int 1] its.toList)
    (z_n_sum : PySem.W.nsIn K mainGlobals "sum" = some none)
    {C_Bout : Addr} (aC_Bout : PySem.W.nsIn K mainGlobals "Bout" = some (some (.ref C_Bout)))
    (pg_Bout : PySem.W.plainGet K C_Bout Str.empty = true) (hd_Bout : PySem.W.hasDictIn K C_Bout = true) (po_Bout : PySem.W.plainOver K C_Bout = true) (sa_Bout : PySem.W.findIn K (.ref C_Bout) "__setattr__" = some (some (.builtin "object.__setattr__"))) (mk_Bout : PySem.W.makesIn K C_Bout = true) (kc_Bout : PySem.W.keepIn K (.ref C_Bout) = true)
    (na_Bout_ins : PySem.W.findIn K (.ref C_Bout) "ins" = some none)
    (na_Bout_ups : PySem.W.findIn K (.ref C_Bout) "ups" = some none)
    (na_Bout_much : PySem.W.findIn K (.ref C_Bout) "much" = some none)
    (z_n_list : PySem.W.nsIn K mainGlobals "list" = some none)
    (z_n_max : PySem.W.nsIn K mainGlobals "max" = some none)
    (z_n_len : PySem.W.nsIn K mainGlobals "len" = some none)
    (z_n_range : PySem.W.nsIn K mainGlobals "range" = some none)
    (z_n_bool : PySem.W.nsIn K mainGlobals "bool" = some none)
    (z_n_int : PySem.W.nsIn K mainGlobals "int" = some none)
    (z_n_isinstance : PySem.W.nsIn K mainGlobals "isinstance" = some none)
    (z_n_zip : PySem.W.nsIn K mainGlobals "zip" = some none)
    (z_n_min : PySem.W.nsIn K mainGlobals "min" = some none)
    {f_divisor : Addr} {od_divisor an_divisor : Option Addr} {sl_divisor : Array (Option Value)} {oc_divisor kV_divisor dc_divisor pm_divisor cd_divisor ct_divisor : Value}
    (a_divisor : PySem.W.nsIn K mainGlobals "divisor" = some (some (.ref f_divisor))) (l_divisor : K.lookup f_divisor = some ⟨oc_divisor, od_divisor, .func (PySem.W.fnOf "divisor" "divisor" (defArgs s_divisor) (defBody s_divisor) (defScope s_divisor) .none kV_divisor dc_divisor pm_divisor an_divisor cd_divisor ct_divisor), sl_divisor⟩) (c_divisor : PySem.W.codeIn K cd_divisor "divisor" = true) (k_divisor : PySem.W.keepIn K (.ref f_divisor) = true)
    {f_share : Addr} {od_share an_share : Option Addr} {sl_share : Array (Option Value)} {oc_share kV_share dc_share pm_share cd_share ct_share : Value}
    (a_share : PySem.W.nsIn K mainGlobals "share" = some (some (.ref f_share))) (l_share : K.lookup f_share = some ⟨oc_share, od_share, .func (PySem.W.fnOf "share" "share" (defArgs s_share) (defBody s_share) (defScope s_share) .none kV_share dc_share pm_share an_share cd_share ct_share), sl_share⟩) (c_share : PySem.W.codeIn K cd_share "share" = true) (k_share : PySem.W.keepIn K (.ref f_share) = true)
    {f_Told___init__ : Addr} {od_Told___init__ an_Told___init__ : Option Addr} {sl_Told___init__ : Array (Option Value)} {oc_Told___init__ kV_Told___init__ dc_Told___init__ pm_Told___init__ cd_Told___init__ ct_Told___init__ : Value}
    (a_Told___init__ : PySem.W.findIn K (.ref C_Told) "__init__" = some (some (.ref f_Told___init__))) (i_Told___init__ : PySem.W.isFn K (.ref f_Told___init__) = true) (l_Told___init__ : K.lookup f_Told___init__ = some ⟨oc_Told___init__, od_Told___init__, .func (PySem.W.fnOf "__init__" "Told.__init__" (defArgs s_Told___init__) (defBody s_Told___init__) (defScope s_Told___init__) .none kV_Told___init__ dc_Told___init__ pm_Told___init__ an_Told___init__ cd_Told___init__ ct_Told___init__), sl_Told___init__⟩) (c_Told___init__ : PySem.W.codeIn K cd_Told___init__ "Told.__init__" = true) (k_Told___init__ : PySem.W.keepIn K (.ref f_Told___init__) = true)
    {f_Told_is_told : Addr} {od_Told_is_told an_Told_is_told : Option Addr} {sl_Told_is_told : Array (Option Value)} {oc_Told_is_told kV_Told_is_told dc_Told_is_told pm_Told_is_told cd_Told_is_told ct_Told_is_told : Value}
    (a_Told_is_told : PySem.W.findIn K (.ref C_Told) "is_told" = some (some (.ref f_Told_is_told))) (i_Told_is_told : PySem.W.isFn K (.ref f_Told_is_told) = true) (l_Told_is_told : K.lookup f_Told_is_told = some ⟨oc_Told_is_told, od_Told_is_told, .func (PySem.W.fnOf "is_told" "Told.is_told" (defArgs s_Told_is_told) (defBody s_Told_is_told) (defScope s_Told_is_told) .none kV_Told_is_told dc_Told_is_told pm_Told_is_told an_Told_is_told cd_Told_is_told ct_Told_is_told), sl_Told_is_told⟩) (c_Told_is_told : PySem.W.codeIn K cd_Told_is_told "Told.is_told" = true) (k_Told_is_told : PySem.W.keepIn K (.ref f_Told_is_told) = true)
    {f_Told_kept : Addr} {od_Told_kept an_Told_kept : Option Addr} {sl_Told_kept : Array (Option Value)} {oc_Told_kept kV_Told_kept dc_Told_kept pm_Told_kept cd_Told_kept ct_Told_kept : Value}
    (a_Told_kept : PySem.W.findIn K (.ref C_Told) "kept" = some (some (.ref f_Told_kept))) (i_Told_kept : PySem.W.isFn K (.ref f_Told_kept) = true) (l_Told_kept : K.lookup f_Told_kept = some ⟨oc_Told_kept, od_Told_kept, .func (PySem.W.fnOf "kept" "Told.kept" (defArgs s_Told_kept) (defBody s_Told_kept) (defScope s_Told_kept) .none kV_Told_kept dc_Told_kept pm_Told_kept an_Told_kept cd_Told_kept ct_Told_kept), sl_Told_kept⟩) (c_Told_kept : PySem.W.codeIn K cd_Told_kept "Told.kept" = true) (k_Told_kept : PySem.W.keepIn K (.ref f_Told_kept) = true)
    {f_Die___init__ : Addr} {od_Die___init__ an_Die___init__ : Option Addr} {sl_Die___init__ : Array (Option Value)} {oc_Die___init__ kV_Die___init__ dc_Die___init__ pm_Die___init__ cd_Die___init__ ct_Die___init__ : Value}
    (a_Die___init__ : PySem.W.findIn K (.ref C_Die) "__init__" = some (some (.ref f_Die___init__))) (i_Die___init__ : PySem.W.isFn K (.ref f_Die___init__) = true) (l_Die___init__ : K.lookup f_Die___init__ = some ⟨oc_Die___init__, od_Die___init__, .func (PySem.W.fnOf "__init__" "Die.__init__" (defArgs s_Die___init__) (defBody s_Die___init__) (defScope s_Die___init__) .none kV_Die___init__ dc_Die___init__ pm_Die___init__ an_Die___init__ cd_Die___init__ ct_Die___init__), sl_Die___init__⟩) (c_Die___init__ : PySem.W.codeIn K cd_Die___init__ "Die.__init__" = true) (k_Die___init__ : PySem.W.keepIn K (.ref f_Die___init__) = true)
    {f_Die_is_told : Addr} {od_Die_is_told an_Die_is_told : Option Addr} {sl_Die_is_told : Array (Option Value)} {oc_Die_is_told kV_Die_is_told dc_Die_is_told pm_Die_is_told cd_Die_is_told ct_Die_is_told : Value}
    (a_Die_is_told : PySem.W.findIn K (.ref C_Die) "is_told" = some (some (.ref f_Die_is_told))) (i_Die_is_told : PySem.W.isFn K (.ref f_Die_is_told) = true) (l_Die_is_told : K.lookup f_Die_is_told = some ⟨oc_Die_is_told, od_Die_is_told, .func (PySem.W.fnOf "is_told" "Node.is_told" (defArgs s_Die_is_told) (defBody s_Die_is_told) (defScope s_Die_is_told) .none kV_Die_is_told dc_Die_is_told pm_Die_is_told an_Die_is_told cd_Die_is_told ct_Die_is_told), sl_Die_is_told⟩) (c_Die_is_told : PySem.W.codeIn K cd_Die_is_told "Node.is_told" = true) (k_Die_is_told : PySem.W.keepIn K (.ref f_Die_is_told) = true)
    {f_plus : Addr} {od_plus an_plus : Option Addr} {sl_plus : Array (Option Value)} {oc_plus kV_plus dc_plus pm_plus cd_plus ct_plus : Value}
    (a_plus : PySem.W.nsIn K mainGlobals "plus" = some (some (.ref f_plus))) (l_plus : K.lookup f_plus = some ⟨oc_plus, od_plus, .func (PySem.W.fnOf "plus" "plus" (defArgs s_plus) (defBody s_plus) (defScope s_plus) .none kV_plus dc_plus pm_plus an_plus cd_plus ct_plus), sl_plus⟩) (c_plus : PySem.W.codeIn K cd_plus "plus" = true) (k_plus : PySem.W.keepIn K (.ref f_plus) = true)
    {f_minus : Addr} {od_minus an_minus : Option Addr} {sl_minus : Array (Option Value)} {oc_minus kV_minus dc_minus pm_minus cd_minus ct_minus : Value}
    (a_minus : PySem.W.nsIn K mainGlobals "minus" = some (some (.ref f_minus))) (l_minus : K.lookup f_minus = some ⟨oc_minus, od_minus, .func (PySem.W.fnOf "minus" "minus" (defArgs s_minus) (defBody s_minus) (defScope s_minus) .none kV_minus dc_minus pm_minus an_minus cd_minus ct_minus), sl_minus⟩) (c_minus : PySem.W.codeIn K cd_minus "minus" = true) (k_minus : PySem.W.keepIn K (.ref f_minus) = true)
    {f_times : Addr} {od_times an_times : Option Addr} {sl_times : Array (Option Value)} {oc_times kV_times dc_times pm_times cd_times ct_times : Value}
    (a_times : PySem.W.nsIn K mainGlobals "times" = some (some (.ref f_times))) (l_times : K.lookup f_times = some ⟨oc_times, od_times, .func (PySem.W.fnOf "times" "times" (defArgs s_times) (defBody s_times) (defScope s_times) .none kV_times dc_times pm_times an_times cd_times ct_times), sl_times⟩) (c_times : PySem.W.codeIn K cd_times "times" = true) (k_times : PySem.W.keepIn K (.ref f_times) = true)
    {f_over : Addr} {od_over an_over : Option Addr} {sl_over : Array (Option Value)} {oc_over kV_over dc_over pm_over cd_over ct_over : Value}
    (a_over : PySem.W.nsIn K mainGlobals "over" = some (some (.ref f_over))) (l_over : K.lookup f_over = some ⟨oc_over, od_over, .func (PySem.W.fnOf "over" "over" (defArgs s_over) (defBody s_over) (defScope s_over) .none kV_over dc_over pm_over an_over cd_over ct_over), sl_over⟩) (c_over : PySem.W.codeIn K cd_over "over" = true) (k_over : PySem.W.keepIn K (.ref f_over) = true)
    {f_below : Addr} {od_below an_below : Option Addr} {sl_below : Array (Option Value)} {oc_below kV_below dc_below pm_below cd_below ct_below : Value}
    (a_below : PySem.W.nsIn K mainGlobals "below" = some (some (.ref f_below))) (l_below : K.lookup f_below = some ⟨oc_below, od_below, .func (PySem.W.fnOf "below" "below" (defArgs s_below) (defBody s_below) (defScope s_below) .none kV_below dc_below pm_below an_below cd_below ct_below), sl_below⟩) (c_below : PySem.W.codeIn K cd_below "below" = true) (k_below : PySem.W.keepIn K (.ref f_below) = true)
    {f_duel_sides : Addr} {od_duel_sides an_duel_sides : Option Addr} {sl_duel_sides : Array (Option Value)} {oc_duel_sides kV_duel_sides dc_duel_sides pm_duel_sides cd_duel_sides ct_duel_sides : Value}
    (a_duel_sides : PySem.W.nsIn K mainGlobals "duel_sides" = some (some (.ref f_duel_sides))) (l_duel_sides : K.lookup f_duel_sides = some ⟨oc_duel_sides, od_duel_sides, .func (PySem.W.fnOf "duel_sides" "duel_sides" (defArgs s_duel_sides) (defBody s_duel_sides) (defScope s_duel_sides) .none kV_duel_sides dc_duel_sides pm_duel_sides an_duel_sides cd_duel_sides ct_duel_sides), sl_duel_sides⟩) (c_duel_sides : PySem.W.codeIn K cd_duel_sides "duel_sides" = true) (k_duel_sides : PySem.W.keepIn K (.ref f_duel_sides) = true)
    {f_is_open : Addr} {od_is_open an_is_open : Option Addr} {sl_is_open : Array (Option Value)} {oc_is_open kV_is_open dc_is_open pm_is_open cd_is_open ct_is_open : Value}
    (a_is_open : PySem.W.nsIn K mainGlobals "is_open" = some (some (.ref f_is_open))) (l_is_open : K.lookup f_is_open = some ⟨oc_is_open, od_is_open, .func (PySem.W.fnOf "is_open" "is_open" (defArgs s_is_open) (defBody s_is_open) (defScope s_is_open) .none kV_is_open dc_is_open pm_is_open an_is_open cd_is_open ct_is_open), sl_is_open⟩) (c_is_open : PySem.W.codeIn K cd_is_open "is_open" = true) (k_is_open : PySem.W.keepIn K (.ref f_is_open) = true)
    {f_last_node cc_last_node : Addr} {od_last_node an_last_node : Option Addr} {sl_last_node : Array (Option Value)} {oc_last_node kV_last_node dc_last_node pm_last_node ct_last_node : Value}
    (a_last_node : PySem.W.nsIn K mainGlobals "last_node" = some (some (.ref f_last_node)))
    (l_last_node : K.lookup f_last_node = some ⟨oc_last_node, od_last_node, .func (PySem.W.fnOf "last_node" "last_node" (defArgs s_last_node) (defBody s_last_node) (defScope s_last_node) .none kV_last_node dc_last_node pm_last_node an_last_node (.ref cc_last_node) ct_last_node), sl_last_node⟩) (c_last_node : PySem.W.codeIn K (.ref cc_last_node) "last_node" = true) (k_last_node : PySem.W.keepIn K (.ref f_last_node) = true)
    (ch_last_node : PySem.W.codeHdIn K cc_last_node (pK K cc_last_node) = true) (nk_last_node : K.lookup (pK K cc_last_node) = none) (mt_last_node : ts.contains (pK K cc_last_node) = true)
    {f_duel_node cc_duel_node : Addr} {od_duel_node an_duel_node : Option Addr} {sl_duel_node : Array (Option Value)} {oc_duel_node kV_duel_node dc_duel_node pm_duel_node ct_duel_node : Value}
    (a_duel_node : PySem.W.nsIn K mainGlobals "duel_node" = some (some (.ref f_duel_node)))
    (l_duel_node : K.lookup f_duel_node = some ⟨oc_duel_node, od_duel_node, .func (PySem.W.fnOf "duel_node" "duel_node" (defArgs s_duel_node) (defBody s_duel_node) (defScope s_duel_node) .none kV_duel_node dc_duel_node pm_duel_node an_duel_node (.ref cc_duel_node) ct_duel_node), sl_duel_node⟩) (c_duel_node : PySem.W.codeIn K (.ref cc_duel_node) "duel_node" = true) (k_duel_node : PySem.W.keepIn K (.ref f_duel_node) = true)
    (ch_duel_node : PySem.W.codeHdIn K cc_duel_node (pK K cc_duel_node) = true) (nk_duel_node : K.lookup (pK K cc_duel_node) = none) (mt_duel_node : ts.contains (pK K cc_duel_node) = true)
    (nn_last_node_duel_node : (pK K cc_last_node == pK K cc_duel_node) = false) (nm_duel_node_last_node : (pK K cc_duel_node == pK K cc_last_node) = false)
    {f_played : Addr} {od_played an_played : Option Addr} {sl_played : Array (Option Value)} {oc_played kV_played dc_played pm_played cd_played ct_played : Value}
    (a_played : PySem.W.nsIn K mainGlobals "played" = some (some (.ref f_played))) (l_played : K.lookup f_played = some ⟨oc_played, od_played, .func (PySem.W.fnOf "played" "played" (defArgs s_played) (defBody s_played) (defScope s_played) .none kV_played dc_played pm_played an_played cd_played ct_played), sl_played⟩) (c_played : PySem.W.codeIn K cd_played "played" = true) (k_played : PySem.W.keepIn K (.ref f_played) = true)
    {f_Told_sides : Addr} {od_Told_sides an_Told_sides : Option Addr} {sl_Told_sides : Array (Option Value)} {oc_Told_sides kV_Told_sides dc_Told_sides pm_Told_sides cd_Told_sides ct_Told_sides : Value}
    (a_Told_sides : PySem.W.findIn K (.ref C_Told) "sides" = some (some (.ref f_Told_sides))) (i_Told_sides : PySem.W.isFn K (.ref f_Told_sides) = true) (l_Told_sides : K.lookup f_Told_sides = some ⟨oc_Told_sides, od_Told_sides, .func (PySem.W.fnOf "sides" "Node.sides" (defArgs s_Told_sides) (defBody s_Told_sides) (defScope s_Told_sides) .none kV_Told_sides dc_Told_sides pm_Told_sides an_Told_sides cd_Told_sides ct_Told_sides), sl_Told_sides⟩) (c_Told_sides : PySem.W.codeIn K cd_Told_sides "Node.sides" = true) (k_Told_sides : PySem.W.keepIn K (.ref f_Told_sides) = true)
    {f_Told_parts : Addr} {od_Told_parts an_Told_parts : Option Addr} {sl_Told_parts : Array (Option Value)} {oc_Told_parts kV_Told_parts dc_Told_parts pm_Told_parts cd_Told_parts ct_Told_parts : Value}
    (a_Told_parts : PySem.W.findIn K (.ref C_Told) "parts" = some (some (.ref f_Told_parts))) (i_Told_parts : PySem.W.isFn K (.ref f_Told_parts) = true) (l_Told_parts : K.lookup f_Told_parts = some ⟨oc_Told_parts, od_Told_parts, .func (PySem.W.fnOf "parts" "Node.parts" (defArgs s_Told_parts) (defBody s_Told_parts) (defScope s_Told_parts) .none kV_Told_parts dc_Told_parts pm_Told_parts an_Told_parts cd_Told_parts ct_Told_parts), sl_Told_parts⟩) (c_Told_parts : PySem.W.codeIn K cd_Told_parts "Node.parts" = true) (k_Told_parts : PySem.W.keepIn K (.ref f_Told_parts) = true)
    {f_Die_kept : Addr} {od_Die_kept an_Die_kept : Option Addr} {sl_Die_kept : Array (Option Value)} {oc_Die_kept kV_Die_kept dc_Die_kept pm_Die_kept cd_Die_kept ct_Die_kept : Value}
    (a_Die_kept : PySem.W.findIn K (.ref C_Die) "kept" = some (some (.ref f_Die_kept))) (i_Die_kept : PySem.W.isFn K (.ref f_Die_kept) = true) (l_Die_kept : K.lookup f_Die_kept = some ⟨oc_Die_kept, od_Die_kept, .func (PySem.W.fnOf "kept" "Node.kept" (defArgs s_Die_kept) (defBody s_Die_kept) (defScope s_Die_kept) .none kV_Die_kept dc_Die_kept pm_Die_kept an_Die_kept cd_Die_kept ct_Die_kept), sl_Die_kept⟩) (c_Die_kept : PySem.W.codeIn K cd_Die_kept "Node.kept" = true) (k_Die_kept : PySem.W.keepIn K (.ref f_Die_kept) = true)
    {f_Die_sides : Addr} {od_Die_sides an_Die_sides : Option Addr} {sl_Die_sides : Array (Option Value)} {oc_Die_sides kV_Die_sides dc_Die_sides pm_Die_sides cd_Die_sides ct_Die_sides : Value}
    (a_Die_sides : PySem.W.findIn K (.ref C_Die) "sides" = some (some (.ref f_Die_sides))) (i_Die_sides : PySem.W.isFn K (.ref f_Die_sides) = true) (l_Die_sides : K.lookup f_Die_sides = some ⟨oc_Die_sides, od_Die_sides, .func (PySem.W.fnOf "sides" "Die.sides" (defArgs s_Die_sides) (defBody s_Die_sides) (defScope s_Die_sides) .none kV_Die_sides dc_Die_sides pm_Die_sides an_Die_sides cd_Die_sides ct_Die_sides), sl_Die_sides⟩) (c_Die_sides : PySem.W.codeIn K cd_Die_sides "Die.sides" = true) (k_Die_sides : PySem.W.keepIn K (.ref f_Die_sides) = true)
    {f_Bout___init__ : Addr} {od_Bout___init__ an_Bout___init__ : Option Addr} {sl_Bout___init__ : Array (Option Value)} {oc_Bout___init__ kV_Bout___init__ dc_Bout___init__ pm_Bout___init__ cd_Bout___init__ ct_Bout___init__ : Value}
    (a_Bout___init__ : PySem.W.findIn K (.ref C_Bout) "__init__" = some (some (.ref f_Bout___init__))) (i_Bout___init__ : PySem.W.isFn K (.ref f_Bout___init__) = true) (l_Bout___init__ : K.lookup f_Bout___init__ = some ⟨oc_Bout___init__, od_Bout___init__, .func (PySem.W.fnOf "__init__" "Bout.__init__" (defArgs s_Bout___init__) (defBody s_Bout___init__) (defScope s_Bout___init__) .none kV_Bout___init__ dc_Bout___init__ pm_Bout___init__ an_Bout___init__ cd_Bout___init__ ct_Bout___init__), sl_Bout___init__⟩) (c_Bout___init__ : PySem.W.codeIn K cd_Bout___init__ "Bout.__init__" = true) (k_Bout___init__ : PySem.W.keepIn K (.ref f_Bout___init__) = true)
    {f_Bout_together : Addr} {od_Bout_together an_Bout_together : Option Addr} {sl_Bout_together : Array (Option Value)} {oc_Bout_together kV_Bout_together dc_Bout_together pm_Bout_together cd_Bout_together ct_Bout_together : Value}
    (a_Bout_together : PySem.W.findIn K (.ref C_Bout) "together" = some (some (.ref f_Bout_together))) (i_Bout_together : PySem.W.isFn K (.ref f_Bout_together) = true) (l_Bout_together : K.lookup f_Bout_together = some ⟨oc_Bout_together, od_Bout_together, .func (PySem.W.fnOf "together" "Bout.together" (defArgs s_Bout_together) (defBody s_Bout_together) (defScope s_Bout_together) .none kV_Bout_together dc_Bout_together pm_Bout_together an_Bout_together cd_Bout_together ct_Bout_together), sl_Bout_together⟩) (c_Bout_together : PySem.W.codeIn K cd_Bout_together "Bout.together" = true) (k_Bout_together : PySem.W.keepIn K (.ref f_Bout_together) = true)
    {f_Bout_all_ups : Addr} {od_Bout_all_ups an_Bout_all_ups : Option Addr} {sl_Bout_all_ups : Array (Option Value)} {oc_Bout_all_ups kV_Bout_all_ups dc_Bout_all_ups pm_Bout_all_ups cd_Bout_all_ups ct_Bout_all_ups : Value}
    (a_Bout_all_ups : PySem.W.findIn K (.ref C_Bout) "all_ups" = some (some (.ref f_Bout_all_ups))) (i_Bout_all_ups : PySem.W.isFn K (.ref f_Bout_all_ups) = true) (l_Bout_all_ups : K.lookup f_Bout_all_ups = some ⟨oc_Bout_all_ups, od_Bout_all_ups, .func (PySem.W.fnOf "all_ups" "Bout.all_ups" (defArgs s_Bout_all_ups) (defBody s_Bout_all_ups) (defScope s_Bout_all_ups) .none kV_Bout_all_ups dc_Bout_all_ups pm_Bout_all_ups an_Bout_all_ups cd_Bout_all_ups ct_Bout_all_ups), sl_Bout_all_ups⟩) (c_Bout_all_ups : PySem.W.codeIn K cd_Bout_all_ups "Bout.all_ups" = true) (k_Bout_all_ups : PySem.W.keepIn K (.ref f_Bout_all_ups) = true)
    {f_Bout_come : Addr} {od_Bout_come an_Bout_come : Option Addr} {sl_Bout_come : Array (Option Value)} {oc_Bout_come kV_Bout_come dc_Bout_come pm_Bout_come cd_Bout_come ct_Bout_come : Value}
    (a_Bout_come : PySem.W.findIn K (.ref C_Bout) "come" = some (some (.ref f_Bout_come))) (i_Bout_come : PySem.W.isFn K (.ref f_Bout_come) = true) (l_Bout_come : K.lookup f_Bout_come = some ⟨oc_Bout_come, od_Bout_come, .func (PySem.W.fnOf "come" "Bout.come" (defArgs s_Bout_come) (defBody s_Bout_come) (defScope s_Bout_come) .none kV_Bout_come dc_Bout_come pm_Bout_come an_Bout_come cd_Bout_come ct_Bout_come), sl_Bout_come⟩) (c_Bout_come : PySem.W.codeIn K cd_Bout_come "Bout.come" = true) (k_Bout_come : PySem.W.keepIn K (.ref f_Bout_come) = true)
    {f__law_low : Addr} {od__law_low an__law_low : Option Addr} {sl__law_low : Array (Option Value)} {oc__law_low kV__law_low dc__law_low pm__law_low cd__law_low ct__law_low : Value}
    (a__law_low : PySem.W.nsIn K mainGlobals "_law_low" = some (some (.ref f__law_low))) (l__law_low : K.lookup f__law_low = some ⟨oc__law_low, od__law_low, .func (PySem.W.fnOf "_law_low" "_law_low" (defArgs s__law_low) (defBody s__law_low) (defScope s__law_low) .none kV__law_low dc__law_low pm__law_low an__law_low cd__law_low ct__law_low), sl__law_low⟩) (c__law_low : PySem.W.codeIn K cd__law_low "_law_low" = true) (k__law_low : PySem.W.keepIn K (.ref f__law_low) = true)
    {f__law_plus : Addr} {od__law_plus an__law_plus : Option Addr} {sl__law_plus : Array (Option Value)} {oc__law_plus kV__law_plus dc__law_plus pm__law_plus cd__law_plus ct__law_plus : Value}
    (a__law_plus : PySem.W.nsIn K mainGlobals "_law_plus" = some (some (.ref f__law_plus))) (l__law_plus : K.lookup f__law_plus = some ⟨oc__law_plus, od__law_plus, .func (PySem.W.fnOf "_law_plus" "_law_plus" (defArgs s__law_plus) (defBody s__law_plus) (defScope s__law_plus) .none kV__law_plus dc__law_plus pm__law_plus an__law_plus cd__law_plus ct__law_plus), sl__law_plus⟩) (c__law_plus : PySem.W.codeIn K cd__law_plus "_law_plus" = true) (k__law_plus : PySem.W.keepIn K (.ref f__law_plus) = true)
    {f__law_times : Addr} {od__law_times an__law_times : Option Addr} {sl__law_times : Array (Option Value)} {oc__law_times kV__law_times dc__law_times pm__law_times cd__law_times ct__law_times : Value}
    (a__law_times : PySem.W.nsIn K mainGlobals "_law_times" = some (some (.ref f__law_times))) (l__law_times : K.lookup f__law_times = some ⟨oc__law_times, od__law_times, .func (PySem.W.fnOf "_law_times" "_law_times" (defArgs s__law_times) (defBody s__law_times) (defScope s__law_times) .none kV__law_times dc__law_times pm__law_times an__law_times cd__law_times ct__law_times), sl__law_times⟩) (c__law_times : PySem.W.codeIn K cd__law_times "_law_times" = true) (k__law_times : PySem.W.keepIn K (.ref f__law_times) = true)
    {f_Die_parts : Addr} {od_Die_parts an_Die_parts : Option Addr} {sl_Die_parts : Array (Option Value)} {oc_Die_parts kV_Die_parts dc_Die_parts pm_Die_parts cd_Die_parts ct_Die_parts : Value}
    (a_Die_parts : PySem.W.findIn K (.ref C_Die) "parts" = some (some (.ref f_Die_parts))) (i_Die_parts : PySem.W.isFn K (.ref f_Die_parts) = true) (l_Die_parts : K.lookup f_Die_parts = some ⟨oc_Die_parts, od_Die_parts, .func (PySem.W.fnOf "parts" "Die.parts" (defArgs s_Die_parts) (defBody s_Die_parts) (defScope s_Die_parts) .none kV_Die_parts dc_Die_parts pm_Die_parts an_Die_parts cd_Die_parts ct_Die_parts), sl_Die_parts⟩) (c_Die_parts : PySem.W.codeIn K cd_Die_parts "Die.parts" = true) (k_Die_parts : PySem.W.keepIn K (.ref f_Die_parts) = true)
    {f__law_ways : Addr} {od__law_ways an__law_ways : Option Addr} {sl__law_ways : Array (Option Value)} {oc__law_ways kV__law_ways dc__law_ways pm__law_ways cd__law_ways ct__law_ways : Value}
    (a__law_ways : PySem.W.nsIn K mainGlobals "_law_ways" = some (some (.ref f__law_ways))) (l__law_ways : K.lookup f__law_ways = some ⟨oc__law_ways, od__law_ways, .func (PySem.W.fnOf "_law_ways" "_law_ways" (defArgs s__law_ways) (defBody s__law_ways) (defScope s__law_ways) .none kV__law_ways dc__law_ways pm__law_ways an__law_ways cd__law_ways ct__law_ways), sl__law_ways⟩) (c__law_ways : PySem.W.codeIn K cd__law_ways "_law_ways" = true) (k__law_ways : PySem.W.keepIn K (.ref f__law_ways) = true)
    {f__law_together : Addr} {od__law_together an__law_together : Option Addr} {sl__law_together : Array (Option Value)} {oc__law_together kV__law_together dc__law_together pm__law_together cd__law_together ct__law_together : Value}
    (a__law_together : PySem.W.nsIn K mainGlobals "_law_together" = some (some (.ref f__law_together))) (l__law_together : K.lookup f__law_together = some ⟨oc__law_together, od__law_together, .func (PySem.W.fnOf "_law_together" "_law_together" (defArgs s__law_together) (defBody s__law_together) (defScope s__law_together) .none kV__law_together dc__law_together pm__law_together an__law_together cd__law_together ct__law_together), sl__law_together⟩) (c__law_together : PySem.W.codeIn K cd__law_together "_law_together" = true) (k__law_together : PySem.W.keepIn K (.ref f__law_together) = true)
    {f__law_deep : Addr} {od__law_deep an__law_deep : Option Addr} {sl__law_deep : Array (Option Value)} {oc__law_deep kV__law_deep dc__law_deep pm__law_deep cd__law_deep ct__law_deep : Value}
    (a__law_deep : PySem.W.nsIn K mainGlobals "_law_deep" = some (some (.ref f__law_deep))) (l__law_deep : K.lookup f__law_deep = some ⟨oc__law_deep, od__law_deep, .func (PySem.W.fnOf "_law_deep" "_law_deep" (defArgs s__law_deep) (defBody s__law_deep) (defScope s__law_deep) .none kV__law_deep dc__law_deep pm__law_deep an__law_deep cd__law_deep ct__law_deep), sl__law_deep⟩) (c__law_deep : PySem.W.codeIn K cd__law_deep "_law_deep" = true) (k__law_deep : PySem.W.keepIn K (.ref f__law_deep) = true)
    {f_duels : Addr} {od_duels an_duels : Option Addr} {sl_duels : Array (Option Value)} {oc_duels kV_duels dc_duels pm_duels cd_duels ct_duels : Value}
    (a_duels : PySem.W.nsIn K mainGlobals "duels" = some (some (.ref f_duels))) (l_duels : K.lookup f_duels = some ⟨oc_duels, od_duels, .func (PySem.W.fnOf "duels" "duels" (defArgs s_duels) (defBody s_duels) (defScope s_duels) .none kV_duels dc_duels pm_duels an_duels cd_duels ct_duels), sl_duels⟩) (c_duels : PySem.W.codeIn K cd_duels "duels" = true) (k_duels : PySem.W.keepIn K (.ref f_duels) = true)
    {f_duel_matrix : Addr} {od_duel_matrix an_duel_matrix : Option Addr} {sl_duel_matrix : Array (Option Value)} {oc_duel_matrix kV_duel_matrix dc_duel_matrix pm_duel_matrix cd_duel_matrix ct_duel_matrix : Value}
    (a_duel_matrix : PySem.W.nsIn K mainGlobals "duel_matrix" = some (some (.ref f_duel_matrix))) (l_duel_matrix : K.lookup f_duel_matrix = some ⟨oc_duel_matrix, od_duel_matrix, .func (PySem.W.fnOf "duel_matrix" "duel_matrix" (defArgs s_duel_matrix) (defBody s_duel_matrix) (defScope s_duel_matrix) .none kV_duel_matrix dc_duel_matrix pm_duel_matrix an_duel_matrix cd_duel_matrix ct_duel_matrix), sl_duel_matrix⟩) (c_duel_matrix : PySem.W.codeIn K cd_duel_matrix "duel_matrix" = true) (k_duel_matrix : PySem.W.keepIn K (.ref f_duel_matrix) = true)
    {f__law_cell : Addr} {od__law_cell an__law_cell : Option Addr} {sl__law_cell : Array (Option Value)} {oc__law_cell kV__law_cell dc__law_cell pm__law_cell cd__law_cell ct__law_cell : Value}
    (a__law_cell : PySem.W.nsIn K mainGlobals "_law_cell" = some (some (.ref f__law_cell))) (l__law_cell : K.lookup f__law_cell = some ⟨oc__law_cell, od__law_cell, .func (PySem.W.fnOf "_law_cell" "_law_cell" (defArgs s__law_cell) (defBody s__law_cell) (defScope s__law_cell) .none kV__law_cell dc__law_cell pm__law_cell an__law_cell cd__law_cell ct__law_cell), sl__law_cell⟩) (c__law_cell : PySem.W.codeIn K cd__law_cell "_law_cell" = true) (k__law_cell : PySem.W.keepIn K (.ref f__law_cell) = true)
    {f__law_mix : Addr} {od__law_mix an__law_mix : Option Addr} {sl__law_mix : Array (Option Value)} {oc__law_mix kV__law_mix dc__law_mix pm__law_mix cd__law_mix ct__law_mix : Value}
    (a__law_mix : PySem.W.nsIn K mainGlobals "_law_mix" = some (some (.ref f__law_mix))) (l__law_mix : K.lookup f__law_mix = some ⟨oc__law_mix, od__law_mix, .func (PySem.W.fnOf "_law_mix" "_law_mix" (defArgs s__law_mix) (defBody s__law_mix) (defScope s__law_mix) .none kV__law_mix dc__law_mix pm__law_mix an__law_mix cd__law_mix ct__law_mix), sl__law_mix⟩) (c__law_mix : PySem.W.codeIn K cd__law_mix "_law_mix" = true) (k__law_mix : PySem.W.keepIn K (.ref f__law_mix) = true)
    {f__law_row : Addr} {od__law_row an__law_row : Option Addr} {sl__law_row : Array (Option Value)} {oc__law_row kV__law_row dc__law_row pm__law_row cd__law_row ct__law_row : Value}
    (a__law_row : PySem.W.nsIn K mainGlobals "_law_row" = some (some (.ref f__law_row))) (l__law_row : K.lookup f__law_row = some ⟨oc__law_row, od__law_row, .func (PySem.W.fnOf "_law_row" "_law_row" (defArgs s__law_row) (defBody s__law_row) (defScope s__law_row) .none kV__law_row dc__law_row pm__law_row an__law_row cd__law_row ct__law_row), sl__law_row⟩) (c__law_row : PySem.W.codeIn K cd__law_row "_law_row" = true) (k__law_row : PySem.W.keepIn K (.ref f__law_row) = true)
    {f__law_whole : Addr} {od__law_whole an__law_whole : Option Addr} {sl__law_whole : Array (Option Value)} {oc__law_whole kV__law_whole dc__law_whole pm__law_whole cd__law_whole ct__law_whole : Value}
    (a__law_whole : PySem.W.nsIn K mainGlobals "_law_whole" = some (some (.ref f__law_whole))) (l__law_whole : K.lookup f__law_whole = some ⟨oc__law_whole, od__law_whole, .func (PySem.W.fnOf "_law_whole" "_law_whole" (defArgs s__law_whole) (defBody s__law_whole) (defScope s__law_whole) .none kV__law_whole dc__law_whole pm__law_whole an__law_whole cd__law_whole ct__law_whole), sl__law_whole⟩) (c__law_whole : PySem.W.codeIn K cd__law_whole "_law_whole" = true) (k__law_whole : PySem.W.keepIn K (.ref f__law_whole) = true)
    {f__law_fraction : Addr} {od__law_fraction an__law_fraction : Option Addr} {sl__law_fraction : Array (Option Value)} {oc__law_fraction kV__law_fraction dc__law_fraction pm__law_fraction cd__law_fraction ct__law_fraction : Value}
    (a__law_fraction : PySem.W.nsIn K mainGlobals "_law_fraction" = some (some (.ref f__law_fraction))) (l__law_fraction : K.lookup f__law_fraction = some ⟨oc__law_fraction, od__law_fraction, .func (PySem.W.fnOf "_law_fraction" "_law_fraction" (defArgs s__law_fraction) (defBody s__law_fraction) (defScope s__law_fraction) .none kV__law_fraction dc__law_fraction pm__law_fraction an__law_fraction cd__law_fraction ct__law_fraction), sl__law_fraction⟩) (c__law_fraction : PySem.W.codeIn K cd__law_fraction "_law_fraction" = true) (k__law_fraction : PySem.W.keepIn K (.ref f__law_fraction) = true)
    {f__law_matrix : Addr} {od__law_matrix an__law_matrix : Option Addr} {sl__law_matrix : Array (Option Value)} {oc__law_matrix kV__law_matrix dc__law_matrix pm__law_matrix cd__law_matrix ct__law_matrix : Value}
    (a__law_matrix : PySem.W.nsIn K mainGlobals "_law_matrix" = some (some (.ref f__law_matrix))) (l__law_matrix : K.lookup f__law_matrix = some ⟨oc__law_matrix, od__law_matrix, .func (PySem.W.fnOf "_law_matrix" "_law_matrix" (defArgs s__law_matrix) (defBody s__law_matrix) (defScope s__law_matrix) .none kV__law_matrix dc__law_matrix pm__law_matrix an__law_matrix cd__law_matrix ct__law_matrix), sl__law_matrix⟩) (c__law_matrix : PySem.W.codeIn K cd__law_matrix "_law_matrix" = true) (k__law_matrix : PySem.W.keepIn K (.ref f__law_matrix) = true)
    {f__law_shares : Addr} {od__law_shares an__law_shares : Option Addr} {sl__law_shares : Array (Option Value)} {oc__law_shares kV__law_shares dc__law_shares pm__law_shares cd__law_shares ct__law_shares : Value}
    (a__law_shares : PySem.W.nsIn K mainGlobals "_law_shares" = some (some (.ref f__law_shares))) (l__law_shares : K.lookup f__law_shares = some ⟨oc__law_shares, od__law_shares, .func (PySem.W.fnOf "_law_shares" "_law_shares" (defArgs s__law_shares) (defBody s__law_shares) (defScope s__law_shares) .none kV__law_shares dc__law_shares pm__law_shares an__law_shares cd__law_shares ct__law_shares), sl__law_shares⟩) (c__law_shares : PySem.W.codeIn K cd__law_shares "_law_shares" = true) (k__law_shares : PySem.W.keepIn K (.ref f__law_shares) = true)
    {f__law_order : Addr} {od__law_order an__law_order : Option Addr} {sl__law_order : Array (Option Value)} {oc__law_order kV__law_order dc__law_order pm__law_order cd__law_order ct__law_order : Value}
    (a__law_order : PySem.W.nsIn K mainGlobals "_law_order" = some (some (.ref f__law_order))) (l__law_order : K.lookup f__law_order = some ⟨oc__law_order, od__law_order, .func (PySem.W.fnOf "_law_order" "_law_order" (defArgs s__law_order) (defBody s__law_order) (defScope s__law_order) .none kV__law_order dc__law_order pm__law_order an__law_order cd__law_order ct__law_order), sl__law_order⟩) (c__law_order : PySem.W.codeIn K cd__law_order "_law_order" = true) (k__law_order : PySem.W.keepIn K (.ref f__law_order) = true)
    {f__law_good : Addr} {od__law_good an__law_good : Option Addr} {sl__law_good : Array (Option Value)} {oc__law_good kV__law_good dc__law_good pm__law_good cd__law_good ct__law_good : Value}
    (a__law_good : PySem.W.nsIn K mainGlobals "_law_good" = some (some (.ref f__law_good))) (l__law_good : K.lookup f__law_good = some ⟨oc__law_good, od__law_good, .func (PySem.W.fnOf "_law_good" "_law_good" (defArgs s__law_good) (defBody s__law_good) (defScope s__law_good) .none kV__law_good dc__law_good pm__law_good an__law_good cd__law_good ct__law_good), sl__law_good⟩) (c__law_good : PySem.W.codeIn K cd__law_good "_law_good" = true) (k__law_good : PySem.W.keepIn K (.ref f__law_good) = true)
    {f_law : Addr} {od_law an_law : Option Addr} {sl_law : Array (Option Value)} {oc_law kV_law dc_law pm_law cd_law ct_law : Value}
    (a_law : PySem.W.nsIn K mainGlobals "law" = some (some (.ref f_law))) (l_law : K.lookup f_law = some ⟨oc_law, od_law, .func (PySem.W.fnOf "law" "law" (defArgs s_law) (defBody s_law) (defScope s_law) .none kV_law dc_law pm_law an_law cd_law ct_law), sl_law⟩) (c_law : PySem.W.codeIn K cd_law "law" = true) (k_law : PySem.W.keepIn K (.ref f_law) = true) : DefAt K mg "law" s_law ["_law_script"] ∧ TabsE K (csL K mg) h ∧ ∀ base : Heap, (∀ p ∈ csL K mg, TabB base mg p.1 p.2) → Txt K mg base := by
  have e_Told : cA mg "Told" = C_Told := cA_of (PySem.W.mg_of X G aC_Told)
  have e_Die : cA mg "Die" = C_Die := cA_of (PySem.W.mg_of X G aC_Die)
  have e_NOUGHT : cA mg "NOUGHT" = C_NOUGHT := cA_of (PySem.W.mg_of X G aC_NOUGHT)
  have e_SURE : cA mg "SURE" = C_SURE := cA_of (PySem.W.mg_of X G aC_SURE)
  have e_Bout : cA mg "Bout" = C_Bout := cA_of (PySem.W.mg_of X G aC_Bout)
  have ec_last_node : cF K mg "last_node" = cc_last_node := cF_of (PySem.W.mg_of X G a_last_node) l_last_node rfl
  have ec_duel_node : cF K mg "duel_node" = cc_duel_node := cF_of (PySem.W.mg_of X G a_duel_node) l_duel_node rfl
  refine ⟨⟨f_law, _, fun_mk (st := s_law) l_law c_law k_law, PySem.W.mg_of X G a_law, (fun_mk (st := s_law) l_law c_law k_law).binds (ps := ["_law_script"]) fun _ _ _ _ _ _ us hl => match us, hl with | [_], _ => rfl⟩, (TabsE.cons X ec_last_node ch_last_node nk_last_node mt_last_node Y (TabsE.cons X ec_duel_node ch_duel_node nk_duel_node mt_duel_node Y TabsE.nil)), fun base TB => ⟨(PySem.W.mg_none_of X G z_n_abs), (PySem.W.mg_none_of X G z_n_sorted), (PySem.W.mg_none_of X G z_n_tuple), (by rw [e_Told]; exact PySem.W.mg_of X G aC_Told), (by rw [e_Told]; exact ⟨pg_Told, hd_Told, po_Told, sa_Told⟩), (by rw [e_Told]; exact na_Told_places), (by rw [e_Die]; exact PySem.W.mg_of X G aC_Die), (by rw [e_Die]; exact ⟨pg_Die, hd_Die, po_Die, sa_Die⟩), (by rw [e_Die]; exact na_Die_ways), (by rw [e_NOUGHT]; exact PySem.W.mg_of X G aC_NOUGHT), (by rw [e_NOUGHT]; exact tp_NOUGHT), (by rw [e_SURE]; exact PySem.W.mg_of X G aC_SURE), (by rw [e_SURE]; exact tp_SURE), (PySem.W.mg_none_of X G z_n_sum), (by rw [e_Bout]; exact PySem.W.mg_of X G aC_Bout), (by rw [e_Bout]; exact ⟨pg_Bout, hd_Bout, po_Bout, sa_Bout⟩), (by rw [e_Bout]; exact na_Bout_ins), (by rw [e_Bout]; exact na_Bout_ups), (by rw [e_Bout]; exact na_Bout_much), (PySem.W.mg_none_of X G z_n_list), (PySem.W.mg_none_of X G z_n_max), (PySem.W.mg_none_of X G z_n_len), (PySem.W.mg_none_of X G z_n_range), (PySem.W.mg_none_of X G z_n_bool), (PySem.W.mg_none_of X G z_n_int), (PySem.W.mg_none_of X G z_n_isinstance), (PySem.W.mg_none_of X G z_n_zip), (PySem.W.mg_none_of X G z_n_min), (⟨f_divisor, _, fun_mk (st := s_divisor) l_divisor c_divisor k_divisor, PySem.W.mg_of X G a_divisor, (fun_mk (st := s_divisor) l_divisor c_divisor k_divisor).binds (ps := ["one", "other"]) fun _ _ _ _ _ _ us hl => match us, hl with | [_, _], _ => rfl⟩), (⟨f_share, _, fun_mk (st := s_share) l_share c_share k_share, PySem.W.mg_of X G a_share, (fun_mk (st := s_share) l_share c_share k_share).binds (ps := ["top", "bottom"]) fun _ _ _ _ _ _ us hl => match us, hl with | [_, _], _ => rfl⟩), (by rw [e_Told]; exact ⟨f_Told___init__, _, fun_mk (st := s_Told___init__) l_Told___init__ c_Told___init__ k_Told___init__, ⟨mk_Told, a_Told___init__, i_Told___init__, kc_Told⟩, (fun_mk (st := s_Told___init__) l_Told___init__ c_Told___init__ k_Told___init__).binds (ps := ["self", "kept"]) fun _ _ _ _ _ _ us hl => match us, hl with | [_, _], _ => rfl⟩), (by rw [e_Told]; exact ⟨f_Told_is_told, _, fun_mk (st := s_Told_is_told) l_Told_is_told c_Told_is_told k_Told_is_told, ⟨a_Told_is_told, i_Told_is_told, k_Told_is_told⟩, (fun_mk (st := s_Told_is_told) l_Told_is_told c_Told_is_told k_Told_is_told).binds (ps := ["self"]) fun _ _ _ _ _ _ us hl => match us, hl with | [_], _ => rfl⟩), (by rw [e_Told]; exact ⟨f_Told_kept, _, fun_mk (st := s_Told_kept) l_Told_kept c_Told_kept k_Told_kept, ⟨a_Told_kept, i_Told_kept, k_Told_kept⟩, (fun_mk (st := s_Told_kept) l_Told_kept c_Told_kept k_Told_kept).binds (ps := ["self"]) fun _ _ _ _ _ _ us hl => match us, hl with | [_], _ => rfl⟩), (by rw [e_Die]; exact ⟨f_Die___init__, _, fun_mk (st := s_Die___init__) l_Die___init__ c_Die___init__ k_Die___init__, ⟨mk_Die, a_Die___init__, i_Die___init__, kc_Die⟩, (fun_mk (st := s_Die___init__) l_Die___init__ c_Die___init__ k_Die___init__).binds (ps := ["self", "parts"]) fun _ _ _ _ _ _ us hl => match us, hl with | [_, _], _ => rfl⟩), (by rw [e_Die]; exact ⟨f_Die_is_told, _, fun_mk (st := s_Die_is_told) l_Die_is_told c_Die_is_told k_Die_is_told, ⟨a_Die_is_told, i_Die_is_told, k_Die_is_told⟩, (fun_mk (st := s_Die_is_told) l_Die_is_told c_Die_is_told k_Die_is_told).binds (ps := ["self"]) fun _ _ _ _ _ _ us hl => match us, hl with | [_], _ => rfl⟩), (⟨f_plus, _, fun_mk (st := s_plus) l_plus c_plus k_plus, PySem.W.mg_of X G a_plus, (fun_mk (st := s_plus) l_plus c_plus k_plus).binds (ps := ["one", "other"]) fun _ _ _ _ _ _ us hl => match us, hl with | [_, _], _ => rfl⟩), (⟨f_minus, _, fun_mk (st := s_minus) l_minus c_minus k_minus, PySem.W.mg_of X G a_minus, (fun_mk (st := s_minus) l_minus c_minus k_minus).binds (ps := ["one", "other"]) fun _ _ _ _ _ _ us hl => match us, hl with | [_, _], _ => rfl⟩), (⟨f_times, _, fun_mk (st := s_times) l_times c_times k_times, PySem.W.mg_of X G a_times, (fun_mk (st := s_times) l_times c_times k_times).binds (ps := ["one", "other"]) fun _ _ _ _ _ _ us hl => match us, hl with | [_, _], _ => rfl⟩), (⟨f_over, _, fun_mk (st := s_over) l_over c_over k_over, PySem.W.mg_of X G a_over, (fun_mk (st := s_over) l_over c_over k_over).binds (ps := ["one", "other"]) fun _ _ _ _ _ _ us hl => match us, hl with | [_, _], _ => rfl⟩), (⟨f_below, _, fun_mk (st := s_below) l_below c_below k_below, PySem.W.mg_of X G a_below, (fun_mk (st := s_below) l_below c_below k_below).binds (ps := ["one", "other"]) fun _ _ _ _ _ _ us hl => match us, hl with | [_, _], _ => rfl⟩), (⟨f_duel_sides, _, fun_mk (st := s_duel_sides) l_duel_sides c_duel_sides k_duel_sides, PySem.W.mg_of X G a_duel_sides, (fun_mk (st := s_duel_sides) l_duel_sides c_duel_sides k_duel_sides).binds (ps := ["one", "other"]) fun _ _ _ _ _ _ us hl => match us, hl with | [_, _], _ => rfl⟩), (⟨f_is_open, _, fun_mk (st := s_is_open) l_is_open c_is_open k_is_open, PySem.W.mg_of X G a_is_open, (fun_mk (st := s_is_open) l_is_open c_is_open k_is_open).binds (ps := ["much"]) fun _ _ _ _ _ _ us hl => match us, hl with | [_], _ => rfl⟩), (defC_mk ec_last_node l_last_node c_last_node k_last_node (PySem.W.mg_of X G a_last_node) fun _ _ _ _ _ _ us hl => match us, hl with | [_, _], _ => rfl), (TB (cF K mg "last_node", pF K mg "last_node") (by unfold csL; simp)), (by
    unfold tabsL
    intro p hp e
    simp only [List.mem_cons, List.not_mem_nil, or_false] at hp
    rcases hp with rfl | rfl
    · rfl
    · exact absurd e (pF_ne ec_duel_node ec_last_node nm_duel_node_last_node)), (defC_mk ec_duel_node l_duel_node c_duel_node k_duel_node (PySem.W.mg_of X G a_duel_node) fun _ _ _ _ _ _ us hl => match us, hl with | [_, _, _], _ => rfl), (TB (cF K mg "duel_node", pF K mg "duel_node") (by unfold csL; simp)), (by
    unfold tabsL
    intro p hp e
    simp only [List.mem_cons, List.not_mem_nil, or_false] at hp
    rcases hp with rfl | rfl
    · exact absurd e (pF_ne ec_last_node ec_duel_node nn_last_node_duel_node)
    · rfl), (⟨f_played, _, fun_mk (st := s_played) l_played c_played k_played, PySem.W.mg_of X G a_played, (fun_mk (st := s_played) l_played c_played k_played).binds (ps := ["winner", "loser", "coming", "kept"]) fun _ _ _ _ _ _ us hl => match us, hl with | [_, _, _, _], _ => rfl⟩), (by rw [e_Told]; exact ⟨f_Told_sides, _, fun_mk (st := s_Told_sides) l_Told_sides c_Told_sides k_Told_sides, ⟨a_Told_sides, i_Told_sides, k_Told_sides⟩, (fun_mk (st := s_Told_sides) l_Told_sides c_Told_sides k_Told_sides).binds (ps := ["self"]) fun _ _ _ _ _ _ us hl => match us, hl with | [_], _ => rfl⟩), (by rw [e_Told]; exact ⟨f_Told_parts, _, fun_mk (st := s_Told_parts) l_Told_parts c_Told_parts k_Told_parts, ⟨a_Told_parts, i_Told_parts, k_Told_parts⟩, (fun_mk (st := s_Told_parts) l_Told_parts c_Told_parts k_Told_parts).binds (ps := ["self"]) fun _ _ _ _ _ _ us hl => match us, hl with | [_], _ => rfl⟩), (by rw [e_Die]; exact ⟨f_Die_kept, _, fun_mk (st := s_Die_kept) l_Die_kept c_Die_kept k_Die_kept, ⟨a_Die_kept, i_Die_kept, k_Die_kept⟩, (fun_mk (st := s_Die_kept) l_Die_kept c_Die_kept k_Die_kept).binds (ps := ["self"]) fun _ _ _ _ _ _ us hl => match us, hl with | [_], _ => rfl⟩), (by rw [e_Die]; exact ⟨f_Die_sides, _, fun_mk (st := s_Die_sides) l_Die_sides c_Die_sides k_Die_sides, ⟨a_Die_sides, i_Die_sides, k_Die_sides⟩, (fun_mk (st := s_Die_sides) l_Die_sides c_Die_sides k_Die_sides).binds (ps := ["self"]) fun _ _ _ _ _ _ us hl => match us, hl with | [_], _ => rfl⟩), (by rw [e_Bout]; exact ⟨f_Bout___init__, _, fun_mk (st := s_Bout___init__) l_Bout___init__ c_Bout___init__ k_Bout___init__, ⟨mk_Bout, a_Bout___init__, i_Bout___init__, kc_Bout⟩, (fun_mk (st := s_Bout___init__) l_Bout___init__ c_Bout___init__ k_Bout___init__).binds (ps := ["self"]) fun _ _ _ _ _ _ us hl => match us, hl with | [_], _ => rfl⟩), (by rw [e_Bout]; exact ⟨f_Bout_together, _, fun_mk (st := s_Bout_together) l_Bout_together c_Bout_together k_Bout_together, ⟨a_Bout_together, i_Bout_together, k_Bout_together⟩, (fun_mk (st := s_Bout_together) l_Bout_together c_Bout_together k_Bout_together).binds (ps := ["self", "at", "share_of_it"]) fun _ _ _ _ _ _ us hl => match us, hl with | [_, _, _], _ => rfl⟩), (by rw [e_Bout]; exact ⟨f_Bout_all_ups, _, fun_mk (st := s_Bout_all_ups) l_Bout_all_ups c_Bout_all_ups k_Bout_all_ups, ⟨a_Bout_all_ups, i_Bout_all_ups, k_Bout_all_ups⟩, (fun_mk (st := s_Bout_all_ups) l_Bout_all_ups c_Bout_all_ups k_Bout_all_ups).binds (ps := ["self", "factor"]) fun _ _ _ _ _ _ us hl => match us, hl with | [_, _], _ => rfl⟩), (by rw [e_Bout]; exact ⟨f_Bout_come, _, fun_mk (st := s_Bout_come) l_Bout_come c_Bout_come k_Bout_come, ⟨a_Bout_come, i_Bout_come, k_Bout_come⟩, (fun_mk (st := s_Bout_come) l_Bout_come c_Bout_come k_Bout_come).binds (ps := ["self", "at", "much"]) fun _ _ _ _ _ _ us hl => match us, hl with | [_, _, _], _ => rfl⟩), (⟨f__law_low, _, fun_mk (st := s__law_low) l__law_low c__law_low k__law_low, PySem.W.mg_of X G a__law_low, (fun_mk (st := s__law_low) l__law_low c__law_low k__law_low).binds (ps := ["_law_top", "_law_bottom"]) fun _ _ _ _ _ _ us hl => match us, hl with | [_, _], _ => rfl⟩), (⟨f__law_plus, _, fun_mk (st := s__law_plus) l__law_plus c__law_plus k__law_plus, PySem.W.mg_of X G a__law_plus, (fun_mk (st := s__law_plus) l__law_plus c__law_plus k__law_plus).binds (ps := ["_law_one", "_law_other"]) fun _ _ _ _ _ _ us hl => match us, hl with | [_, _], _ => rfl⟩), (⟨f__law_times, _, fun_mk (st := s__law_times) l__law_times c__law_times k__law_times, PySem.W.mg_of X G a__law_times, (fun_mk (st := s__law_times) l__law_times c__law_times k__law_times).binds (ps := ["_law_one", "_law_other"]) fun _ _ _ _ _ _ us hl => match us, hl with | [_, _], _ => rfl⟩), (by rw [e_Die]; exact ⟨f_Die_parts, _, fun_mk (st := s_Die_parts) l_Die_parts c_Die_parts k_Die_parts, ⟨a_Die_parts, i_Die_parts, k_Die_parts⟩, (fun_mk (st := s_Die_parts) l_Die_parts c_Die_parts k_Die_parts).binds (ps := ["self"]) fun _ _ _ _ _ _ us hl => match us, hl with | [_], _ => rfl⟩), (⟨f__law_ways, _, fun_mk (st := s__law_ways) l__law_ways c__law_ways k__law_ways, PySem.W.mg_of X G a__law_ways, (fun_mk (st := s__law_ways) l__law_ways c__law_ways k__law_ways).binds (ps := ["_law_node", "_law_much"]) fun _ _ _ _ _ _ us hl => match us, hl with | [_, _], _ => rfl⟩), (⟨f__law_together, _, fun_mk (st := s__law_together) l__law_together c__law_together k__law_together, PySem.W.mg_of X G a__law_together, (fun_mk (st := s__law_together) l__law_together c__law_together k__law_together).binds (ps := ["_law_ways_here", "_law_places"]) fun _ _ _ _ _ _ us hl => match us, hl with | [_, _], _ => rfl⟩), (⟨f__law_deep, _, fun_mk (st := s__law_deep) l__law_deep c__law_deep k__law_deep, PySem.W.mg_of X G a__law_deep, (fun_mk (st := s__law_deep) l__law_deep c__law_deep k__law_deep).binds (ps := ["_law_node"]) fun _ _ _ _ _ _ us hl => match us, hl with | [_], _ => rfl⟩), (⟨f_duels, _, fun_mk (st := s_duels) l_duels c_duels k_duels, PySem.W.mg_of X G a_duels, (fun_mk (st := s_duels) l_duels c_duels k_duels).binds (ps := ["shares", "order"]) fun _ _ _ _ _ _ us hl => match us, hl with | [_, _], _ => rfl⟩), (⟨f_duel_matrix, _, fun_mk (st := s_duel_matrix) l_duel_matrix c_duel_matrix k_duel_matrix, PySem.W.mg_of X G a_duel_matrix, (fun_mk (st := s_duel_matrix) l_duel_matrix c_duel_matrix k_duel_matrix).binds (ps := ["shares", "order"]) fun _ _ _ _ _ _ us hl => match us, hl with | [_, _], _ => rfl⟩), (⟨f__law_cell, _, fun_mk (st := s__law_cell) l__law_cell c__law_cell k__law_cell, PySem.W.mg_of X G a__law_cell, (fun_mk (st := s__law_cell) l__law_cell c__law_cell k__law_cell).binds (ps := ["_law_script", "_law_k"]) fun _ _ _ _ _ _ us hl => match us, hl with | [_, _], _ => rfl⟩), (⟨f__law_mix, _, fun_mk (st := s__law_mix) l__law_mix c__law_mix k__law_mix, PySem.W.mg_of X G a__law_mix, (fun_mk (st := s__law_mix) l__law_mix c__law_mix k__law_mix).binds (ps := ["_law_cell_here", "_law_k"]) fun _ _ _ _ _ _ us hl => match us, hl with | [_, _], _ => rfl⟩), (⟨f__law_row, _, fun_mk (st := s__law_row) l__law_row c__law_row k__law_row, PySem.W.mg_of X G a__law_row, (fun_mk (st := s__law_row) l__law_row c__law_row k__law_row).binds (ps := ["_law_cell_here", "_law_bit", "_law_many", "_law_most"]) fun _ _ _ _ _ _ us hl => match us, hl with | [_, _, _, _], _ => rfl⟩), (⟨f__law_whole, _, fun_mk (st := s__law_whole) l__law_whole c__law_whole k__law_whole, PySem.W.mg_of X G a__law_whole, (fun_mk (st := s__law_whole) l__law_whole c__law_whole k__law_whole).binds (ps := ["_law_found"]) fun _ _ _ _ _ _ us hl => match us, hl with | [_], _ => rfl⟩), (⟨f__law_fraction, _, fun_mk (st := s__law_fraction) l__law_fraction c__law_fraction k__law_fraction, PySem.W.mg_of X G a__law_fraction, (fun_mk (st := s__law_fraction) l__law_fraction c__law_fraction k__law_fraction).binds (ps := ["_law_found", "_law_due"]) fun _ _ _ _ _ _ us hl => match us, hl with | [_, _], _ => rfl⟩), (⟨f__law_matrix, _, fun_mk (st := s__law_matrix) l__law_matrix c__law_matrix k__law_matrix, PySem.W.mg_of X G a__law_matrix, (fun_mk (st := s__law_matrix) l__law_matrix c__law_matrix k__law_matrix).binds (ps := ["_law_found", "_law_due"]) fun _ _ _ _ _ _ us hl => match us, hl with | [_, _], _ => rfl⟩), (⟨f__law_shares, _, fun_mk (st := s__law_shares) l__law_shares c__law_shares k__law_shares, PySem.W.mg_of X G a__law_shares, (fun_mk (st := s__law_shares) l__law_shares c__law_shares k__law_shares).binds (ps := ["_law_script", "_law_start", "_law_most"]) fun _ _ _ _ _ _ us hl => match us, hl with | [_, _, _], _ => rfl⟩), (⟨f__law_order, _, fun_mk (st := s__law_order) l__law_order c__law_order k__law_order, PySem.W.mg_of X G a__law_order, (fun_mk (st := s__law_order) l__law_order c__law_order k__law_order).binds (ps := ["_law_cell_here", "_law_bit", "_law_many"]) fun _ _ _ _ _ _ us hl => match us, hl with | [_, _, _], _ => rfl⟩), (⟨f__law_good, _, fun_mk (st := s__law_good) l__law_good c__law_good k__law_good, PySem.W.mg_of X G a__law_good, (fun_mk (st := s__law_good) l__law_good c__law_good k__law_good).binds (ps := ["_law_shares_here", "_law_order_here"]) fun _ _ _ _ _ _ us hl => match us, hl with | [_, _], _ => rfl⟩), (⟨f_law, _, fun_mk (st := s_law) l_law c_law k_law, PySem.W.mg_of X G a_law, (fun_mk (st := s_law) l_law c_law k_law).binds (ps := ["_law_script"]) fun _ _ _ _ _ _ us hl => match us, hl with | [_], _ => rfl⟩)⟩⟩
theorem law_mk {l : PySem.W.OpenLaw} {w : World} {K : PySem.W.Frag} {h : Heap} {mg : Str → Option Value} {fa : Addr} (Y : DefAt K mg "law" s_law ["_law_script"] ∧ TabsE K (csL K mg) h ∧ ∀ base : Heap, (∀ p ∈ csL K mg, TabB base mg p.1 p.2) → Txt K mg base) (hfa : mg "law" = some (.ref fa)) :
    LamX.LawAtS l w K CX0 18 63 "_law_script" mg fa h := by
  obtain ⟨D, E, T⟩ := Y
  obtain ⟨f, fd, F, hm, b⟩ := D.ex
  have e := hfa.symm.trans hm
  cases e
  refine ⟨fd, csL K mg, sp_law K mg, E.e, E.n, E.c, fun s v => ?_, fun H a ns hl hb hH hS => ⟨ns, hS, hl, hb, tabs_nil hH (by unfold tabsL csL; simp), fun _ => rfl⟩, fun base _ _ tb => c_law (T base tb) F⟩
  obtain ⟨oc, od, kV, doc, pm, an, cdv, ct, osl, rfl, lk, hcd⟩ := F.ex
  exact .of_eq rfl
end My
open PySem PySem.W PyProof.Rows
set_option maxRecDepth 100000 in
set_option maxHeartbeats 0 in
theorem PySem.Challenge.cw_fewspeak_k32_whole_each_keeps_its_share_holds : PySem.Challenge.rw_fewspeak_k32_whole_each_keeps_its_share.Holds := by
  w_on; o_law; k_head; (case hw => w_witness2)
  k_fill
  refine LamX.walk_ofTs (l := PySem.Challenge.rw_fewspeak_k32_whole_each_keeps_its_share) (n := 63) (k := 18) (x := "_law_script") (CX := fun _ => L2.CX0) rfl (by decide) rfl ⟨rfl, by decide, by decide⟩ (fun w h Y => PySem.W.km_in_of Y) ?F (fun _ _ _ _ _ h => h)
  case F =>
    intro w mg fa h Y KX G hmg
    refine' My.law_mk (My.txt_mk KX G (PySem.W.km_tabs_of Y) ?z_n_abs ?z_n_sorted ?z_n_tuple ?aC_Told ?pg_Told ?hd_Told ?po_Told ?sa_Told ?mk_Told ?kc_Told ?na_Told_places ?aC_Die ?pg_Die ?hd_Die ?po_Die ?sa_Die ?mk_Die ?kc_Die ?na_Die_ways ?aC_NOUGHT ?tp_NOUGHT ?aC_SURE ?tp_SURE ?z_n_sum ?aC_Bout ?pg_Bout ?hd_Bout ?po_Bout ?sa_Bout ?mk_Bout ?kc_Bout ?na_Bout_ins ?na_Bout_ups ?na_Bout_much ?z_n_list ?z_n_max ?z_n_len ?z_n_range ?z_n_bool ?z_n_int ?z_n_isinstance ?z_n_zip ?z_n_min ?a_divisor ?l_divisor ?c_divisor ?k_divisor ?a_share ?l_share ?c_share ?k_share ?a_Told___init__ ?i_Told___init__ ?l_Told___init__ ?c_Told___init__ ?k_Told___init__ ?a_Told_is_told ?i_Told_is_told ?l_Told_is_told ?c_Told_is_told ?k_Told_is_told ?a_Told_kept ?i_Told_kept ?l_Told_kept ?c_Told_kept ?k_Told_kept ?a_Die___init__ ?i_Die___init__ ?l_Die___init__ ?c_Die___init__ ?k_Die___init__ ?a_Die_is_told ?i_Die_is_told ?l_Die_is_told ?c_Die_is_told ?k_Die_is_told ?a_plus ?l_plus ?c_plus ?k_plus ?a_minus ?l_minus ?c_minus ?k_minus ?a_times ?l_times ?c_times ?k_times ?a_over ?l_over ?c_over ?k_over ?a_below ?l_below ?c_below ?k_below ?a_duel_sides ?l_duel_sides ?c_duel_sides ?k_duel_sides ?a_is_open ?l_is_open ?c_is_open ?k_is_open ?a_last_node ?l_last_node ?c_last_node ?k_last_node ?ch_last_node ?nk_last_node ?mt_last_node ?a_duel_node ?l_duel_node ?c_duel_node ?k_duel_node ?ch_duel_node ?nk_duel_node ?mt_duel_node ?nn_last_node_duel_node ?nm_duel_node_last_node ?a_played ?l_played ?c_played ?k_played ?a_Told_sides ?i_Told_sides ?l_Told_sides ?c_Told_sides ?k_Told_sides ?a_Told_parts ?i_Told_parts ?l_Told_parts ?c_Told_parts ?k_Told_parts ?a_Die_kept ?i_Die_kept ?l_Die_kept ?c_Die_kept ?k_Die_kept ?a_Die_sides ?i_Die_sides ?l_Die_sides ?c_Die_sides ?k_Die_sides ?a_Bout___init__ ?i_Bout___init__ ?l_Bout___init__ ?c_Bout___init__ ?k_Bout___init__ ?a_Bout_together ?i_Bout_together ?l_Bout_together ?c_Bout_together ?k_Bout_together ?a_Bout_all_ups ?i_Bout_all_ups ?l_Bout_all_ups ?c_Bout_all_ups ?k_Bout_all_ups ?a_Bout_come ?i_Bout_come ?l_Bout_come ?c_Bout_come ?k_Bout_come ?a__law_low ?l__law_low ?c__law_low ?k__law_low ?a__law_plus ?l__law_plus ?c__law_plus ?k__law_plus ?a__law_times ?l__law_times ?c__law_times ?k__law_times ?a_Die_parts ?i_Die_parts ?l_Die_parts ?c_Die_parts ?k_Die_parts ?a__law_ways ?l__law_ways ?c__law_ways ?k__law_ways ?a__law_together ?l__law_together ?c__law_together ?k__law_together ?a__law_deep ?l__law_deep ?c__law_deep ?k__law_deep ?a_duels ?l_duels ?c_duels ?k_duels ?a_duel_matrix ?l_duel_matrix ?c_duel_matrix ?k_duel_matrix ?a__law_cell ?l__law_cell ?c__law_cell ?k__law_cell ?a__law_mix ?l__law_mix ?c__law_mix ?k__law_mix ?a__law_row ?l__law_row ?c__law_row ?k__law_row ?a__law_whole ?l__law_whole ?c__law_whole ?k__law_whole ?a__law_fraction ?l__law_fraction ?c__law_fraction ?k__law_fraction ?a__law_matrix ?l__law_matrix ?c__law_matrix ?k__law_matrix ?a__law_shares ?l__law_shares ?c__law_shares ?k__law_shares ?a__law_order ?l__law_order ?c__law_order ?k__law_order ?a__law_good ?l__law_good ?c__law_good ?k__law_good ?a_law ?l_law ?c_law ?k_law) hmg
    (case z_n_abs => k_is)
    (case z_n_sorted => k_is)
    (case z_n_tuple => k_is)
    (case aC_Told => k_is)
    (case pg_Told => k_is)
    (case hd_Told => k_is)
    (case po_Told => k_is)
    (case sa_Told => k_is)
    (case mk_Told => k_is)
    (case kc_Told => k_is)
    (case na_Told_places => k_is)
    (case aC_Die => k_is)
    (case pg_Die => k_is)
    (case hd_Die => k_is)
    (case po_Die => k_is)
    (case sa_Die => k_is)
    (case mk_Die => k_is)
    (case kc_Die => k_is)
    (case na_Die_ways => k_is)
    (case aC_NOUGHT => k_is)
    (case tp_NOUGHT => exact ⟨_, _, _, by first | rfl | k_is, rfl, rfl, by decide, by first | exact .cons ⟨_, rfl⟩ .nil | exact .cons ⟨_, rfl⟩ (.cons ⟨_, rfl⟩ .nil)⟩)
    (case aC_SURE => k_is)
    (case tp_SURE => exact ⟨_, _, _, by first | rfl | k_is, rfl, rfl, by decide, by first | exact .cons ⟨_, rfl⟩ .nil | exact .cons ⟨_, rfl⟩ (.cons ⟨_, rfl⟩ .nil)⟩)
    (case z_n_sum => k_is)
    (case aC_Bout => k_is)
    (case pg_Bout => k_is)
    (case hd_Bout => k_is)
    (case po_Bout => k_is)
    (case sa_Bout => k_is)
    (case mk_Bout => k_is)
    (case kc_Bout => k_is)
    (case na_Bout_ins => k_is)
    (case na_Bout_ups => k_is)
    (case na_Bout_much => k_is)
    (case z_n_list => k_is)
    (case z_n_max => k_is)
    (case z_n_len => k_is)
    (case z_n_range => k_is)
    (case z_n_bool => k_is)
    (case z_n_int => k_is)
    (case z_n_isinstance => k_is)
    (case z_n_zip => k_is)
    (case z_n_min => k_is)
    (case a_divisor => k_is)
    (case l_divisor => k_is)
    (case c_divisor => k_is)
    (case k_divisor => k_is)
    (case a_share => k_is)
    (case l_share => k_is)
    (case c_share => k_is)
    (case k_share => k_is)
    (case a_Told___init__ => k_is)
    (case i_Told___init__ => k_is)
    (case l_Told___init__ => k_is)
    (case c_Told___init__ => k_is)
    (case k_Told___init__ => k_is)
    (case a_Told_is_told => k_is)
    (case i_Told_is_told => k_is)
    (case l_Told_is_told => k_is)
    (case c_Told_is_told => k_is)
    (case k_Told_is_told => k_is)
    (case a_Told_kept => k_is)
    (case i_Told_kept => k_is)
    (case l_Told_kept => k_is)
    (case c_Told_kept => k_is)
    (case k_Told_kept => k_is)
    (case a_Die___init__ => k_is)
    (case i_Die___init__ => k_is)
    (case l_Die___init__ => k_is)
    (case c_Die___init__ => k_is)
    (case k_Die___init__ => k_is)
    (case a_Die_is_told => k_is)
    (case i_Die_is_told => k_is)
    (case l_Die_is_told => k_is)
    (case c_Die_is_told => k_is)
    (case k_Die_is_told => k_is)
    (case a_plus => k_is)
    (case l_plus => k_is)
    (case c_plus => k_is)
    (case k_plus => k_is)
    (case a_minus => k_is)
    (case l_minus => k_is)
    (case c_minus => k_is)
    (case k_minus => k_is)
    (case a_times => k_is)
    (case l_times => k_is)
    (case c_times => k_is)
    (case k_times => k_is)
    (case a_over => k_is)
    (case l_over => k_is)
    (case c_over => k_is)
    (case k_over => k_is)
    (case a_below => k_is)
    (case l_below => k_is)
    (case c_below => k_is)
    (case k_below => k_is)
    (case a_duel_sides => k_is)
    (case l_duel_sides => k_is)
    (case c_duel_sides => k_is)
    (case k_duel_sides => k_is)
    (case a_is_open => k_is)
    (case l_is_open => k_is)
    (case c_is_open => k_is)
    (case k_is_open => k_is)
    (case a_last_node => k_is)
    (case l_last_node => k_is)
    (case c_last_node => k_is)
    (case k_last_node => k_is)
    (case ch_last_node => kernel_rfl)
    (case nk_last_node => kernel_rfl)
    (case mt_last_node => kernel_rfl)
    (case a_duel_node => k_is)
    (case l_duel_node => k_is)
    (case c_duel_node => k_is)
    (case k_duel_node => k_is)
    (case ch_duel_node => kernel_rfl)
    (case nk_duel_node => kernel_rfl)
    (case mt_duel_node => kernel_rfl)
    (case nn_last_node_duel_node => kernel_rfl)
    (case nm_duel_node_last_node => kernel_rfl)
    (case a_played => k_is)
    (case l_played => k_is)
    (case c_played => k_is)
    (case k_played => k_is)
    (case a_Told_sides => k_is)
    (case i_Told_sides => k_is)
    (case l_Told_sides => k_is)
    (case c_Told_sides => k_is)
    (case k_Told_sides => k_is)
    (case a_Told_parts => k_is)
    (case i_Told_parts => k_is)
    (case l_Told_parts => k_is)
    (case c_Told_parts => k_is)
    (case k_Told_parts => k_is)
    (case a_Die_kept => k_is)
    (case i_Die_kept => k_is)
    (case l_Die_kept => k_is)
    (case c_Die_kept => k_is)
    (case k_Die_kept => k_is)
    (case a_Die_sides => k_is)
    (case i_Die_sides => k_is)
    (case l_Die_sides => k_is)
    (case c_Die_sides => k_is)
    (case k_Die_sides => k_is)
    (case a_Bout___init__ => k_is)
    (case i_Bout___init__ => k_is)
    (case l_Bout___init__ => k_is)
    (case c_Bout___init__ => k_is)
    (case k_Bout___init__ => k_is)
    (case a_Bout_together => k_is)
    (case i_Bout_together => k_is)
    (case l_Bout_together => k_is)
    (case c_Bout_together => k_is)
    (case k_Bout_together => k_is)
    (case a_Bout_all_ups => k_is)
    (case i_Bout_all_ups => k_is)
    (case l_Bout_all_ups => k_is)
    (case c_Bout_all_ups => k_is)
    (case k_Bout_all_ups => k_is)
    (case a_Bout_come => k_is)
    (case i_Bout_come => k_is)
    (case l_Bout_come => k_is)
    (case c_Bout_come => k_is)
    (case k_Bout_come => k_is)
    (case a__law_low => k_is)
    (case l__law_low => k_is)
    (case c__law_low => k_is)
    (case k__law_low => k_is)
    (case a__law_plus => k_is)
    (case l__law_plus => k_is)
    (case c__law_plus => k_is)
    (case k__law_plus => k_is)
    (case a__law_times => k_is)
    (case l__law_times => k_is)
    (case c__law_times => k_is)
    (case k__law_times => k_is)
    (case a_Die_parts => k_is)
    (case i_Die_parts => k_is)
    (case l_Die_parts => k_is)
    (case c_Die_parts => k_is)
    (case k_Die_parts => k_is)
    (case a__law_ways => k_is)
    (case l__law_ways => k_is)
    (case c__law_ways => k_is)
    (case k__law_ways => k_is)
    (case a__law_together => k_is)
    (case l__law_together => k_is)
    (case c__law_together => k_is)
    (case k__law_together => k_is)
    (case a__law_deep => k_is)
    (case l__law_deep => k_is)
    (case c__law_deep => k_is)
    (case k__law_deep => k_is)
    (case a_duels => k_is)
    (case l_duels => k_is)
    (case c_duels => k_is)
    (case k_duels => k_is)
    (case a_duel_matrix => k_is)
    (case l_duel_matrix => k_is)
    (case c_duel_matrix => k_is)
    (case k_duel_matrix => k_is)
    (case a__law_cell => k_is)
    (case l__law_cell => k_is)
    (case c__law_cell => k_is)
    (case k__law_cell => k_is)
    (case a__law_mix => k_is)
    (case l__law_mix => k_is)
    (case c__law_mix => k_is)
    (case k__law_mix => k_is)
    (case a__law_row => k_is)
    (case l__law_row => k_is)
    (case c__law_row => k_is)
    (case k__law_row => k_is)
    (case a__law_whole => k_is)
    (case l__law_whole => k_is)
    (case c__law_whole => k_is)
    (case k__law_whole => k_is)
    (case a__law_fraction => k_is)
    (case l__law_fraction => k_is)
    (case c__law_fraction => k_is)
    (case k__law_fraction => k_is)
    (case a__law_matrix => k_is)
    (case l__law_matrix => k_is)
    (case c__law_matrix => k_is)
    (case k__law_matrix => k_is)
    (case a__law_shares => k_is)
    (case l__law_shares => k_is)
    (case c__law_shares => k_is)
    (case k__law_shares => k_is)
    (case a__law_order => k_is)
    (case l__law_order => k_is)
    (case c__law_order => k_is)
    (case k__law_order => k_is)
    (case a__law_good => k_is)
    (case l__law_good => k_is)
    (case c__law_good => k_is)
    (case k__law_good => k_is)
    (case a_law => k_is)
    (case l_law => k_is)
    (case c_law => k_is)
    (case k_law => k_is)
#print axioms PySem.Challenge.cw_fewspeak_k32_whole_each_keeps_its_share_holds

