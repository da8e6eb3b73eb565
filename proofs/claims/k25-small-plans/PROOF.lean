import PyProof.Rows.All
import Wide.All
import OpenK.AllK
import Wide.FinOn
import HandS.ForMost
import HandS.Exc
import HandS.TryOnly
import HandS.ExcOwn
import HandS.WordsExc
import HandS.Wide
import HandS.IsInst
import HandS.EndBits
import HandS.Conv
import HandS.Style
import HandS.TupAny
import HandS.Evl
import HandS.Walk
import HandS.ExcIs
import HandS.ExcInit
import HandS.ExcField
import HandS.ExcValue
import HandS.SetKeys
import KE.KExcIs
import HandS.Iter
import HandS.Defaults
import HandS.CallSlots
import HandS.More
import PyProof.StrBlock2
import HandS.Lambda
import HandS.Nested
import HandS.EndTab
import KE.KLam
import KE.KNestM
import HandS.SetFor
import HandS.DictTup
import KE.KDictPairs
import KE.KDictDisplayH
import HandS.ExcInitHot
import HandS.RevTup
import HandS.Rev
import HandS.Strs
import HandS.TupSets
import HandS.Text
import HandS.ListItems
import HandS.Dict
import PySem.Challenge.RW_fewspeak_k25_whole_small_plans_walked
set_option Elab.async false
set_option linter.all false
set_option maxRecDepth 100000
set_option maxHeartbeats 4000000
namespace Kt
open PySem PySem.Spec PyProof.Rows L2
/-- a def of the top, as it stands behind the top -/
structure DefAt (K : PySem.W.Frag) (mg : Str → Option Value) (x : Str) (st : Stmt) (ps : List Str) : Prop where
  ex : ∃ (f : Addr) (fd : FuncData), Fun K x x st f fd ∧ mg x = some (.ref f) ∧ Binds K fd ps []
/-- a method of the class at C -/
structure MethAt (K : PySem.W.Frag) (C : Addr) (m qual : Str) (st : Stmt) (ps : List Str) : Prop where
  ex : ∃ (f : Addr) (fd : FuncData), Fun K m qual st f fd ∧ Meth K C m f ∧ Binds K fd ps []
structure InitAt (K : PySem.W.Frag) (C : Addr) (qual : Str) (st : Stmt) (ps : List Str) : Prop where
  ex : ∃ (f : Addr) (fd : FuncData), Fun K "__init__" qual st f fd ∧ Mk K C f ∧ Binds K fd ps []
/-- the class that a name of the module holds -/
def cA (mg : Str → Option Value) (x : Str) : Addr := match mg x with | some (.ref a) => a | _ => 0
theorem cA_of {mg : Str → Option Value} {x : Str} {a : Addr} (h : mg x = some (.ref a)) : cA mg x = a := by unfold cA; rw [h]
/-- a def that may be called by its name; a method of the class at C; a class that may be made -/
structure Cal (P : Program) (w : World) (K : PySem.W.Frag) (mg : Str → Option Value) (base : Heap) (k : Nat) (x : Str) (sp : Sp) : Prop where
  ex : ∃ (f : Addr) (fd : FuncData) (ps : List Str), FnOk P w K mg base CX0 k f fd ps sp ∧ mg x = some (.ref f) ∧ PySem.W.keepIn K (.ref f) = true ∧ Binds K fd ps []
structure Met (P : Program) (w : World) (K : PySem.W.Frag) (mg : Str → Option Value) (base : Heap) (k : Nat) (C : Addr) (m : Str) (sp : Sp) : Prop where
  ex : ∃ (f : Addr) (fd : FuncData) (ps : List Str), Cls K C ∧ Meth K C m f ∧ FnOk P w K mg base CX0 k f fd ps sp ∧ Binds K fd ps []
structure Mak (P : Program) (w : World) (K : PySem.W.Frag) (mg : Str → Option Value) (base : Heap) (k : Nat) (x : Str) (C : Addr) (sp : Sp) : Prop where
  ex : ∃ (f : Addr) (fd : FuncData) (ps : List Str), Mk K C f ∧ FnOk P w K mg base CX0 k f fd ps sp ∧ mg x = some (.ref C) ∧ Binds K fd ps []
section
variable {P : Program} {w : World} {K : PySem.W.Frag} {mg : Str → Option Value} {base : Heap}
theorem DefAt.cal {x : Str} {st : Stmt} {N ps : List Str} {k : Nat} {sp : Sp} (d : DefAt K mg x st ps) (S : FnScope N ps (defScope st)) (len : ∀ vs H Q E, sp vs H Q E → vs.length = ps.length)
    (hbody : ∀ (f : Addr) (cdv : Value) (A : Around) (outer : List Env) (s : Shared) (H : Hp) (vs : List V) (Q : VK) (E : XK), Room k (A.deeper (envOfC x (defScope st) s.heap.objs.size f cdv)) → sp vs H Q E →
      ∃ t, PSs (cxOf CX0 P w K mg base N x (defScope st) f cdv A outer s H E).nox (defBody st) t ∧ t { nx := fun _ H' => Q .non H', rt := Q } (start N vs) H) : Cal P w K mg base (k + 1) x sp := by
  obtain ⟨f, fd, F, hm, b⟩ := d.ex
  exact ⟨f, fd, ps, F.ok S len (hbody f), hm, F.kp, b⟩
/-- a def of the top by one more name -/
structure DefAtA (K : PySem.W.Frag) (mg : Str → Option Value) (x nm : Str) (st : Stmt) (ps : List Str) : Prop where
  ex : ∃ (f : Addr) (fd : FuncData), Fun K nm nm st f fd ∧ mg x = some (.ref f) ∧ Binds K fd ps []
theorem DefAtA.cal {x nm : Str} {st : Stmt} {N ps : List Str} {k : Nat} {sp : Sp} (d : DefAtA K mg x nm st ps) (S : FnScope N ps (defScope st)) (len : ∀ vs H Q E, sp vs H Q E → vs.length = ps.length)
    (hbody : ∀ (f : Addr) (cdv : Value) (A : Around) (outer : List Env) (s : Shared) (H : Hp) (vs : List V) (Q : VK) (E : XK), Room k (A.deeper (envOfC nm (defScope st) s.heap.objs.size f cdv)) → sp vs H Q E →
      ∃ t, PSs (cxOf CX0 P w K mg base N nm (defScope st) f cdv A outer s H E).nox (defBody st) t ∧ t { nx := fun _ H' => Q .non H', rt := Q } (start N vs) H) : Cal P w K mg base (k + 1) x sp := by
  obtain ⟨f, fd, F, hm, b⟩ := d.ex
  exact ⟨f, fd, ps, F.ok S len (hbody f), hm, F.kp, b⟩
theorem MethAt.met {C : Addr} {m qual : Str} {st : Stmt} {N ps : List Str} {k : Nat} {sp : Sp} (c : Cls K C) (d : MethAt K C m qual st ps) (S : FnScope N ps (defScope st)) (len : ∀ vs H Q E, sp vs H Q E → vs.length = ps.length)
    (hbody : ∀ (f : Addr) (cdv : Value) (A : Around) (outer : List Env) (s : Shared) (H : Hp) (vs : List V) (Q : VK) (E : XK), Room k (A.deeper (envOfC qual (defScope st) s.heap.objs.size f cdv)) → sp vs H Q E →
      ∃ t, PSs (cxOf CX0 P w K mg base N qual (defScope st) f cdv A outer s H E).nox (defBody st) t ∧ t { nx := fun _ H' => Q .non H', rt := Q } (start N vs) H) : Met P w K mg base (k + 1) C m sp := by
  obtain ⟨f, fd, F, hm, b⟩ := d.ex
  exact ⟨f, fd, ps, c, hm, F.ok S len (hbody f), b⟩
theorem InitAt.mak {x : Str} {C : Addr} {qual : Str} {st : Stmt} {N ps : List Str} {k : Nat} {sp : Sp} (hx : mg x = some (.ref C)) (d : InitAt K C qual st ps) (S : FnScope N ps (defScope st)) (len : ∀ vs H Q E, sp vs H Q E → vs.length = ps.length)
    (hbody : ∀ (f : Addr) (cdv : Value) (A : Around) (outer : List Env) (s : Shared) (H : Hp) (vs : List V) (Q : VK) (E : XK), Room k (A.deeper (envOfC qual (defScope st) s.heap.objs.size f cdv)) → sp vs H Q E →
      ∃ t, PSs (cxOf CX0 P w K mg base N qual (defScope st) f cdv A outer s H E).nox (defBody st) t ∧ t { nx := fun _ H' => Q .non H', rt := Q } (start N vs) H) : Mak P w K mg base (k + 1) x C sp := by
  obtain ⟨f, fd, F, hm, b⟩ := d.ex
  exact ⟨f, fd, ps, hm, F.ok S len (hbody f), hx, b⟩
/-- a def that may raise -/
structure CalX (P : Program) (w : World) (K : PySem.W.Frag) (mg : Str → Option Value) (base : Heap) (k : Nat) (x : Str) (sp : Sp) : Prop where
  ex : ∃ (f : Addr) (fd : FuncData) (ps : List Str), FnOk P w K mg base (L2.CX P w) k f fd ps sp ∧ mg x = some (.ref f) ∧ PySem.W.keepIn K (.ref f) = true ∧ Binds K fd ps []
theorem DefAt.calX {x : Str} {st : Stmt} {N ps : List Str} {k : Nat} {sp : Sp} (d : DefAt K mg x st ps) (S : FnScope N ps (defScope st)) (len : ∀ vs H Q E, sp vs H Q E → vs.length = ps.length)
    (hbody : ∀ (f : Addr) (cdv : Value) (A : Around) (outer : List Env) (s : Shared) (H : Hp) (vs : List V) (Q : VK) (E : XK), Room k (A.deeper (envOfC x (defScope st) s.heap.objs.size f cdv)) → sp vs H Q E →
      ∃ t, PSs (cxOf (L2.CX P w) P w K mg base N x (defScope st) f cdv A outer s H E) (defBody st) t ∧ t { nx := fun _ H' => Q .non H', rt := Q } (start N vs) H) : CalX P w K mg base (k + 1) x sp := by
  obtain ⟨f, fd, F, hm, b⟩ := d.ex
  exact ⟨f, fd, ps, F.okX S len (hbody f), hm, F.kp, b⟩
theorem DefAtA.calX {x nm : Str} {st : Stmt} {N ps : List Str} {k : Nat} {sp : Sp} (d : DefAtA K mg x nm st ps) (S : FnScope N ps (defScope st)) (len : ∀ vs H Q E, sp vs H Q E → vs.length = ps.length)
    (hbody : ∀ (f : Addr) (cdv : Value) (A : Around) (outer : List Env) (s : Shared) (H : Hp) (vs : List V) (Q : VK) (E : XK), Room k (A.deeper (envOfC nm (defScope st) s.heap.objs.size f cdv)) → sp vs H Q E →
      ∃ t, PSs (cxOf (L2.CX P w) P w K mg base N nm (defScope st) f cdv A outer s H E) (defBody st) t ∧ t { nx := fun _ H' => Q .non H', rt := Q } (start N vs) H) : CalX P w K mg base (k + 1) x sp := by
  obtain ⟨f, fd, F, hm, b⟩ := d.ex
  exact ⟨f, fd, ps, F.okX S len (hbody f), hm, F.kp, b⟩
end
section
variable {X : Cx} {k j : Nat} {C : Addr} {x m : Str} {sp : Sp} {p pos apos : Pos} {e o : Expr} {es : List Expr} {ta : TE} {t : TA}
theorem pe_c (c : Cal X.prog X.w X.K X.mg X.base k x sp) (hr : Room j X.A) (hk : k ≤ j) (hg : Gl X x) (ha : PA X (e :: es) t)
    (hdb : (x == ("__debug__" : Str)) = false := by decide) (he : starEach (e :: es) X.env = (false, eval e X.env) :: starEach es X.env := by rfl) (hpl : (backTo pos (starEach es X.env)).any (·.1) = false := by rfl) :
    PE X (.Call (.Name x p) (e :: es) [] pos) (tCall sp [] E0 t) := by
  obtain ⟨f, fd, ps, F, hm, kp, b⟩ := c.ex
  exact pe_call F (hr.mono hk) hg hm kp b .nil pass0 ha hdb he hpl
theorem pe_c0 (c : Cal X.prog X.w X.K X.mg X.base k x sp) (hr : Room j X.A) (hk : k ≤ j) (hg : Gl X x)
    (hdb : (x == ("__debug__" : Str)) = false := by decide) :
    PE X (.Call (.Name x p) [] [] pos) (tCall sp [] E0 tNil) := by
  obtain ⟨f, fd, ps, F, hm, kp, b⟩ := c.ex
  exact pe_call0 F (hr.mono hk) hg hm kp b .nil pass0 hdb
theorem pe_mk (c : Mak X.prog X.w X.K X.mg X.base k x C sp) (hr : Room j X.A) (hk : k + 1 ≤ j) (hg : Gl X x) (ha : PA X (e :: es) t)
    (hdb : (x == ("__debug__" : Str)) = false := by decide) (he : starEach (e :: es) X.env = (false, eval e X.env) :: starEach es X.env := by rfl) (hpl : (backTo pos (starEach es X.env)).any (·.1) = false := by rfl) :
    PE X (.Call (.Name x p) (e :: es) [] pos) (tMake C sp [] E0 t) := by
  obtain ⟨f, fd, ps, M, F, hm, b⟩ := c.ex
  exact pe_make M F (hr.mono hk) hg hm b .nil pass0 ha hdb he hpl
theorem pe_mk0 (c : Mak X.prog X.w X.K X.mg X.base k x C sp) (hr : Room j X.A) (hk : k + 1 ≤ j) (hg : Gl X x)
    (hdb : (x == ("__debug__" : Str)) = false := by decide) : PE X (.Call (.Name x p) [] [] pos) (tMake C sp [] E0 tNil) := by
  obtain ⟨f, fd, ps, M, F, hm, b⟩ := c.ex
  exact pe_make0 M F (hr.mono hk) hg hm b .nil pass0 hdb
theorem pe_mt {pl : Sem Bool} (c : Met X.prog X.w X.K X.mg X.base k C m sp) (hr : Room j X.A) (hk : k ≤ j) (he : PE X o ta) (ha : PA X (e :: es) t)
    (hst : starEach (e :: es) X.env = (false, eval e X.env) :: starEach es X.env := by rfl) (hpl : (backTo pos (starEach es X.env)).any (·.1) = false := by rfl)
    (ht : eval (.Call (.Attribute o m apos) (e :: es) [] pos) X.env = (do
      let ov ← eval o X.env
      standAt apos.atName
      let (f, first) ← holding [ov] (getMethod ov m pl)
      callWith pos f first (backTo pos (starEach (e :: es) X.env)) (backToKw pos (keywordEach [] X.env))) := by rfl) :
    PE X (.Call (.Attribute o m apos) (e :: es) [] pos) (tMeth C m sp [] E0 ta t) := by
  obtain ⟨f, fd, ps, hc, hm, F, b⟩ := c.ex
  exact pe_meth (pl := pl) he hc hm F (hr.mono hk) b .nil pass0 ha hst hpl ht
theorem pe_mt0 {pl : Sem Bool} (c : Met X.prog X.w X.K X.mg X.base k C m sp) (hr : Room j X.A) (hk : k ≤ j) (he : PE X o ta)
    (ht : eval (.Call (.Attribute o m apos) [] [] pos) X.env = (do
      let ov ← eval o X.env
      standAt apos.atName
      let (f, first) ← holding [ov] (getMethod ov m pl)
      callWith pos f first (backTo pos (starEach [] X.env)) (backToKw pos (keywordEach [] X.env))) := by rfl) :
    PE X (.Call (.Attribute o m apos) [] [] pos) (tMeth C m sp [] E0 ta tNil) := by
  obtain ⟨f, fd, ps, hc, hm, F, b⟩ := c.ex
  exact pe_meth0 (pl := pl) he hc hm F (hr.mono hk) b .nil pass0 ht
/-- a call of a def that may raise, where nothing is raised -/
theorem pe_x0 (c : CalX X.prog X.w X.K X.mg X.base k x sp) (hr : Room j X.A) (hk : k ≤ j) (hg : Gl X x) (ha : PA X (e :: es) t)
    (hdb : (x == ("__debug__" : Str)) = false := by decide) (he : starEach (e :: es) X.env = (false, eval e X.env) :: starEach es X.env := by rfl) (hpl : (backTo pos (starEach es X.env)).any (·.1) = false := by rfl) :
    PE X (.Call (.Name x p) (e :: es) [] pos) (tCall sp [] E0 t) := by
  obtain ⟨f, fd, ps, F, hm, kp, b⟩ := c.ex
  exact pe_call F (hr.mono hk) hg hm kp b .nil passL ha hdb he hpl
end
/-- a built-in class as a value -/
theorem pe_ty {X : Cx} {x : Str} {pos : Pos} (n : String) (hg : Gl X x) (hm : X.mg x = none) (hv : bootBuiltins x = some (.type n)) (hn : x ≠ "__name__" := by decide) (hdb : (x == ("__debug__" : Str)) = false := by decide) : PE X (.Name x pos) (tC (.ty n)) :=
  pe_bltn hg hm hv rfl hn hdb
/-- a constant of the module -/
theorem pe_gc {X : Cx} {x : Str} {pos : Pos} {v : V} (hg : Gl X x) (h : ∃ u, X.mg x = some u ∧ RelV v u) (hdb : (x == ("__debug__" : Str)) = false := by decide) : PE X (.Name x pos) (tC v) := by
  obtain ⟨u, h1, h2⟩ := h
  exact pe_glob hg h1 h2 hdb
/-! ### heaps -/
theorem hp_new {H : Hp} {a b : Addr} {o o' : HO} (h : H a = none) (h' : H b = some o') : upd H a o b = some o' := by
  rw [upd_ne (ne_of_none h' h)]; exact h'
theorem hp_same {H H' : Hp} {b : Addr} {o : HO} (e : Same H H') (h : H b = some o) : H' b = some o := e b o h
theorem same_upd {H H' : Hp} {a : Addr} {o : HO} (e : Same H H') (h : H' a = none) : Same H (upd H' a o) := fun b o' q => hp_new h (e b o' q)
theorem same_new {H : Hp} {a : Addr} {o : HO} (h : H a = none) : Same H (upd H a o) := fun b o' q => hp_new h q
theorem cxOf_K {CX : CXT} {P : Program} {w : World} {K : PySem.W.Frag} {mg : Str → Option Value} {base : Heap} {N : List Str} {qual : Str} {scope : Scope} {f : Addr} {cd : Value} {A : Around} {outer : List Env} {s : Shared} {H : Hp} {E : XK} : (cxOf CX P w K mg base N qual scope f cd A outer s H E).nox.K = K := rfl
theorem cxOf_K' {CX : CXT} {P : Program} {w : World} {K : PySem.W.Frag} {mg : Str → Option Value} {base : Heap} {N : List Str} {qual : Str} {scope : Scope} {f : Addr} {cd : Value} {A : Around} {outer : List Env} {s : Shared} {H : Hp} {E : XK} : (cxOf CX P w K mg base N qual scope f cd A outer s H E).K = K := rfl
theorem cxOf_mg {CX : CXT} {P : Program} {w : World} {K : PySem.W.Frag} {mg : Str → Option Value} {base : Heap} {N : List Str} {qual : Str} {scope : Scope} {f : Addr} {cd : Value} {A : Around} {outer : List Env} {s : Shared} {H : Hp} {E : XK} : (cxOf CX P w K mg base N qual scope f cd A outer s H E).nox.mg = mg := rfl
theorem cxOf_mg' {CX : CXT} {P : Program} {w : World} {K : PySem.W.Frag} {mg : Str → Option Value} {base : Heap} {N : List Str} {qual : Str} {scope : Scope} {f : Addr} {cd : Value} {A : Around} {outer : List Env} {s : Shared} {H : Hp} {E : XK} : (cxOf CX P w K mg base N qual scope f cd A outer s H E).mg = mg := rfl
/-- a new tuple, a new list: all that stood stands -/
def NewT (H : Hp) (xs : List V) (Q : VK) : Prop := ∀ p H', H p = none → Same H H' → H' p = some (.tup xs) → Q (.ref p) H'
def NewL (H : Hp) (xs : List V) (Q : VK) : Prop := ∀ p H', H p = none → Same H H' → H' p = some (.lst xs) → Q (.ref p) H'
theorem NewT.at {H : Hp} {xs : List V} {Q : VK} (q : NewT H xs Q) (p : Addr) (h : H p = none) : Q (.ref p) (upd H p (.tup xs)) := q p _ h (same_new h) upd_same
theorem NewL.at {H : Hp} {xs : List V} {Q : VK} (q : NewL H xs Q) (p : Addr) (h : H p = none) : Q (.ref p) (upd H p (.lst xs)) := q p _ h (same_new h) upd_same
theorem NewT.of {H H' : Hp} {xs : List V} {Q : VK} (q : NewT H xs Q) (e : Same H H') : NewT H' xs Q := fun p H2 h s x => q p H2 (e.free h) (e.trans s) x
theorem NewL.of {H H' : Hp} {xs : List V} {Q : VK} (q : NewL H xs Q) (e : Same H H') : NewL H' xs Q := fun p H2 h s x => q p H2 (e.free h) (e.trans s) x
/-! ### readings by name -/
section
variable {X : Cx}
def aAdd (K : PySem.W.Frag) : R2 := fun x y H Q => rI0 (fun i j => .int (i + j)) x y H Q ∨ (∃ i j, x = .str i ∧ y = .str j ∧ i.length + j.length ≤ sizeLine ∧ Q (.str (i ++ j)) H) ∨ rCat x y H Q ∨ rCatA K x y H Q
theorem op_addA : OpR X (binaryOp .Add) (aAdd X.K) := op_add.or (op_add_str.or (op_cat.or op_catA))
def aMul : R2 := fun x y H Q => rI CMulW (fun i j => .int (i * j)) x y H Q ∨ rRep x y H Q
theorem op_mulA : OpR X (binaryOp .Mult) aMul := op_mulW.or op_rep
def aEq (K : PySem.W.Frag) : R2 := fun x y H Q => rEq x y H Q ∨ rEqD K x y H Q
theorem op_eqA {k : Nat} (hr : Room k X.A) : OpR X (compareOp .Eq) (aEq X.K) := op_eq.or (op_eqD hr.units)
def aNe (K : PySem.W.Frag) : R2 := fun x y H Q => rNe x y H Q ∨ rNeD K x y H Q
theorem op_neA {k : Nat} (hr : Room k X.A) : OpR X (compareOp .NotEq) (aNe X.K) := op_ne.or (op_neD hr.units)
def aLe : R2 := fun x y H Q => rI0 (fun i j => .bl (decide (i ≤ j))) x y H Q ∨ ∃ i j, x = .str i ∧ y = .str j ∧ Q (.bl (!decide (j.cps.toList < i.cps.toList))) H
theorem op_leA : OpR X (compareOp .LtE) aLe := op_le.or op_le_str
def aLt : R2 := fun x y H Q => rI0 (fun i j => .bl (decide (i < j))) x y H Q ∨ ∃ i j, x = .str i ∧ y = .str j ∧ Q (.bl (decide (i.cps.toList < j.cps.toList))) H
theorem op_ltA : OpR X (compareOp .Lt) aLt := op_lt.or op_lt_str
def aIn (K : PySem.W.Frag) : R2 := fun x y H Q => (∃ (c : Nat) (z : Str), x = .str ⟨#[c]⟩ ∧ y = .str z ∧ Q (.bl (decide (c ∈ z.cps.toList))) H) ∨ rIn K false x y H Q
theorem op_inA : OpR X (compareOp .In) (aIn X.K) := op_in_sign.or op_in_seq
def aNotIn (K : PySem.W.Frag) : R2 := fun x y H Q => (∃ (c : Nat) (z : Str), x = .str ⟨#[c]⟩ ∧ y = .str z ∧ Q (.bl (!decide (c ∈ z.cps.toList))) H) ∨ rIn K true x y H Q
theorem op_notInA : OpR X (compareOp .NotIn) (aNotIn X.K) := op_notIn_sign.or op_notIn_seq
def aLen (K : PySem.W.Frag) : List V → Hp → VK → Prop := fun xs H Q => (∃ p ys, xs = [.ref p] ∧ (SqL K H p ys ∨ SqT K H p ys) ∧ Q (.int ys.length) H) ∨ (∃ z, xs = [.str z] ∧ z.length ≤ sizeLine ∧ Q (.int z.length) H) ∨ (∃ a kvs, xs = [V.ref a] ∧ H a = some (.dK kvs) ∧ Q (.int kvs.length) H)
theorem call_lenA : CallR X (.builtin "len") (aLen X.K) := call_len_seq.or (call_len_str.or call_lenD)
def aAbs : List V → Hp → VK → Prop := fun xs H Q => ∃ i, xs = [.int i] ∧ Q (.int (if i < 0 then -i else i)) H
theorem call_absA : CallR X (.builtin "abs") aAbs := call_abs
def aMax2 : List V → Hp → VK → Prop := fun xs H Q => ∃ i j, xs = [.int i, .int j] ∧ Q (.int (if j > i then j else i)) H
theorem call_max2A (hc : X.calm = true) : CallR X (.builtin "max") aMax2 := call_max2 hc
def aMin2 : List V → Hp → VK → Prop := fun xs H Q => ∃ i j, xs = [.int i, .int j] ∧ Q (.int (if j < i then j else i)) H
theorem call_min2A (hc : X.calm = true) : CallR X (.builtin "min") aMin2 := call_min2 hc
def aInt1 : List V → Hp → VK → Prop := fun xs H Q => (∃ i, xs = [.int i] ∧ Q (.int i) H) ∨ ∃ k, xs = [.bl k] ∧ Q (.int (if k then 1 else 0)) H
theorem call_int1A : CallR X (.type "int") aInt1 := call_int1
def aStr1 : List V → Hp → VK → Prop := fun xs H Q => ∃ i, xs = [.int i] ∧ i.natAbs.log2 < 1920 ∧ Q (.str (toString i)) H
theorem call_str1A : CallR X (.type "str") aStr1 := call_str_int
def aList1 (K : PySem.W.Frag) : List V → Hp → VK → Prop := fun xs H Q => ∃ p ys, xs = [.ref p] ∧ (SqL K H p ys ∨ SqT K H p ys) ∧ ∀ l, H l = none → Q (.ref l) (upd H l (.lst ys))
theorem call_list1A : CallR X (.type "list") (aList1 X.K) := call_list_of
def aTuple1 (K : PySem.W.Frag) : List V → Hp → VK → Prop := fun xs H Q => ∃ p ys, xs = [.ref p] ∧ ((SqL K H p ys ∧ ∀ l, H l = none → Q (.ref l) (upd H l (.tup ys))) ∨ (SqT K H p ys ∧ Q (.ref p) H))
theorem call_tuple1A : CallR X (.type "tuple") (aTuple1 X.K) := call_tuple_of
def aTru (K : PySem.W.Frag) (ta : TE) : TT := fun σ H Q => ta σ H fun x H' => ∃ k, TruV K x H' k ∧ Q k H'
theorem pt_tru {a : Expr} {ta : TE} (ha : PE X a ta) (he : ∀ whole, isTrue a X.env whole = (do let v ← whole; standAt a.pos; holding [v] (truthy v))) : PT X a (aTru X.K ta) := pt_truth ha he
def aIsN : R2 := fun x y H Q => y = .non ∧ Q (.bl (decide (x = .non))) H
theorem op_isNA : OpR X (compareOp .Is) aIsN := op_isN
def aNotN : R2 := fun x y H Q => y = .non ∧ Q (.bl (!decide (x = .non))) H
theorem op_notNA : OpR X (compareOp .IsNot) aNotN := op_notN
end
/-! ### one step of a reading -/
section
variable {K : PySem.W.Frag} {σ : L2.St} {H : Hp} {N B C : L2.St → Hp → Prop} {R : VK} {t u : TS} {c d : TT} {ta tb te tc : TE} {tr : TA} {Q : VK} {g : TG} {i j : Nat} {v x y : V} {r r' : R2}
theorem L_seq (h : t ⟨u ⟨N, R, B, C⟩, R, B, C⟩ σ H) : tSeq t u ⟨N, R, B, C⟩ σ H := h
theorem L_next (h : N σ H) : tNext ⟨N, R, B, C⟩ σ H := h
theorem L_brk (h : B σ H) : tBreak ⟨N, R, B, C⟩ σ H := h
theorem L_cont (h : C σ H) : tCont ⟨N, R, B, C⟩ σ H := h
theorem L_ret (h : te σ H R) : tRet te ⟨N, R, B, C⟩ σ H := h
theorem L_retN (h : R .non H) : tRetN ⟨N, R, B, C⟩ σ H := h
theorem L_drop (h : te σ H fun _ H1 => N σ H1) : tDrop te ⟨N, R, B, C⟩ σ H := h
theorem L_asg (h : te σ H fun x H1 => g x σ H1 N) : tAsg te g ⟨N, R, B, C⟩ σ H := h
theorem L_gname {Q : L2.St → Hp → Prop} (h : Q (σ.set i (some v)) H) : gName i v σ H Q := h
theorem L_aug {ti : TIp} (hx : σ[i]? = some (some x)) (h : te σ H fun y H1 => ti x y H1 fun z H2 => N (σ.set i (some z)) H2) : tAug i te ti ⟨N, R, B, C⟩ σ H := ⟨x, hx, h⟩
theorem L_ipI {f : Int → Int → Int} {a b : Int} (h : Q (.int (f a b)) H) : ipI f (.int a) (.int b) H Q := ⟨a, b, rfl, rfl, h⟩
theorem L_ifS (h : c σ H fun b H1 => if b = true then t ⟨N, R, B, C⟩ σ H1 else u ⟨N, R, B, C⟩ σ H1) : tIfS c t u ⟨N, R, B, C⟩ σ H := h
theorem L_par (h : tr σ H fun vs H1 => ∃ v w, vs = [v, w] ∧ N ((σ.set i (some v)).set j (some w)) H1) : tPar i j tr ⟨N, R, B, C⟩ σ H := h
theorem L_par3 {l : Nat} (h : tr σ H fun vs H1 => ∃ u v w, vs = [u, v, w] ∧ N (((σ.set i (some u)).set j (some v)).set l (some w)) H1) : tPar3 i j l tr ⟨N, R, B, C⟩ σ H := h
theorem L_vs2 {Q : V → V → Prop} (h : Q x y) : ∃ v w, [x, y] = [v, w] ∧ Q v w := ⟨x, y, rfl, h⟩
theorem L_vs3 {z : V} {Q : V → V → V → Prop} (h : Q x y z) : ∃ u v w, [x, y, z] = [u, v, w] ∧ Q u v w := ⟨x, y, z, rfl, h⟩
theorem L_var (h : σ[i]? = some (some v)) (q : Q v H) : tVar i σ H Q := ⟨v, h, q⟩
theorem L_c (q : Q v H) : tC v σ H Q := q
theorem L_op (h : ta σ H fun x H1 => tb σ H1 fun y H2 => r x y H2 Q) : tOp r ta tb σ H Q := h
theorem L_un {r : V → Hp → VK → Prop} (h : ta σ H fun x H1 => r x H1 Q) : tUn r ta σ H Q := h
theorem L_rU {g : Int → V} {i : Int} (q : Q (g i) H) : rU g (.int i) H Q := ⟨i, rfl, q⟩
theorem L_I0 {g : Int → Int → V} {i j : Int} (q : Q (g i j) H) : rI0 g (.int i) (.int j) H Q := ⟨i, j, rfl, rfl, q⟩
theorem L_I {C : Int → Int → Prop} {g : Int → Int → V} {i j : Int} (hc : C i j) (q : Q (g i j) H) : rI C g (.int i) (.int j) H Q := ⟨i, j, rfl, rfl, hc, q⟩
theorem L_addI {i j : Int} (q : Q (.int (i + j)) H) : aAdd K (.int i) (.int j) H Q := .inl ⟨i, j, rfl, rfl, q⟩
theorem L_addS {a b : Str} (hl : a.length + b.length ≤ sizeLine) (q : Q (.str (a ++ b)) H) : aAdd K (.str a) (.str b) H Q := .inr (.inl ⟨a, b, rfl, rfl, hl, q⟩)
theorem L_addL {a b : Addr} {xs ys : List V} (ha : H a = some (.lst xs)) (hb : H b = some (.lst ys)) (hl : xs.length + ys.length ≤ sizeLine) (q : ∀ p, H p = none → Q (.ref p) (upd H p (.lst (xs ++ ys)))) : aAdd K (.ref a) (.ref b) H Q := .inr (.inr (.inl ⟨a, b, xs, ys, rfl, rfl, ha, hb, hl, q⟩))
theorem L_mulI {i j : Int} (hc : CMulW i j) (q : Q (.int (i * j)) H) : aMul (.int i) (.int j) H Q := .inl ⟨i, j, rfl, rfl, hc, q⟩
theorem L_eqI {i j : Int} (q : Q (.bl (decide (i = j))) H) : aEq K (.int i) (.int j) H Q := .inl ⟨rfl, by rw [show decide (V.int i = V.int j) = decide (i = j) by simp]; exact q⟩
theorem L_eqS {i j : Str} (q : Q (.bl (decide (i = j))) H) : aEq K (.str i) (.str j) H Q := .inl ⟨rfl, by rw [show decide (V.str i = V.str j) = decide (i = j) by simp]; exact q⟩
theorem L_eqB {i j : Bool} (q : Q (.bl (decide (i = j))) H) : aEq K (.bl i) (.bl j) H Q := .inl ⟨rfl, by rw [show decide (V.bl i = V.bl j) = decide (i = j) by simp]; exact q⟩
theorem L_neI {i j : Int} (q : Q (.bl (!decide (i = j))) H) : aNe K (.int i) (.int j) H Q := .inl ⟨rfl, by rw [show decide (V.int i = V.int j) = decide (i = j) by simp]; exact q⟩
theorem L_neS {i j : Str} (q : Q (.bl (!decide (i = j))) H) : aNe K (.str i) (.str j) H Q := .inl ⟨rfl, by rw [show decide (V.str i = V.str j) = decide (i = j) by simp]; exact q⟩
theorem L_eqD {d e : PyData} (hx : Dp K H x d) (hy : Dp K H y e) (sd : SeqAt.shaped d = true) (se : SeqAt.shaped e = true) (q : Q (.bl (PyData.eqv d e)) H) : aEq K x y H Q := .inr ⟨d, e, hx, hy, sd, se, q⟩
theorem L_neD {d e : PyData} (hx : Dp K H x d) (hy : Dp K H y e) (sd : SeqAt.shaped d = true) (se : SeqAt.shaped e = true) (q : Q (.bl (!PyData.eqv d e)) H) : aNe K x y H Q := .inr ⟨d, e, hx, hy, sd, se, q⟩
theorem L_leI {i j : Int} (q : Q (.bl (decide (i ≤ j))) H) : aLe (.int i) (.int j) H Q := .inl ⟨i, j, rfl, rfl, q⟩
theorem L_leS {i j : Str} (q : Q (.bl (!decide (j.cps.toList < i.cps.toList))) H) : aLe (.str i) (.str j) H Q := .inr ⟨i, j, rfl, rfl, q⟩
theorem L_ltI {i j : Int} (q : Q (.bl (decide (i < j))) H) : aLt (.int i) (.int j) H Q := .inl ⟨i, j, rfl, rfl, q⟩
theorem L_isN (q : Q (.bl (decide (x = .non))) H) : aIsN x .non H Q := ⟨rfl, q⟩
theorem L_notN (q : Q (.bl (!decide (x = .non))) H) : aNotN x .non H Q := ⟨rfl, q⟩
theorem L_inC {a : Nat} {z : Str} (q : Q (.bl (decide (a ∈ z.cps.toList))) H) : aIn K (.str ⟨#[a]⟩) (.str z) H Q := .inl ⟨a, z, rfl, rfl, q⟩
theorem L_notInC {a : Nat} {z : Str} (q : Q (.bl (!decide (a ∈ z.cps.toList))) H) : aNotIn K (.str ⟨#[a]⟩) (.str z) H Q := .inl ⟨a, z, rfl, rfl, q⟩
theorem L_fld {f : Str} (h : ta σ H fun x H1 => ∃ a C dx fs v, x = .ref a ∧ H1 a = some (.ins C dx fs) ∧ Cls K C ∧ NoAttr K C f ∧ fs.lookup f = some v ∧ Q v H1) : tFld K ta f σ H Q := h
theorem L_fldv {a C dx : Addr} {fs : List (Str × V)} {f : Str} {Q : V → Prop} (h : H a = some (.ins C dx fs)) (cl : Cls K C) (n : NoAttr K C f) (l : fs.lookup f = some v) (q : Q v) :
    ∃ a' C dx fs v, V.ref a = V.ref a' ∧ H a' = some (.ins C dx fs) ∧ Cls K C ∧ NoAttr K C f ∧ fs.lookup f = some v ∧ Q v := ⟨a, C, dx, fs, v, rfl, h, cl, n, l, q⟩
theorem L_tTest {Q : Bool → Hp → Prop} (h : te σ H fun x H' => ∃ k, x = .bl k ∧ Q k H') : tTest te σ H Q := h
theorem L_tB {Q : Bool → Hp → Prop} (h : te σ H fun x H' => ∃ k, x = .bl k ∧ Q k H') : tB te σ H Q := h
theorem L_k {b : Bool} {Q : Bool → Prop} (q : Q b) : ∃ k, V.bl b = V.bl k ∧ Q k := ⟨b, rfl, q⟩
theorem L_tru {Q : Bool → Hp → Prop} (h : te σ H fun x H' => ∃ k, TruV K x H' k ∧ Q k H') : aTru K te σ H Q := h
theorem L_truB {b : Bool} {Q : Bool → Prop} (q : Q b) : ∃ k, TruV K (.bl b) H k ∧ Q k := ⟨b, rfl, q⟩
theorem L_truI {i : Int} {Q : Bool → Prop} (q : Q (i != 0)) : ∃ k, TruV K (.int i) H k ∧ Q k := ⟨_, rfl, q⟩
theorem L_and {Q : Bool → Hp → Prop} (h : c σ H fun b H1 => if b = true then d σ H1 Q else Q false H1) : tAnd c d σ H Q := h
theorem L_or {Q : Bool → Hp → Prop} (h : c σ H fun b H1 => if b = true then Q true H1 else d σ H1 Q) : tOr c d σ H Q := h
theorem L_not {Q : Bool → Hp → Prop} (h : c σ H fun b H1 => Q (!b) H1) : tNot c σ H Q := h
theorem L_andV (h : ta σ H fun x H1 => ∃ c, x = .bl c ∧ if c = true then tb σ H1 Q else Q (.bl false) H1) : tAndV ta tb σ H Q := h
theorem L_orV (h : ta σ H fun x H1 => ∃ c, x = .bl c ∧ if c = true then Q (.bl true) H1 else tb σ H1 Q) : tOrV ta tb σ H Q := h
theorem L_notV (h : ta σ H fun x H1 => ∃ c, x = .bl c ∧ Q (.bl (!c)) H1) : tNotV ta σ H Q := h
theorem L_ifE (h : c σ H fun b H1 => if b = true then ta σ H1 Q else tb σ H1 Q) : tIf c ta tb σ H Q := h
theorem L_chain (h : ta σ H fun x H1 => tb σ H1 fun y H2 => r x y H2 fun z H3 => ∃ k, z = .bl k ∧ (if k = true then tc σ H3 fun w' H4 => r' y w' H4 Q else Q (.bl false) H3)) : tChain r r' ta tb tc σ H Q := h
theorem L_T {A B : Prop} (a : A) : if true = true then A else B := by rw [if_pos rfl]; exact a
theorem L_F {A B : Prop} (b : B) : if false = true then A else B := by rw [if_neg Bool.false_ne_true]; exact b
theorem L_dT {p : Prop} [Decidable p] {A B : Prop} (h : p) (a : A) : if decide p = true then A else B := by rw [decide_eq_true h]; exact L_T a
theorem L_dF {p : Prop} [Decidable p] {A B : Prop} (h : ¬ p) (b : B) : if decide p = true then A else B := by rw [decide_eq_false h]; exact L_F b
theorem L_d {p : Prop} [Decidable p] {A B : Prop} (a : p → A) (b : ¬ p → B) : if decide p = true then A else B := by
  by_cases h : p
  · exact L_dT h (a h)
  · exact L_dF h (b h)
theorem L_nd {p : Prop} [Decidable p] {A B : Prop} (a : ¬ p → A) (b : p → B) : if (!decide p) = true then A else B := by
  by_cases h : p
  · rw [decide_eq_true h]; exact L_F (b h)
  · rw [decide_eq_false h]; exact L_T (a h)
theorem L_ndT {p : Prop} [Decidable p] {A B : Prop} (h : ¬ p) (a : A) : if (!decide p) = true then A else B := by rw [decide_eq_false h]; exact L_T a
theorem L_ndF {p : Prop} [Decidable p] {A B : Prop} (h : p) (b : B) : if (!decide p) = true then A else B := by rw [decide_eq_true h]; exact L_F b
theorem L_b {k : Bool} {A B : Prop} (a : k = true → A) (b : k = false → B) : if k = true then A else B := by
  cases k with
  | true => exact L_T (a rfl)
  | false => exact L_F (b rfl)
theorem L_nT {A B : Prop} (b : B) : if (!true) = true then A else B := L_F b
theorem L_nF {A B : Prop} (a : A) : if (!false) = true then A else B := L_T a
theorem L_nil {Q : List V → Hp → Prop} (q : Q [] H) : tNil σ H Q := q
theorem L_cons {Q : List V → Hp → Prop} (h : ta σ H fun x H1 => tr σ H1 fun xs H2 => Q (x :: xs) H2) : tCons ta tr σ H Q := h
theorem L_tup (h : tr σ H fun xs H1 => xs.length ≤ sizeLine ∧ ∀ p, H1 p = none → Q (.ref p) (upd H1 p (.tup xs))) : tTup tr σ H Q := h
theorem L_lst (h : tr σ H fun xs H1 => xs.length ≤ sizeLine ∧ ∀ p, H1 p = none → Q (.ref p) (upd H1 p (.lst xs))) : tLst tr σ H Q := h
theorem L_new {n : Nat} {R : Prop} (hl : n ≤ sizeLine) (q : R) : n ≤ sizeLine ∧ R := ⟨hl, q⟩
theorem L_call {sp : Sp} {E : XK} (h : tr σ H fun vs H1 => sp vs H1 Q E) : tCall sp [] E tr σ H Q := by
  unfold tCall
  simp only [List.append_nil]
  exact h
theorem L_cb {r : List V → Hp → VK → Prop} (h : tr σ H fun vs H1 => r vs H1 Q) : tCB r tr σ H Q := h
theorem L_lenL {a : Addr} {xs : List V} (h : SqL K H a xs) (q : Q (.int xs.length) H) : aLen K [.ref a] H Q := .inl ⟨a, xs, rfl, .inl h, q⟩
theorem L_lenT {a : Addr} {xs : List V} (h : SqT K H a xs) (q : Q (.int xs.length) H) : aLen K [.ref a] H Q := .inl ⟨a, xs, rfl, .inr h, q⟩
theorem L_lenS {z : Str} (h : z.length ≤ sizeLine) (q : Q (.int z.length) H) : aLen K [.str z] H Q := .inr (.inl ⟨z, rfl, h, q⟩)
theorem L_abs {i : Int} (q : Q (.int (if i < 0 then -i else i)) H) : aAbs [.int i] H Q := ⟨i, rfl, q⟩
theorem L_max2 {i j : Int} (q : Q (.int (max i j)) H) : aMax2 [.int i, .int j] H Q := ⟨i, j, rfl, by rw [show (if j > i then j else i) = max i j by omega]; exact q⟩
theorem L_min2 {i j : Int} (q : Q (.int (min i j)) H) : aMin2 [.int i, .int j] H Q := ⟨i, j, rfl, by rw [show (if j < i then j else i) = min i j by omega]; exact q⟩
theorem L_int1 {i : Int} (q : Q (.int i) H) : aInt1 [.int i] H Q := .inl ⟨i, rfl, q⟩
theorem L_int1B {k : Bool} (q : Q (.int (if k then 1 else 0)) H) : aInt1 [.bl k] H Q := .inr ⟨k, rfl, q⟩
theorem L_isi {a n : String} {b : Bool} (hx : TyX K H x (.type a)) (hk : kitB a n = some b) (q : Q (.bl b) H) : rIsi K [x, .ty n] H Q := ⟨x, .ty n, .type a, .type n, b, rfl, .ty n, hx, kit_ty hk, q⟩
theorem L_ixL {p : Addr} {xs : List V} {i : Int} (h : SqL K H p xs) (ha : atI xs i = some v) (q : Q v H) : rIx K (.ref p) (.int i) H Q := .inl ⟨p, xs, i, v, rfl, rfl, h, ha, q⟩
theorem L_ixT {p : Addr} {xs : List V} {i : Int} (h : SqT K H p xs) (ha : atI xs i = some v) (q : Q v H) : rIx K (.ref p) (.int i) H Q := .inr (.inl ⟨p, xs, i, v, rfl, rfl, h, ha, q⟩)
theorem L_ixS {z : Str} {i : Int} {a : Nat} (h : z.length ≤ sizeLine) (ha : atI z.cps.toList i = some a) (q : Q (.str ⟨#[a]⟩) H) : rIx K (.str z) (.int i) H Q := .inr (.inr ⟨z, i, a, rfl, rfl, h, ha, q⟩)
theorem L_bm {T : String} {r : V → List V → Hp → VK → Prop} (h : te σ H fun x H1 => tyV K T x H1 ∧ tr σ H1 fun xs H2 => r x xs H2 Q) : tBM K T r te tr σ H Q := h
theorem L_tyL {a : Addr} {xs : List V} {R : Prop} (h : SqL K H a xs) (q : R) : tyV K "list" (.ref a) H ∧ R := ⟨.inl ⟨rfl, xs, h⟩, q⟩
theorem L_app {a : Addr} {xs : List V} (h : H a = some (.lst xs)) (hl : xs.length < sizeLine) (q : Q .non (upd H a (.lst (xs ++ [v])))) : rAppend (.ref a) [v] H Q := ⟨a, xs, v, rfl, rfl, h, hl, q⟩
theorem L_sum {a : Addr} {ns : List Int} (h : SqL K H a (ns.map V.int)) (q : Q (.int ns.sum) H) : rSum K [.ref a] H Q := ⟨a, ns, rfl, h, q⟩
theorem L_while (W : Nat → L2.St → Hp → Prop) (h0 : ∃ m, W m σ H) (hs : ∀ m σ H, W m σ H → c σ H fun b H1 => if b = true then ∃ M : L2.St → Hp → Prop, (∀ σ' H', M σ' H' → ∃ m', m' < m ∧ W m' σ' H') ∧ t ⟨M, R, N, M⟩ σ H1 else N σ H1) : tWhile c t ⟨N, R, B, C⟩ σ H := ⟨W, h0, hs⟩
theorem L_N {W : Nat → L2.St → Hp → Prop} {m : Nat} (h : t ⟨fun σ' H' => ∃ m', m' < m ∧ W m' σ' H', R, N, fun σ' H' => ∃ m', m' < m ∧ W m' σ' H'⟩ σ H) :
    ∃ M : L2.St → Hp → Prop, (∀ σ' H', M σ' H' → ∃ m', m' < m ∧ W m' σ' H') ∧ t ⟨M, R, N, M⟩ σ H := ⟨_, fun _ _ h => h, h⟩
theorem L_cut {Mid : L2.St → Hp → Prop} (h : t ⟨Mid, R, B, C⟩ σ H) (k : ∀ σ' H', Mid σ' H' → u ⟨N, R, B, C⟩ σ' H') : Evl.tCut t u ⟨N, R, B, C⟩ σ H := ⟨Mid, h, k⟩
theorem L_for {wi : TI} (h : wi σ H fun J H1 => ∃ W : Nat → Nat → L2.St → Hp → Prop, (∃ m, W 0 m σ H1) ∧ ∀ i m σ H, W i m σ H →
      (J.stop i H ∧ N σ H) ∨ (J.go i H ∧ ∃ M : L2.St → Hp → Prop, (∀ σ' H', M σ' H' → ∃ m', m' < m ∧ W (i + 1) m' σ' H') ∧ ∀ x H', J.yld i H x H' → g x σ H' fun σ2 H2 => t ⟨M, R, N, M⟩ σ2 H2)) : tFor wi g t ⟨N, R, B, C⟩ σ H := h
theorem L_iRng1 {R : It → Hp → Prop} (h : tr σ H fun vs H1 => ∃ j : Int, vs = [.int j] ∧ -(2 ^ 62) ≤ j ∧ j < 2 ^ 62 ∧ R (Itr 0 j.toNat) H1) : iRng1 tr σ H R := h
theorem L_iRng2 {R : It → Hp → Prop} (h : tr σ H fun vs H1 => ∃ i j : Int, vs = [.int i, .int j] ∧ (-(2 ^ 62) ≤ i ∧ i < 2 ^ 62 ∧ -(2 ^ 62) ≤ j ∧ j < 2 ^ 62) ∧ R (Itr i (j - i).toNat) H1) : iRng2 tr σ H R := h
theorem L_iList {R : It → Hp → Prop} (h : te σ H fun x H1 => ∃ a, x = .ref a ∧ (∃ xs, SqL K H1 a xs) ∧ R (Itl K a) H1) : iList K te σ H R := h
theorem L_iTup {R : It → Hp → Prop} (h : te σ H fun x H1 => ∃ a, x = .ref a ∧ (∃ xs, SqT K H1 a xs) ∧ R (Itt K a) H1) : iTup K te σ H R := h
theorem L_r1 {n : Int} {R : Int → Prop} (h1 : -(2 ^ 62) ≤ n) (h2 : n < 2 ^ 62) (q : R n) : ∃ j : Int, [V.int n] = [V.int j] ∧ -(2 ^ 62) ≤ j ∧ j < 2 ^ 62 ∧ R j := ⟨n, rfl, h1, h2, q⟩
theorem L_r2 {a n : Int} {R : Int → Int → Prop} (h : -(2 ^ 62) ≤ a ∧ a < 2 ^ 62 ∧ -(2 ^ 62) ≤ n ∧ n < 2 ^ 62) (q : R a n) : ∃ i j : Int, [V.int a, V.int n] = [V.int i, V.int j] ∧ (-(2 ^ 62) ≤ i ∧ i < 2 ^ 62 ∧ -(2 ^ 62) ≤ j ∧ j < 2 ^ 62) ∧ R i j := ⟨a, n, rfl, h, q⟩
theorem L_rl {a : Addr} {xs : List V} {R : Addr → Prop} (h : SqL K H a xs) (q : R a) : ∃ b, V.ref a = V.ref b ∧ (∃ xs, SqL K H b xs) ∧ R b := ⟨a, rfl, ⟨xs, h⟩, q⟩
theorem L_rt {a : Addr} {xs : List V} {R : Addr → Prop} (h : SqT K H a xs) (q : R a) : ∃ b, V.ref a = V.ref b ∧ (∃ xs, SqT K H b xs) ∧ R b := ⟨a, rfl, ⟨xs, h⟩, q⟩
end
theorem sz_dec {n : Nat} (h : n ≤ 1000000) : n ≤ sizeLine := Nat.le_trans h (by decide)
theorem sz_lt {n : Nat} (h : n < 1000000) : n < sizeLine := Nat.lt_of_lt_of_le h (by decide)
/-! ### sizes of ints -/
/-- less than n bits -/
def Bd (n : Nat) (i : Int) : Prop := i.natAbs < 2 ^ n
theorem Bd.mono {n m : Nat} {i : Int} (h : Bd n i) (hm : n ≤ m) : Bd m i := Nat.lt_of_lt_of_le h (Nat.pow_le_pow_right (by decide) hm)
theorem Bd.mul {n m : Nat} {i j : Int} (h : Bd n i) (k : Bd m j) : Bd (n + m) (i * j) := wide_lt h k
theorem Bd.add {n m : Nat} {i j : Int} (h : Bd n i) (k : Bd m j) : Bd (max n m + 1) (i + j) := by
  have a := h.mono (Nat.le_max_left n m)
  have b := k.mono (Nat.le_max_right n m)
  unfold Bd at *
  rw [Nat.pow_succ]
  have := Int.natAbs_add_le i j
  omega
theorem Bd.neg {n : Nat} {i : Int} (h : Bd n i) : Bd n (-i) := by unfold Bd at *; rw [Int.natAbs_neg]; exact h
theorem Bd.sub {n m : Nat} {i j : Int} (h : Bd n i) (k : Bd m j) : Bd (max n m + 1) (i - j) := by
  rw [Int.sub_eq_add_neg]; exact h.add k.neg
theorem Bd.cmul {n m : Nat} {i j : Int} (h : Bd n i) (k : Bd m j) (hz : n + m + 2 ≤ 1000000 := by decide) : CMulW i j :=
  wide_mul (h.mono (Nat.le_succ n)) (k.mono (Nat.le_succ m)) (Nat.succ_pos _) (Nat.succ_pos _) (by omega)
theorem Bd.cdiv {n : Nat} {i j : Int} (k : Bd n j) (h : 0 < j) (hz : n + 1 ≤ 9000 := by decide) : CDivW i j := wide_div h (k.mono (Nat.le_succ n)) (Nat.succ_pos _) hz
theorem bd_lit {i : Int} (h : -4294967296 < i ∧ i < 4294967296) : Bd 32 i := by
  unfold Bd
  have : (2 : Nat) ^ 32 = 4294967296 := by decide
  omega
theorem bd_64 {i : Int} (h : -18446744073709551616 < i ∧ i < 18446744073709551616) : Bd 64 i := by
  unfold Bd
  have : (2 : Nat) ^ 64 = 18446744073709551616 := by decide
  omega
/-- an item of the script, or what stands in its place -/
def cellAt (ns : List Int) (k d : Int) : Int := if k < (ns.length : Int) then ns.getD k.toNat 0 else d
theorem cellAt_in {ns : List Int} {k d : Int} (h0 : 0 ≤ k) (h : k < (ns.length : Int)) : atI (ns.map V.int) k = some (V.int (cellAt ns k d)) := by
  obtain ⟨j, rfl⟩ : ∃ j : Nat, k = (j : Int) := ⟨k.toNat, by omega⟩
  have hl : j < ns.length := by omega
  unfold cellAt
  rw [if_pos h]
  refine atI_nat ?_
  rw [List.getElem?_map, List.getElem?_eq_getElem hl]
  simp [List.getD, List.getElem?_eq_getElem hl]
theorem cellAt_out {ns : List Int} {k d : Int} (h : ¬ k < (ns.length : Int)) : cellAt ns k d = d := if_neg h
theorem cellAt_mem {ns : List Int} {k d : Int} (h0 : 0 ≤ k) : cellAt ns k d ∈ ns ∨ cellAt ns k d = d := by
  unfold cellAt
  split
  · rename_i h
    have hl : k.toNat < ns.length := by omega
    left
    simp [List.getD, List.getElem?_eq_getElem hl]
  · exact .inr rfl
theorem _root_.L2.Same.seqT {K : PySem.W.Frag} {H H' : Hp} {a : Addr} {xs : List V} (e : Same H H') (h : SqT K H a xs) : SqT K H' a xs := by
  rcases h with (h | ⟨o, h⟩) | h
  · exact .inl (.inl (e _ _ h))
  · exact .inl (.inr ⟨o, e _ _ h⟩)
  · exact .inr h
/-! ### what is walked: more -/
section
variable {K : PySem.W.Frag} {σ : L2.St} {H : Hp} {te : TE} {tr : TA} {Q : VK} {g : TG} {tt : TT}
theorem L_yes {Q : Bool → Hp → Prop} (q : Q true H) : tYes σ H Q := q
theorem L_iZip {R : It → Hp → Prop} (h : tr σ H fun vs H1 => ∃ a b xs ys, vs = [.ref a, .ref b] ∧ SqL K H1 a xs ∧ SqL K H1 b ys ∧ R (Itz K a b) H1) : iZip K tr σ H R := h
theorem L_iEnum {R : It → Hp → Prop} (h : tr σ H fun vs H1 => ∃ a xs, vs = [.ref a] ∧ SqL K H1 a xs ∧ R (Ite K a) H1) : iEnum K tr σ H R := h
theorem L_iStr {R : It → Hp → Prop} (h : te σ H fun v H1 => ∃ x, v = .str x ∧ R (Its x) H1) : iStr te σ H R := h
theorem L_iRng3 {R : It → Hp → Prop} (h : tr σ H fun vs H1 => ∃ (i j c : Int) (n : Nat), vs = [.int i, .int j, .int c] ∧ RgC i j c n ∧ R (Itc i c n) H1) : iRng3 tr σ H R := h
theorem L_rz {a b : Addr} {xs ys : List V} {R : Addr → Addr → Prop} (h1 : SqL K H a xs) (h2 : SqL K H b ys) (q : R a b) : ∃ a' b' xs ys, [V.ref a, V.ref b] = [.ref a', .ref b'] ∧ SqL K H a' xs ∧ SqL K H b' ys ∧ R a' b' := ⟨a, b, xs, ys, rfl, h1, h2, q⟩
theorem L_re {a : Addr} {xs : List V} {R : Addr → Prop} (h1 : SqL K H a xs) (q : R a) : ∃ a' xs, [V.ref a] = [.ref a'] ∧ SqL K H a' xs ∧ R a' := ⟨a, xs, rfl, h1, q⟩
theorem L_rs {z : Str} {R : Str → Prop} (q : R z) : ∃ x, V.str z = .str x ∧ R x := ⟨z, rfl, q⟩
theorem L_r3 {i j c : Int} {n : Nat} {R : Int → Int → Nat → Prop} (h : RgC i j c n) (q : R i c n) : ∃ (i' j' c' : Int) (n : Nat), [V.int i, V.int j, V.int c] = [.int i', .int j', .int c'] ∧ RgC i' j' c' n ∧ R i' c' n := ⟨i, j, c, n, rfl, h, q⟩
theorem L_lc {wi : TI} {vs : List Nat} (h : wi σ H fun J H1 => ∀ D, H1 D = none → ∃ W : Nat → Nat → Hp → Prop, (∃ m, W 0 m (upd H1 D (.lst []))) ∧ ∀ i m H, W i m H →
  (J.stop i H ∧ Q (.ref D) H) ∨ (J.go i H ∧ ∃ Nx : Hp → Prop, (∀ H', Nx H' → ∃ m', m' < m ∧ W (i + 1) m' H') ∧ ∀ x H', J.yld i H x H' → g x (wipe σ vs) H' fun σ2 H2 => wipe σ2 vs = wipe σ vs ∧ tt σ2 H2 fun b H3 =>
    if b = true then te σ2 H3 fun y H4 => ∃ acc, H4 D = some (.lst acc) ∧ acc.length < sizeLine ∧ Nx (upd H4 D (.lst (acc ++ [y]))) else Nx H3)) : tLc wi g tt te vs σ H Q := h
theorem fm_succ (f : Nat → Option V) (i : Nat) : (List.range (i + 1)).filterMap f = (List.range i).filterMap f ++ (match f i with | some y => [y] | none => []) := by
  rw [List.range_succ, List.filterMap_append]
  cases h : f i <;> simp [h]
theorem fm_len (f : Nat → Option V) (i : Nat) : ((List.range i).filterMap f).length ≤ i := by
  have := List.length_filterMap_le f (List.range i)
  simpa using this
/-- a comprehension whose things are told one by one: f i is what turn i gives, none where its test is false -/
theorem lc_fm {J : It} {n : Nat} {G : Hp → Prop} {Y : Nat → Hp → V → Hp → Prop} (w : L2.Walk J n G Y) {vs : List Nat} {Qd : Addr → Hp → Prop} (f : Nat → Option V) (hn : n ≤ 1000000) (hG : ∀ H', Same H H' → G H')
    (hs : ∀ i x H2 H' (R : V → Hp → Prop) (R' : Hp → Prop), i < n → Same H H2 → Y i H2 x H' → (∀ y H4, f i = some y → Same H2 H4 → R y H4) → (∀ H3, f i = none → Same H2 H3 → R' H3) →
      g x (wipe σ vs) H' fun σ2 H2 => wipe σ2 vs = wipe σ vs ∧ tt σ2 H2 fun b H3 => if b = true then te σ2 H3 R else R' H3)
    (q : ∀ p H', H p = none → Same H H' → H' p = some (.lst ((List.range n).filterMap f)) → Qd p H') :
    ∀ D, H D = none → ∃ W : Nat → Nat → Hp → Prop, (∃ m, W 0 m (upd H D (.lst []))) ∧ ∀ i m H, W i m H →
      (J.stop i H ∧ Qd D H) ∨ (J.go i H ∧ ∃ Nx : Hp → Prop, (∀ H', Nx H' → ∃ m', m' < m ∧ W (i + 1) m' H') ∧ ∀ x H', J.yld i H x H' → g x (wipe σ vs) H' fun σ2 H2 => wipe σ2 vs = wipe σ vs ∧ tt σ2 H2 fun b H3 =>
        if b = true then te σ2 H3 fun y H4 => ∃ acc, H4 D = some (.lst acc) ∧ acc.length < sizeLine ∧ Nx (upd H4 D (.lst (acc ++ [y]))) else Nx H3) := by
  intro D hD
  refine lc_it w (fun i H2 => Same H H2 ∧ H2 D = some (.lst ((List.range i).filterMap f))) ⟨same_new hD, upd_same⟩ (fun i H2 _ p => hG H2 p.1) ?_ (fun H2 p => q D H2 hD p.1 p.2)
  intro i x H2 H' hi ⟨p1, p2⟩ y
  refine hs i x H2 H' _ _ hi p1 y (fun y H4 e s => ?_) (fun H3 e s => ?_)
  · refine ⟨_, s _ _ p2, sz_lt (by have := fm_len f i; omega), ?_, ?_⟩
    · intro b o hb
      rw [upd_ne (ne_of_none hb hD)]
      exact s _ _ (p1 _ _ hb)
    · rw [fm_succ, e]; exact upd_same
  · refine ⟨p1.trans s, ?_⟩
    rw [fm_succ, e, List.append_nil]
    exact s _ _ p2
theorem fm_map {α : Type} (f : Nat → α) (h : α → V) (n : Nat) : (List.range n).filterMap (fun i => some (h (f i))) = ((List.range n).map f).map h := by
  rw [List.map_map]
  induction n with
  | zero => rfl
  | succ n ih => rw [fm_succ (fun i => some (h (f i))), ih, List.range_succ, List.map_append]; rfl
theorem rgC_up {i j c : Int} (hc : 0 < c) (hc2 : c < 1000000) (hi : -1000000000 ≤ i ∧ i ≤ 1000000000) (hj : -1000000000 ≤ j ∧ j ≤ 1000000000) : RgC i j c (if i < j then ((j - i - 1) / c + 1).toNat else 0) := by
  have e : Builtin.Range.rangeSize i j c = ((if i < j then ((j - i - 1) / c + 1).toNat else 0 : Nat) : Int) := by
    unfold Builtin.Range.rangeSize
    rw [if_pos (by omega)]
    split
    · have : 0 ≤ (j - i - 1) / c := Int.ediv_nonneg (by omega) (by omega)
      omega
    · rfl
  refine ⟨by omega, by omega, ?_, e⟩
  unfold Builtin.Range.small
  rw [e]
  have hz : ((if i < j then ((j - i - 1) / c + 1).toNat else 0 : Nat) : Int) * c ≤ 4000000000 ∧ ((if i < j then ((j - i - 1) / c + 1).toNat else 0 : Nat) : Int) ≤ 4000000000 ∧ 0 ≤ ((if i < j then ((j - i - 1) / c + 1).toNat else 0 : Nat) : Int) := by
    split
    · have h0 : 0 ≤ (j - i - 1) / c := Int.ediv_nonneg (by omega) (by omega)
      have h1 : (j - i - 1) / c * c ≤ j - i - 1 := Int.ediv_mul_le _ (by omega)
      have h2 : (j - i - 1) / c ≤ j - i - 1 := Int.ediv_le_self _ (by omega)
      have h3 : (((j - i - 1) / c + 1).toNat : Int) = (j - i - 1) / c + 1 := by omega
      rw [h3, Int.add_mul]
      omega
    · simp
  generalize ((if i < j then ((j - i - 1) / c + 1).toNat else 0 : Nat) : Int) = n at *
  simp only [Builtin.Range.rangeFitsLong, Bool.and_eq_true, Bool.or_eq_true, decide_eq_true_eq, beq_iff_eq]
  refine ⟨by omega, .inr ?_⟩
  rw [if_pos (by omega), Bool.and_eq_true, decide_eq_true_eq, decide_eq_true_eq]
  omega
/-- what making an instance asks -/
def MakeP (C : Addr) (sp : Sp) (E : XK) (vs : List V) (H : Hp) (Q : VK) : Prop := ∀ x dx, H x = none → H dx = none → dx ≠ x → sp (.ref x :: vs) (upd (upd H dx (.own x)) x (.ins C dx [])) (fun v H2 => v = .non ∧ Q (.ref x) H2) E
theorem L_make {C : Addr} {sp : Sp} {E : XK} (h : tr σ H fun vs H1 => MakeP C sp E vs H1 Q) : tMake C sp [] E tr σ H Q := by
  unfold tMake
  simp only [List.append_nil]
  exact h
/-- a new instance: all that stood stands -/
def NewI (H : Hp) (C : Addr) (fs : List (Str × V)) (Q : VK) : Prop := ∀ p H' dx, H p = none → Same H H' → H' p = some (.ins C dx fs) → Q (.ref p) H'
theorem L_gTup {n : Nat} {t : TGs} {a : Addr} {xs : List V} {Q : L2.St → Hp → Prop} (h : SqT K H a xs) (hn : xs.length = n) (q : t xs σ H Q) : gTup K n t (.ref a) σ H Q := ⟨a, xs, rfl, h, hn, q⟩
theorem L_gLst {n : Nat} {t : TGs} {a : Addr} {xs : List V} {Q : L2.St → Hp → Prop} (h : SqL K H a xs) (hn : xs.length = n) (q : t xs σ H Q) : gLst K n t (.ref a) σ H Q := ⟨a, xs, rfl, h, hn, q⟩
theorem L_gCons {v : V} {r : List V} {t : TG} {u : TGs} {Q : L2.St → Hp → Prop} (q : t v σ H fun σ' H' => u r σ' H' Q) : gCons t u (v :: r) σ H Q := ⟨v, r, rfl, q⟩
theorem L_gNil {Q : L2.St → Hp → Prop} (q : Q σ H) : gNil [] σ H Q := ⟨rfl, q⟩
theorem L_sub {to ti : TE} {t : TSet} {v : V} {Q : L2.St → Hp → Prop} (h : to σ H fun o H1 => ti σ H1 fun i H2 => t o i v H2 fun H3 => Q σ H3) : gSub to ti t v σ H Q := h
theorem L_setL {p : Addr} {xs : List V} {k : Int} {j : Nat} {v : V} {Q : Hp → Prop} (h : H p = some (.lst xs)) (hj : ixN xs.length k = some j) (q : Q (upd H p (.lst (xs.set j v)))) : rSetL (.ref p) (.int k) v H Q := ⟨p, xs, k, j, rfl, rfl, h, hj, q⟩
theorem ixN_of {n : Nat} {k : Int} (h0 : 0 ≤ k) (h : k < n) : ixN n k = some k.toNat := by
  unfold ixN
  rw [if_pos h0, if_pos h]
theorem L_sFld {f : Str} {ta tv : TE} {N B C' : L2.St → Hp → Prop} {R : VK} (h : tv σ H fun y H1 => ta σ H1 fun x H2 => ∃ a C dx fs, x = .ref a ∧ H2 a = some (.ins C dx fs) ∧ Cls K C ∧ NoAttr K C f ∧ fs.length < 1000 ∧ N σ (upd H2 a (.ins C dx (putF f y fs)))) : sFld K ta tv f ⟨N, R, B, C'⟩ σ H := h
theorem L_sFldv {a C dx : Addr} {fs : List (Str × V)} {f : Str} {Q : Addr → Addr → Addr → List (Str × V) → Prop} (h : H a = some (.ins C dx fs)) (cl : Cls K C) (n : NoAttr K C f) (l : fs.length < 1000) (q : Q a C dx fs) :
    ∃ a' C dx fs, V.ref a = V.ref a' ∧ H a' = some (.ins C dx fs) ∧ Cls K C ∧ NoAttr K C f ∧ fs.length < 1000 ∧ Q a' C dx fs := ⟨a, C, dx, fs, rfl, h, cl, n, l, q⟩
theorem L_repL {a : Addr} {xs : List V} {k : Int} (h : H a = some (.lst xs)) (h1 : -(2 ^ 63) ≤ k) (h2 : k < 2 ^ 63) (h3 : xs.length * k.toNat ≤ sizeLine) (q : ∀ p, H p = none → Q (.ref p) (upd H p (.lst (List.replicate k.toNat xs).flatten))) : aMul (.ref a) (.int k) H Q := .inr ⟨a, k, xs, rfl, rfl, h, h1, h2, h3, q⟩
theorem atI_int {xs : List V} {k : Int} {v : V} (h0 : 0 ≤ k) (h : xs[k.toNat]? = some v) : atI xs k = some v := by
  obtain ⟨j, rfl⟩ : ∃ j : Nat, k = (j : Int) := ⟨k.toNat, by omega⟩
  exact atI_nat h
theorem atI_ints {xs : List Int} {k : Int} (h0 : 0 ≤ k) (h : k < xs.length) : atI (xs.map V.int) k = some (.int (xs.getD k.toNat 0)) := by
  refine atI_int h0 ?_
  have hl : k.toNat < xs.length := by omega
  rw [List.getElem?_map, List.getElem?_eq_getElem hl]
  simp [List.getD, List.getElem?_eq_getElem hl]
theorem L_nw {xs : List V} {R : Prop} (q : R) (hl : xs.length ≤ 1000000 := by simp) : xs.length ≤ sizeLine ∧ R := ⟨sz_dec hl, q⟩
end
theorem fm_succ' {α : Type} (f : Nat → Option α) (i : Nat) : (List.range (i + 1)).filterMap f = (List.range i).filterMap f ++ (match f i with | some y => [y] | none => []) := by
  rw [List.range_succ, List.filterMap_append]
  cases h : f i <;> simp [h]
theorem fm_len' {α : Type} (f : Nat → Option α) (i : Nat) : ((List.range i).filterMap f).length ≤ i := by
  have := List.length_filterMap_le f (List.range i)
  simpa using this
/-! ### data as trees -/
mutual
theorem Dp_same {K : PySem.W.Frag} {H H' : Hp} (e : Same H H') : ∀ (d : PyData) {v : V}, Dp K H v d → Dp K H' v d
  | .none, _, h => by cases h; exact .non
  | .bool b, _, h => by cases h; exact .bl b
  | .int i, _, h => by cases h; exact .int i
  | .str x, _, h => by cases h; exact .str x
  | .list ds, _, h => by cases h with | lst hs ha => exact .lst (e.seq hs) (DpAll_same e ds ha)
  | .tuple ds, _, h => by cases h with | tup hs ha => exact .tup (e.seqT hs) (DpAll_same e ds ha)
  | .dict _, _, h => by cases h
theorem DpAll_same {K : PySem.W.Frag} {H H' : Hp} (e : Same H H') : ∀ (ds : List PyData) {vs : List V}, DpAll K H vs ds → DpAll K H' vs ds
  | [], _, h => by cases h; exact .nil
  | d :: ds, _, h => by cases h with | cons h1 h2 => exact .cons (Dp_same e d h1) (DpAll_same e ds h2)
end
section
variable {K : PySem.W.Frag} {H H' : Hp} {v : V} {vs : List V} {d : PyData} {ds : List PyData}
theorem _root_.L2.Dp.same (h : Dp K H v d) (e : Same H H') : Dp K H' v d := Dp_same e d h
theorem _root_.L2.DpAll.same (h : DpAll K H vs ds) (e : Same H H') : DpAll K H' vs ds := DpAll_same e ds h
theorem _root_.L2.DpAll.len : ∀ {ds : List PyData} {vs : List V}, DpAll K H vs ds → vs.length = ds.length
  | [], _, h => by cases h; rfl
  | d :: ds, _, h => by cases h with | cons h1 h2 => rw [List.length_cons, List.length_cons, h2.len]
theorem _root_.L2.DpAll.at : ∀ {ds : List PyData} {vs : List V} {i : Nat}, DpAll K H vs ds → ds[i]? = some d → ∃ v, vs[i]? = some v ∧ Dp K H v d
  | [], _, i, h, e => by simp at e
  | c :: ds, _, 0, h, e => by
    cases h with
    | cons h1 h2 =>
      rename_i v vs
      have : c = d := by simpa using e
      subst this
      exact ⟨v, by simp, h1⟩
  | c :: ds, _, i + 1, h, e => by
    cases h with
    | cons h1 h2 =>
      obtain ⟨v, q1, q2⟩ := h2.at (i := i) (by simpa using e)
      exact ⟨v, by simpa using q1, q2⟩
theorem _root_.L2.DpAll.of : ∀ {ds : List PyData} {vs : List V} {i : Nat}, DpAll K H vs ds → vs[i]? = some v → ∃ d, ds[i]? = some d ∧ Dp K H v d
  | [], _, i, h, e => by cases h; simp at e
  | c :: ds, _, 0, h, e => by
    cases h with
    | cons h1 h2 =>
      rename_i w vs
      have : w = v := by simpa using e
      subst this
      exact ⟨c, by simp, h1⟩
  | c :: ds, _, i + 1, h, e => by
    cases h with
    | cons h1 h2 =>
      obtain ⟨d, q1, q2⟩ := h2.of (i := i) (by simpa using e)
      exact ⟨d, by simpa using q1, q2⟩
theorem _root_.L2.DpAll.app : ∀ {ds es : List PyData} {vs us : List V}, DpAll K H vs ds → DpAll K H us es → DpAll K H (vs ++ us) (ds ++ es)
  | [], _, _, _, h, g => by cases h; exact g
  | d :: ds, _, _, _, h, g => by cases h with | cons h1 h2 => exact .cons h1 (h2.app g)
theorem _root_.L2.DpAll.snoc (h : DpAll K H vs ds) (g : Dp K H v d) : DpAll K H (vs ++ [v]) (ds ++ [d]) := h.app (.cons g .nil)
theorem dp_ints : ∀ (ns : List Int), DpAll K H (ns.map V.int) (ns.map PyData.int)
  | [] => .nil
  | n :: ns => .cons (.int n) (dp_ints ns)
theorem dp_strs : ∀ (ns : List Str), DpAll K H (ns.map V.str) (ns.map PyData.str)
  | [] => .nil
  | n :: ns => .cons (.str n) (dp_strs ns)
theorem of_ints : ∀ {ns : List Int} {vs : List V}, DpAll K H vs (ns.map PyData.int) → vs = ns.map V.int
  | [], _, h => by cases h; rfl
  | n :: ns, _, h => by
    cases h with
    | cons h1 h2 => cases h1; rw [of_ints h2]; rfl
theorem of_strs : ∀ {ns : List Str} {vs : List V}, DpAll K H vs (ns.map PyData.str) → vs = ns.map V.str
  | [], _, h => by cases h; rfl
  | n :: ns, _, h => by
    cases h with
    | cons h1 h2 => cases h1; rw [of_strs h2]; rfl
theorem of_tup (h : Dp K H v (.tuple ds)) : ∃ a xs, v = .ref a ∧ SqT K H a xs ∧ DpAll K H xs ds := by
  cases h with | tup h1 h2 => exact ⟨_, _, rfl, h1, h2⟩
theorem of_lst (h : Dp K H v (.list ds)) : ∃ a xs, v = .ref a ∧ SqL K H a xs ∧ DpAll K H xs ds := by
  cases h with | lst h1 h2 => exact ⟨_, _, rfl, h1, h2⟩
theorem of_int {i : Int} (h : Dp K H v (.int i)) : v = .int i := by cases h; rfl
theorem of_str {i : Str} (h : Dp K H v (.str i)) : v = .str i := by cases h; rfl
theorem of_bl {i : Bool} (h : Dp K H v (.bool i)) : v = .bl i := by cases h; rfl
theorem of_non (h : Dp K H v .none) : v = .non := by cases h; rfl
theorem of_t2 {d e : PyData} (h : Dp K H v (.tuple [d, e])) : ∃ a x y, v = .ref a ∧ SqT K H a [x, y] ∧ Dp K H x d ∧ Dp K H y e := by
  obtain ⟨a, xs, rfl, h1, h2⟩ := of_tup h
  cases h2 with
  | cons p1 p2 => cases p2 with | cons p3 p4 => cases p4; exact ⟨a, _, _, rfl, h1, p1, p3⟩
theorem of_t3 {d e f : PyData} (h : Dp K H v (.tuple [d, e, f])) : ∃ a x y z, v = .ref a ∧ SqT K H a [x, y, z] ∧ Dp K H x d ∧ Dp K H y e ∧ Dp K H z f := by
  obtain ⟨a, xs, rfl, h1, h2⟩ := of_tup h
  cases h2 with
  | cons p1 p2 => cases p2 with | cons p3 p4 => cases p4 with | cons p5 p6 => cases p6; exact ⟨a, _, _, _, rfl, h1, p1, p3, p5⟩
theorem of_t4 {d e f g : PyData} (h : Dp K H v (.tuple [d, e, f, g])) : ∃ a x y z w, v = .ref a ∧ SqT K H a [x, y, z, w] ∧ Dp K H x d ∧ Dp K H y e ∧ Dp K H z f ∧ Dp K H w g := by
  obtain ⟨a, xs, rfl, h1, h2⟩ := of_tup h
  cases h2 with
  | cons p1 p2 => cases p2 with | cons p3 p4 => cases p4 with | cons p5 p6 => cases p6 with | cons p7 p8 => cases p8; exact ⟨a, _, _, _, _, rfl, h1, p1, p3, p5, p7⟩
end
/-- the part of a heap at which P holds -/
noncomputable def rs (P : Addr → Prop) (H : Hp) : Hp := fun a => @ite _ (P a) (Classical.propDecidable _) (H a) none
theorem rs_at {P : Addr → Prop} {H : Hp} {a : Addr} {o : HO} (p : P a) (h : H a = some o) : rs P H a = some o := by unfold rs; rw [if_pos p]; exact h
theorem rs_of {P : Addr → Prop} {H : Hp} {a : Addr} {o : HO} (h : rs P H a = some o) : P a ∧ H a = some o := by
  unfold rs at h
  split at h
  · rename_i p; exact ⟨p, h⟩
  · cases h
theorem rs_same {P P' : Addr → Prop} {H H' : Hp} (h : ∀ a o, P a → H a = some o → P' a ∧ H' a = some o) : Same (rs P H) (rs P' H') := fun a o e => by
  obtain ⟨p, q⟩ := rs_of e
  obtain ⟨p', q'⟩ := h a o p q
  exact rs_at p' q'
theorem rs_sub {P : Addr → Prop} {H : Hp} : Same (rs P H) H := fun a o e => (rs_of e).2
theorem rs_in {P : Addr → Prop} {H H' : Hp} (h : ∀ a o, P a → H a = some o → H' a = some o) : Same (rs P H) H' := fun a o e => h a o (rs_of e).1 (rs_of e).2
theorem rs_all {P : Addr → Prop} {H H' : Hp} (h : ∀ a o, H a = some o → P a ∧ H' a = some o) : Same H (rs P H') := fun a o e => rs_at (h a o e).1 (h a o e).2
/-- a list that changes: what stood ahead of it stands -/
theorem same_mut {H H' : Hp} {a : Addr} {o : HO} (e : Same H H') (h : H a = none) : Same H (upd H' a o) := fun b o' q => by
  rw [upd_ne (fun z => by rw [z, h] at q; cases q)]; exact e b o' q
section
variable {K : PySem.W.Frag} {σ : L2.St} {H : Hp} {g : TG} {tt : TT} {te : TE} {tb : TS} {D : Ends} {x y : V} {Q : VK}
theorem L_rlD {v : V} {ds : List PyData} {R : Addr → Prop} (h : Dp K H v (.list ds)) (q : ∀ a, v = .ref a → R a) : ∃ b, v = V.ref b ∧ (∃ xs, SqL K H b xs) ∧ R b := by
  obtain ⟨a, xs, rfl, h1, h2⟩ := of_lst h
  exact ⟨a, rfl, ⟨xs, h1⟩, q a rfl⟩
/-- for x in a list of data -/
theorem for_dp {a : Addr} {ds : List PyData} (h : Dp K H (.ref a) (.list ds)) (Pv : Nat → L2.St → Hp → Prop) (h0 : Pv 0 σ H) (hG : ∀ i σ' H', i ≤ ds.length → Pv i σ' H' → Same H H')
    (hs : ∀ i d x σ' H', i < ds.length → ds[i]? = some d → Pv i σ' H' → Dp K H' x d → g x σ' H' fun σ2 H2 => tb { D with nx := Pv (i + 1), ct := Pv (i + 1), bk := D.nx } σ2 H2) (hd : ∀ σ' H', Pv ds.length σ' H' → D.nx σ' H') :
    ∃ W : Nat → Nat → L2.St → Hp → Prop, (∃ m, W 0 m σ H) ∧ ∀ i m σ H, W i m σ H →
      ((Itl K a).stop i H ∧ D.nx σ H) ∨ ((Itl K a).go i H ∧ ∃ N : L2.St → Hp → Prop, (∀ σ' H', N σ' H' → ∃ m', m' < m ∧ W (i + 1) m' σ' H') ∧ ∀ x H', (Itl K a).yld i H x H' → g x σ H' fun σ2 H2 => tb { D with nx := N, ct := N, bk := D.nx } σ2 H2) := by
  obtain ⟨a', xs, ea, h1, h2⟩ := of_lst h
  cases ea
  have hl := h2.len
  refine for_it walk_list Pv h0 (fun i σ' H' hi p => (hG i σ' H' (by omega) p).seq h1) (fun i x σ' H' H'' hi p ⟨e1, e2⟩ => ?_) (fun σ' H' p => hd σ' H' (by rw [← hl]; exact p))
  subst e1
  obtain ⟨d, e3, e4⟩ := h2.of e2
  exact hs i d x σ' _ (by omega) e3 p (e4.same (hG i σ' _ (by omega) p))
/-- a comprehension: what turn i gives is told as data, or none; the new list's things stand apart from it -/
theorem lc_dp {J : It} {n : Nat} {G : Hp → Prop} {Y : Nat → Hp → V → Hp → Prop} (w : L2.Walk J n G Y) {vs : List Nat} {Qd : Addr → Hp → Prop} (f : Nat → Option PyData) (hn : n ≤ 1000000) (hG : ∀ H', Same H H' → G H')
    (hs : ∀ i x p H2 H' (R : V → Hp → Prop) (R' : Hp → Prop), i < n → H p = none → Same H H2 → (∃ o, H2 p = some o) → Y i H2 x H' → (∀ y d H4, f i = some d → Same H2 H4 → Dp K (rs (· ≠ p) H4) y d → R y H4) → (∀ H3, f i = none → Same H2 H3 → R' H3) →
      g x (wipe σ vs) H' fun σ2 H2 => wipe σ2 vs = wipe σ vs ∧ tt σ2 H2 fun b H3 => if b = true then te σ2 H3 R else R' H3)
    (q : ∀ p H' vs, H p = none → Same H H' → H' p = some (.lst vs) → DpAll K (rs (· ≠ p) H') vs ((List.range n).filterMap f) → Qd p H') :
    ∀ D, H D = none → ∃ W : Nat → Nat → Hp → Prop, (∃ m, W 0 m (upd H D (.lst []))) ∧ ∀ i m H, W i m H →
      (J.stop i H ∧ Qd D H) ∨ (J.go i H ∧ ∃ Nx : Hp → Prop, (∀ H', Nx H' → ∃ m', m' < m ∧ W (i + 1) m' H') ∧ ∀ x H', J.yld i H x H' → g x (wipe σ vs) H' fun σ2 H2 => wipe σ2 vs = wipe σ vs ∧ tt σ2 H2 fun b H3 =>
        if b = true then te σ2 H3 fun y H4 => ∃ acc, H4 D = some (.lst acc) ∧ acc.length < sizeLine ∧ Nx (upd H4 D (.lst (acc ++ [y]))) else Nx H3) := by
  intro D hD
  refine lc_it w (fun i H2 => Same H H2 ∧ ∃ us, H2 D = some (.lst us) ∧ DpAll K (rs (· ≠ D) H2) us ((List.range i).filterMap f)) ⟨same_new hD, [], upd_same, .nil⟩ (fun i H2 _ p => hG H2 p.1) ?_ (fun H2 ⟨p1, us, p2, p3⟩ => q D H2 us hD p1 p2 p3)
  rintro i x H2 H' hi ⟨p1, us, p2, p3⟩ y
  refine hs i x D H2 H' _ _ hi hD p1 ⟨_, p2⟩ y (fun y d H4 e s dy => ?_) (fun H3 e s => ?_)
  · have e4 : Same (rs (· ≠ D) H2) (rs (· ≠ D) H4) := rs_same fun a o h1 h2 => ⟨h1, s _ _ h2⟩
    have e5 : Same (rs (· ≠ D) H4) (rs (· ≠ D) (upd H4 D (.lst (us ++ [y])))) := rs_same fun a o h1 h2 => ⟨h1, by rw [upd_ne h1]; exact h2⟩
    refine ⟨us, s _ _ p2, sz_lt (by have := p3.len; have := fm_len' f i; omega), same_mut (p1.trans s) hD, _, upd_same, ?_⟩
    rw [fm_succ', e]
    exact ((p3.same e4).same e5).snoc (dy.same e5)
  · refine ⟨p1.trans s, us, s _ _ p2, ?_⟩
    rw [fm_succ', e, List.append_nil]
    exact p3.same (rs_same fun a o h1 h2 => ⟨h1, s _ _ h2⟩)
end
/-! ### defs that may raise -/
structure MetX (P : Program) (w : World) (K : PySem.W.Frag) (mg : Str → Option Value) (base : Heap) (k : Nat) (C : Addr) (m : Str) (sp : Sp) : Prop where
  ex : ∃ (f : Addr) (fd : FuncData) (ps : List Str), Cls K C ∧ Meth K C m f ∧ FnOk P w K mg base (L2.CX P w) k f fd ps sp ∧ Binds K fd ps []
structure MakX (P : Program) (w : World) (K : PySem.W.Frag) (mg : Str → Option Value) (base : Heap) (k : Nat) (x : Str) (C : Addr) (sp : Sp) : Prop where
  ex : ∃ (f : Addr) (fd : FuncData) (ps : List Str), Mk K C f ∧ FnOk P w K mg base (L2.CX P w) k f fd ps sp ∧ mg x = some (.ref C) ∧ Binds K fd ps []
section
variable {P : Program} {w : World} {K : PySem.W.Frag} {mg : Str → Option Value} {base : Heap}
theorem MethAt.metX {C : Addr} {m qual : Str} {st : Stmt} {N ps : List Str} {k : Nat} {sp : Sp} (c : Cls K C) (d : MethAt K C m qual st ps) (S : FnScope N ps (defScope st)) (len : ∀ vs H Q E, sp vs H Q E → vs.length = ps.length)
    (hbody : ∀ (f : Addr) (cdv : Value) (A : Around) (outer : List Env) (s : Shared) (H : Hp) (vs : List V) (Q : VK) (E : XK), Room k (A.deeper (envOfC qual (defScope st) s.heap.objs.size f cdv)) → sp vs H Q E →
      ∃ t, PSs (cxOf (L2.CX P w) P w K mg base N qual (defScope st) f cdv A outer s H E) (defBody st) t ∧ t { nx := fun _ H' => Q .non H', rt := Q } (start N vs) H) : MetX P w K mg base (k + 1) C m sp := by
  obtain ⟨f, fd, F, hm, b⟩ := d.ex
  exact ⟨f, fd, ps, c, hm, F.okX S len (hbody f), b⟩
theorem InitAt.makX {x : Str} {C : Addr} {qual : Str} {st : Stmt} {N ps : List Str} {k : Nat} {sp : Sp} (hx : mg x = some (.ref C)) (d : InitAt K C qual st ps) (S : FnScope N ps (defScope st)) (len : ∀ vs H Q E, sp vs H Q E → vs.length = ps.length)
    (hbody : ∀ (f : Addr) (cdv : Value) (A : Around) (outer : List Env) (s : Shared) (H : Hp) (vs : List V) (Q : VK) (E : XK), Room k (A.deeper (envOfC qual (defScope st) s.heap.objs.size f cdv)) → sp vs H Q E →
      ∃ t, PSs (cxOf (L2.CX P w) P w K mg base N qual (defScope st) f cdv A outer s H E) (defBody st) t ∧ t { nx := fun _ H' => Q .non H', rt := Q } (start N vs) H) : MakX P w K mg base (k + 1) x C sp := by
  obtain ⟨f, fd, F, hm, b⟩ := d.ex
  exact ⟨f, fd, ps, hm, F.okX S len (hbody f), hx, b⟩
end
/-- where no exception is wanted -/
theorem passN {X : Cx} (σ : L2.St) : PassesAt (L2.CX X.prog X.w) X σ ((fun _ => E0) σ) := fun pins H s e s' I c => passL pins σ H s e s' I c
/-- x.m(..), C(..), where what is raised is wished for at the caller's slots -/
def tMethE (C : Addr) (m : Str) (sp : Sp) (E : L2.St → XK) (ta : TE) (t : TA) : TE := fun σ H Q => ta σ H fun x H1 => ∃ a dx fs, x = .ref a ∧ H1 a = some (.ins C dx fs) ∧ fs.lookup m = none ∧ t σ H1 fun vs H2 => sp (x :: vs) H2 Q (E σ)
def tMakeE (C : Addr) (sp : Sp) (E : L2.St → XK) (t : TA) : TE := fun σ H Q => t σ H fun vs H1 => ∀ x dx, H1 x = none → H1 dx = none → dx ≠ x →
  sp (.ref x :: vs) (upd (upd H1 dx (.own x)) x (.ins C dx [])) (fun v H2 => v = .non ∧ Q (.ref x) H2) (E σ)
section
variable {X : Cx} {CX : CXT} {k j : Nat} {f C : Addr} {fd : FuncData} {ps : List Str} {x m : Str} {sp : Sp} {p pos apos : Pos} {e o : Expr} {es : List Expr} {ta : TE} {t : TA} {E : L2.St → XK}
theorem run_makeS {pins : List (Addr × Obj)} {σ : L2.St} {H : Hp} {s : Shared} {Q : VK} {us : List Value} {vs : List V} (M : Mk X.K C f) (F : FnOk X.prog X.w X.K X.mg X.base CX k f fd ps sp) (hr : Room (k + 1) X.A) (hb : Binds X.K fd ps [])
    (hx : PassesAt CX X σ (E σ)) (I : Inv X pins σ H s) (r : Vals vs us)
    (h : ∀ x dx, H x = none → H dx = none → dx ≠ x → sp (.ref x :: vs) (upd (upd H dx (.own x)) x (.ins C dx [])) (fun v H2 => v = .non ∧ Q (.ref x) H2) (E σ)) :
    wpAny (model X.prog X.w) X.A (call (.ref C) us) (EP X pins σ Q) X.xe s := by
  -- the new object's place, its dict's place
  obtain ⟨dn, hdn⟩ : ∃ dn, dn = s.heap.objs.size := ⟨_, rfl⟩
  have fresh1 : H dn = none := I.hok.fresh (Nat.le_of_eq hdn.symm)
  have fresh2 : H (dn + 1) = none := I.hok.fresh (Nat.le_succ_of_le (Nat.le_of_eq hdn.symm))
  have asked := h (dn + 1) dn fresh2 fresh1 (Nat.ne_of_lt (Nat.lt_succ_self _))
  have J := Inv.made (C := C) I
  rw [← hdn] at J
  have args : Vals (V.ref (dn + 1) :: vs) (Value.ref (dn + 1) :: us) := .cons rfl r
  have many : (Value.ref (dn + 1) :: us).length = ps.length := args.length.symm.trans (F.len _ _ _ _ asked)
  have bound := hb _ (Value.ref (dn + 1) :: us) J.kIn (by rw [List.append_nil]; exact many)
  rw [List.append_nil] at bound
  subst hdn
  refine wpAny_call (make_map (f := f) I.kIn M.makes M.init (beq_iff_eq.mp M.fn) ?_)
  refine codeAny_mono (F.run _ X.stack _ _ ⟨_, []⟩ _ _ _ (E σ) (hr.make C us []) (J.env0.make C us []) bound args asked) fun out s' ho => ?_
  match out, ho with
  | .error e, ho => exact hx pins _ _ e s' J ho
  | .ok (.ret u), ho =>
    obtain ⟨v, H', J', rel, hv, rest⟩ := J.after ho
    cases hv
    exact ⟨rel, .ref (s.heap.objs.size + 1), H', J', rfl, rest⟩
  | .ok .next, ho => exact ho.elim
  | .ok .brk, ho => exact ho.elim
  | .ok .cont, ho => exact ho.elim
theorem pe_xS (c : CalX X.prog X.w X.K X.mg X.base k x sp) (hr : Room j X.A) (hk : k ≤ j) (hg : Gl X x) (hx : ∀ σ, PassesAt (L2.CX X.prog X.w) X σ (E σ)) (ha : PA X (e :: es) t)
    (hdb : (x == ("__debug__" : Str)) = false := by decide) (he : starEach (e :: es) X.env = (false, eval e X.env) :: starEach es X.env := by rfl) (hpl : (backTo pos (starEach es X.env)).any (·.1) = false := by rfl) :
    PE X (.Call (.Name x p) (e :: es) [] pos) (tCallS sp E t) := by
  obtain ⟨f, fd, ps, F, hm, kp, b⟩ := c.ex
  exact pe_callS F (hr.mono hk) hg hm kp b hx ha hdb he hpl
theorem pe_xMk (c : MakX X.prog X.w X.K X.mg X.base k x C sp) (hr : Room j X.A) (hk : k + 1 ≤ j) (hg : Gl X x) (hx : ∀ σ, PassesAt (L2.CX X.prog X.w) X σ (E σ)) (ha : PA X (e :: es) t)
    (hdb : (x == ("__debug__" : Str)) = false := by decide) (he : starEach (e :: es) X.env = (false, eval e X.env) :: starEach es X.env := by rfl) (hpl : (backTo pos (starEach es X.env)).any (·.1) = false := by rfl) :
    PE X (.Call (.Name x p) (e :: es) [] pos) (tMakeE C sp E t) := by
  obtain ⟨f, fd, ps, M, F, hm, hb⟩ := c.ex
  refine ⟨fun pins s σ H Q I h => ?_⟩
  refine wpAny_Call_Name_kw (ld_glob I hg hm ?_ hdb)
  refine PySem.W.callWith_K (h₀ := X.base) I.ok.mod.kin M.kp (thn (ha.run pos pins s σ H _ I h) fun us s1 ⟨vs, H1, I1, r, q⟩ => ⟨I1.kIn, ?_⟩) he hpl
  exact run_makeS M F (hr.mono hk) hb (hx σ) I1 r q
theorem pe_xMt {pl : Sem Bool} (c : MetX X.prog X.w X.K X.mg X.base k C m sp) (hr : Room j X.A) (hk : k ≤ j) (hx : ∀ σ, PassesAt (L2.CX X.prog X.w) X σ (E σ)) (he : PE X o ta) (ha : PA X (e :: es) t)
    (hst : starEach (e :: es) X.env = (false, eval e X.env) :: starEach es X.env := by rfl) (hpl : (backTo pos (starEach es X.env)).any (·.1) = false := by rfl)
    (ht : eval (.Call (.Attribute o m apos) (e :: es) [] pos) X.env = (do
      let ov ← eval o X.env
      standAt apos.atName
      let (f, first) ← holding [ov] (getMethod ov m pl)
      callWith pos f first (backTo pos (starEach (e :: es) X.env)) (backToKw pos (keywordEach [] X.env))) := by rfl) :
    PE X (.Call (.Attribute o m apos) (e :: es) [] pos) (tMethE C m sp E ta t) := by
  obtain ⟨f, fd, ps, hc, hm, F, hb⟩ := c.ex
  refine ⟨fun pins s σ H Q I h => ?_⟩
  refine PySem.W.methodCall_KW (pl := pl) (thn (he.run pins s σ H _ I h) fun u s1 ⟨x, H1, I1, rx, a, dx, fs, ex, ea, l, q⟩ => ?_) ht
  subst ex
  obtain rfl : u = Value.ref a := rx
  refine getmeth_ok I1 ea hc hm l ?_
  refine PySem.W.callWith_K (first := [.ref a]) (h₀ := X.base) I.ok.mod.kin hm.kp (thn (ha.run pos pins s1 σ H1 _ I1 q) fun us s2 ⟨vs, H2, I2, r, q2⟩ => ⟨I2.kIn, ?_⟩) hst hpl
  exact run_fnS (us := .ref a :: us) (vs := .ref a :: vs) F (hr.mono hk) hb (hx σ) I2 (.cons rfl r) q2
theorem pe_xMt0 {pl : Sem Bool} (c : MetX X.prog X.w X.K X.mg X.base k C m sp) (hr : Room j X.A) (hk : k ≤ j) (hx : ∀ σ, PassesAt (L2.CX X.prog X.w) X σ (E σ)) (he : PE X o ta)
    (ht : eval (.Call (.Attribute o m apos) [] [] pos) X.env = (do
      let ov ← eval o X.env
      standAt apos.atName
      let (f, first) ← holding [ov] (getMethod ov m pl)
      callWith pos f first (backTo pos (starEach [] X.env)) (backToKw pos (keywordEach [] X.env))) := by rfl) :
    PE X (.Call (.Attribute o m apos) [] [] pos) (tMethE C m sp E ta tNil) := by
  obtain ⟨f, fd, ps, hc, hm, F, hb⟩ := c.ex
  refine ⟨fun pins s σ H Q I h => ?_⟩
  refine PySem.W.methodCall_KW (pl := pl) (thn (he.run pins s σ H _ I h) fun u s1 ⟨x, H1, I1, rx, a, dx, fs, ex, ea, l, q⟩ => ?_) ht
  subst ex
  obtain rfl : u = Value.ref a := rx
  refine getmeth_ok I1 ea hc hm l ?_
  exact PySem.W.callWith_K0 (first := [.ref a]) I1.kIn hm.kp (run_fnS (us := [.ref a]) (vs := [.ref a]) F (hr.mono hk) hb (hx σ) I1 (.cons rfl .nil) q)
end
/-- an own exception class that is raised; one that is caught -/
structure ExcAt (K : PySem.W.Frag) (C : Addr) : Prop where
  x : PySem.W.excIn K C [.type "ValueError", .type "Exception", .type "BaseException", .type "object"] "ValueError.__new__" = true
  k : PySem.W.keepIn K (.ref C) = true
  b : PySem.W.subIn K (.ref C) (.type "BaseException") = some true
  t : PySem.W.typeIn K (.ref C) = some (.type "type")
structure ExcK (K : PySem.W.Frag) (C : Addr) : Prop where
  b : PySem.W.subIn K (.ref C) (.type "BaseException") = some true
  i : PySem.W.isClsIn K C = true
  t : PySem.W.typeIn K (.ref C) = some (.type "type")
theorem ExcK.exm {K : PySem.W.Frag} {C D : Addr} {r : Bool} (c : ExcK K C) (h : PySem.W.subIn K (.ref D) (.ref C) = some r) : PySem.W.exmOne K (.ref D) (.ref C) = some r := by
  have e1 : (PySem.W.subIn K (.ref C) (.type "BaseException") == some true) = true := by rw [c.b] <;> rfl
  have e2 : ((PySem.W.clsIn K C).isSome && PySem.W.typeIn K (.ref C) == some (.type "type")) = true := by
    have h2' : (PySem.W.clsIn K C).isSome = true := c.i
    rw [h2', c.t] <;> rfl
  show (if (PySem.W.subIn K (.ref C) (.type "BaseException") == some true) = true then (if ((PySem.W.clsIn K C).isSome && PySem.W.typeIn K (.ref C) == some (.type "type")) = true then PySem.W.subIn K (.ref D) (.ref C) else none) else none) = some r
  rw [if_pos e1, if_pos e2]
  exact h
/-- C() -/
theorem pmk_own0 {X : Cx} {C : Addr} {x : Str} {p pos : Pos} (c : ExcAt X.K C) (gC : X.mg x = some (.ref C)) (hg : Gl X x) (hdb : (x == ("__debug__" : Str)) = false := by decide) :
    PMk X (.Call (.Name x p) [] [] pos) (fun _ H Q => Q (.ref C) none H) := by
  intro pins s σ H Q I h
  refine wpAny_Call_Name_kw (ld_glob I hg gC ?_ hdb)
  refine PySem.W.callWith_K0 I.kIn c.k ?_
  obtain ⟨bm, N, nm, qn, bs, hdct, sn, sub, ab, col, dd, k0, k1, k2, k3, k5, mN, hC, hN, hni, T⟩ := exc_obj I.kIn c.x
  refine wpAny_call_exc_subT PySem.F.excBase_ValueError T hC hN hni (fun h' e hm => ?_) (Nat.zero_le _)
  exact mk_of I hm (raises_own c.b c.t) h (I.hok.gone hm.new)
section
variable {K : PySem.W.Frag} {σ : L2.St} {H : Hp} {ta : TE} {tr : TA} {Q : VK} {E : L2.St → XK} {C : Addr} {m : Str} {sp : Sp}
theorem L_callS (h : tr σ H fun vs H1 => sp vs H1 Q (E σ)) : tCallS sp E tr σ H Q := h
theorem L_methE (h : ta σ H fun x H1 => ∃ a dx fs, x = .ref a ∧ H1 a = some (.ins C dx fs) ∧ fs.lookup m = none ∧ tr σ H1 fun vs H2 => sp (x :: vs) H2 Q (E σ)) : tMethE C m sp E ta tr σ H Q := h
theorem L_makeE (h : tr σ H fun vs H1 => MakeP C sp (E σ) vs H1 Q) : tMakeE C sp E tr σ H Q := h
theorem L_meth {E : XK} (h : ta σ H fun x H1 => ∃ a dx fs, x = .ref a ∧ H1 a = some (.ins C dx fs) ∧ fs.lookup m = none ∧ tr σ H1 fun vs H2 => sp (x :: vs) H2 Q E) : tMeth C m sp [] E ta tr σ H Q := by
  unfold tMeth
  simp only [List.append_nil]
  exact h
theorem L_methv {a dx : Addr} {fs : List (Str × V)} {R : Prop} (h : H a = some (.ins C dx fs)) (l : fs.lookup m = none) (q : R) : ∃ a' dx fs, V.ref a = V.ref a' ∧ H a' = some (.ins C dx fs) ∧ fs.lookup m = none ∧ R := ⟨a, dx, fs, rfl, h, l, q⟩
theorem L_only {c : Value} {ts : Addr → Value → Option Addr → TS} {Wout : WX} {D : Ends} {cls : Value} {d : Option Addr} (h : PySem.W.exmOne K cls c = some true) (q : ∀ a, H a = none → ts a cls d D σ H) : wOnly K c ts Wout D cls d σ H := ⟨true, h, fun _ => q, fun z => nomatch z⟩
end
/-- no whole number: another kind of thing, or a truth -/
def NotW (K : PySem.W.Frag) (H : Hp) (v : V) : Prop := (∃ b, v = .bl b) ∨ ∃ a, TyX K H v (.type a) ∧ kitB a "int" = some false
/-- what is_whole denies -/
def BadW (K : PySem.W.Frag) (H : Hp) (v : V) (lo hi : Int) : Prop := NotW K H v ∨ ∃ t, v = .int t ∧ ¬ (lo ≤ t ∧ t ≤ hi)
section
variable {K : PySem.W.Frag} {H : Hp}
theorem notw_non : NotW K H .non := .inr ⟨_, .base .non, by decide +kernel⟩
theorem notw_bl {b : Bool} : NotW K H (.bl b) := .inl ⟨b, rfl⟩
theorem notw_str {z : Str} : NotW K H (.str z) := .inr ⟨_, .base (.str z), by decide +kernel⟩
theorem notw_lst {a : Addr} {xs : List V} (h : H a = some (.lst xs)) : NotW K H (.ref a) := .inr ⟨_, .base (.lst h), by decide +kernel⟩
theorem notw_tup {a : Addr} {xs : List V} (h : H a = some (.tup xs)) : NotW K H (.ref a) := .inr ⟨_, .base (.tup h), by decide +kernel⟩
theorem notw_dK {a : Addr} {xs : List (Key × V)} (h : H a = some (.dK xs)) : NotW K H (.ref a) := .inr ⟨_, .base (.dK h), by decide +kernel⟩
theorem badw_int {t lo hi : Int} (h : ¬ (lo ≤ t ∧ t ≤ hi)) : BadW K H (.int t) lo hi := .inr ⟨t, rfl, h⟩
theorem NotW.bad {v : V} {lo hi : Int} (h : NotW K H v) : BadW K H v lo hi := .inl h
end
section
variable {K : PySem.W.Frag} {H H' : Hp}
theorem tyx_T {a : Addr} {xs : List V} (h : SqT K H a xs) : TyX K H (.ref a) (.type "tuple") := by
  rcases h with (h | ⟨o, h⟩) | ⟨o, _, _, h, c, _⟩
  · exact .base (.tup h)
  · exact .fTuple h
  · exact .kTuple h c
theorem tyx_L {a : Addr} {xs : List V} (h : SqL K H a xs) : TyX K H (.ref a) (.type "list") := by
  rcases h with (h | ⟨o, h⟩) | ⟨o, _, _, h, c, _⟩
  · exact .base (.lst h)
  · exact .base (.frz h)
  · exact .kList h c
variable {σ : L2.St} {Q : VK}
theorem L_sort2 {a : Addr} {x y : Int} (h : SqL K H a [V.int x, V.int y]) (q : ∀ p, H p = none → Q (.ref p) (upd H p (.lst [V.int (min x y), V.int (max x y)]))) : rSorted K [.ref a] H Q := by
  refine ⟨a, [x, y], rfl, h, by simp, fun ns p hp hs hn => ?_⟩
  have hl := hp.length_eq
  match ns, hl with
  | [u, v], _ =>
    have hle : u ≤ v := by simpa using hs
    have hm : (u = x ∧ v = y) ∨ (u = y ∧ v = x) := by
      have h1 : u ∈ [x, y] := hp.mem_iff.mp (by simp)
      have h2 : v ∈ [x, y] := hp.mem_iff.mp (by simp)
      have h3 : x ∈ [u, v] := hp.mem_iff.mpr (by simp)
      have h4 : y ∈ [u, v] := hp.mem_iff.mpr (by simp)
      simp only [List.mem_cons, List.not_mem_nil, or_false] at h1 h2 h3 h4
      rcases h1 with h1 | h1 <;> rcases h2 with h2 | h2 <;> rcases h3 with h3 | h3 <;> rcases h4 with h4 | h4 <;> omega
    have e : [u, v] = [min x y, max x y] := by
      rcases hm with ⟨rfl, rfl⟩ | ⟨rfl, rfl⟩
      · rw [Int.min_eq_left hle, Int.max_eq_right hle]
      · rw [Int.min_eq_right hle, Int.max_eq_left hle]
    rw [e]
    exact q p hn
theorem L_list1 {a : Addr} {xs : List V} (h : SqL K H a xs) (q : ∀ l, H l = none → Q (.ref l) (upd H l (.lst xs))) : aList1 K [.ref a] H Q := ⟨a, xs, rfl, .inl h, q⟩
theorem L_tuple1 {a : Addr} {xs : List V} (h : SqL K H a xs) (q : ∀ l, H l = none → Q (.ref l) (upd H l (.tup xs))) : aTuple1 K [.ref a] H Q := ⟨a, xs, rfl, .inl ⟨h, q⟩⟩
theorem eqv_same {d : PyData} (h : SeqAt.shaped d = true) : PyData.eqv d d = true := SeqAt.eqv_refl d (SeqAt.canLay_of_shaped h)
theorem L_eqR {x y : V} {d : PyData} (hx : Dp K H x d) (hy : Dp K H y d) (s : SeqAt.shaped d = true) (q : Q (.bl true) H) : aEq K x y H Q := L_eqD hx hy s s (by rw [eqv_same s]; exact q)
theorem L_neR {x y : V} {d : PyData} (hx : Dp K H x d) (hy : Dp K H y d) (s : SeqAt.shaped d = true) (q : Q (.bl false) H) : aNe K x y H Q := L_neD hx hy s s (by rw [eqv_same s]; exact q)
theorem L_zipA {a b : Addr} {xs ys : List V} {R : Addr → Addr → Prop} (h1 : SqL K H a xs) (h2 : SqL K H b ys) (q : R a b) : ∃ a' b' xs ys, [V.ref a, V.ref b] = [.ref a', .ref b'] ∧ SqL K H a' xs ∧ SqL K H b' ys ∧ R a' b' := ⟨a, b, xs, ys, rfl, h1, h2, q⟩
end
/-- data that == may be asked of, at most n deep -/
structure Shp (n : Nat) (d : PyData) : Prop where
  c : d.canLay0 = true
  d : d.depth ≤ n
theorem Shp.ok {n : Nat} {d : PyData} (h : Shp n d) (hn : n ≤ 64 := by decide) : SeqAt.shaped d = true := by
  unfold SeqAt.shaped
  rw [h.c, decide_eq_true (Nat.le_trans h.d hn)]; rfl
theorem shp_int {n : Nat} {i : Int} : Shp n (.int i) := ⟨by simp [PyData.canLay0], by simp [PyData.depth]⟩
theorem shp_bl {n : Nat} {i : Bool} : Shp n (.bool i) := ⟨by simp [PyData.canLay0], by simp [PyData.depth]⟩
theorem shp_non {n : Nat} : Shp n .none := ⟨by simp [PyData.canLay0], by simp [PyData.depth]⟩
theorem shp_str {n : Nat} {z : Str} (h : PyData.strOk z = true) : Shp n (.str z) := ⟨by simpa [PyData.canLay0] using h, by simp [PyData.depth]⟩
theorem shp_all {n : Nat} : ∀ {ds : List PyData}, (∀ d ∈ ds, Shp n d) → PyData.canLayAll0 ds = true ∧ PyData.depthAll ds ≤ n
  | [], _ => ⟨by simp [PyData.canLayAll0], by simp [PyData.depthAll]⟩
  | d :: ds, h => by
    have h1 := h d (List.mem_cons_self ..)
    have h2 := shp_all fun x hx => h x (List.mem_cons_of_mem _ hx)
    exact ⟨by simp [PyData.canLayAll0, h1.c, h2.1], by simp only [PyData.depthAll]; exact Nat.max_le.mpr ⟨h1.d, h2.2⟩⟩
theorem shp_lst {n : Nat} {ds : List PyData} (h : ∀ d ∈ ds, Shp n d) : Shp (n + 1) (.list ds) := ⟨by simp only [PyData.canLay0]; exact (shp_all h).1, by simp only [PyData.depth]; have := (shp_all h).2; omega⟩
theorem shp_tup {n : Nat} {ds : List PyData} (h : ∀ d ∈ ds, Shp n d) : Shp (n + 1) (.tuple ds) := ⟨by simp only [PyData.canLay0]; exact (shp_all h).1, by simp only [PyData.depth]; have := (shp_all h).2; omega⟩
theorem shp_nil {n : Nat} : ∀ d ∈ ([] : List PyData), Shp n d := fun _ h => nomatch h
theorem shp_cons {n : Nat} {d : PyData} {ds : List PyData} (h : Shp n d) (t : ∀ d ∈ ds, Shp n d) : ∀ x ∈ d :: ds, Shp n x := fun x hx => by
  rcases List.mem_cons.mp hx with rfl | hx
  · exact h
  · exact t x hx
theorem shp_map {n : Nat} {α : Type} {f : α → PyData} {l : List α} (h : ∀ a ∈ l, Shp n (f a)) : ∀ d ∈ l.map f, Shp n d := fun d hd => by
  obtain ⟨a, ha, rfl⟩ := List.mem_map.mp hd
  exact h a ha
theorem shp_ints {n : Nat} {l : List Int} : Shp (n + 1) (.list (l.map .int)) := shp_lst (shp_map fun _ _ => shp_int)
theorem _root_.L2.Dp.ints {K : PySem.W.Frag} {H : Hp} {a : Addr} {ns : List Int} (h : SqL K H a (ns.map V.int)) : Dp K H (.ref a) (.list (ns.map .int)) := .lst h (dp_ints ns)
section
variable {K : PySem.W.Frag} {H : Hp} {Q : VK}
theorem L_powE {i j n : Int} (h : CPow i j) (e : i ^ j.toNat = n) (q : Q (.int n) H) : rI CPow (fun i j => .int (i ^ j.toNat)) (.int i) (.int j) H Q := ⟨i, j, rfl, rfl, h, by subst e; exact q⟩
/-- one of some ints -/
theorem L_menu {ns : List Int} {p : Addr} {i : Int} (h : SqL K H p (ns.map V.int)) (h0 : 0 ≤ i) (h1 : i < ns.length) (q : ∀ v ∈ ns, Q (.int v) H) : rIx K (.ref p) (.int i) H Q := by
  have hl : i.toNat < ns.length := by omega
  refine L_ixL h (atI_ints h0 h1) (q _ ?_)
  rw [List.getD_eq_getElem?_getD, List.getElem?_eq_getElem hl]
  exact List.getElem_mem hl
/-- an item of a list of ints, some property of all its items kept -/
theorem L_ixP {ns : List Int} {p : Addr} {i : Int} {P : Int → Prop} (h : SqL K H p (ns.map V.int)) (hP : ∀ v ∈ ns, P v) (h0 : 0 ≤ i) (h1 : i < ns.length) (q : ∀ v, P v → Q (.int v) H) : rIx K (.ref p) (.int i) H Q :=
  L_menu h h0 h1 fun v hv => q v (hP v hv)
end
theorem cdiv_lit {i j : Int} (h : 0 < j ∧ j < 1000000000000) : CDivW i j := (bd_64 (by omega)).cdiv h.1
theorem cpow_lit {i j : Int} (h : 0 ≤ j ∧ j ≤ 1000 ∧ -1000000 < i ∧ i < 1000000) : CPow i j := by
  have e : (2 : Nat) ^ 64 = 18446744073709551616 := by decide
  exact ⟨h.1, by omega, by omega⟩
theorem same_newE {H Hn : Hp} {p : Addr} {o : HO} (e : upd H p o = Hn) (h : H p = none) : Same H Hn := e ▸ same_new h
theorem upd_at {H Hn : Hp} {p : Addr} {o : HO} (e : upd H p o = Hn) : Hn p = some o := e ▸ upd_same
section
variable {K : PySem.W.Frag} {H H' : Hp} {p q : Addr} {us xs : List V} {ds : List PyData} {d : PyData} {y : V} {o : HO}
/-- a list grows: its things stand apart from it -/
theorem dp_grow (hdp : DpAll K (rs (· ≠ p) H) us ds) (s : Same H H') (hy : Dp K (rs (· ≠ p) H') y d) : DpAll K (rs (· ≠ p) (upd H' p o)) (us ++ [y]) (ds ++ [d]) :=
  (hdp.same (rs_same fun a u na ha => ⟨na, by rw [upd_ne na]; exact s _ _ ha⟩)).snoc (hy.same (rs_same fun a u na ha => ⟨na, by rw [upd_ne na]; exact ha⟩))
theorem dp_tupN (h : H q = some (.tup xs)) (n : q ≠ p) (ha : DpAll K (rs (· ≠ p) H) xs ds) : Dp K (rs (· ≠ p) H) (.ref q) (.tuple ds) := .tup (.of (rs_at n h)) ha
theorem dp_lstN (h : H q = some (.lst xs)) (n : q ≠ p) (ha : DpAll K (rs (· ≠ p) H) xs ds) : Dp K (rs (· ≠ p) H) (.ref q) (.list ds) := .lst (.of (rs_at n h)) ha
/-- data that stood ahead of p -/
theorem dp_old {H0 : Hp} (h : Dp K H0 y d) (n : H0 p = none) (s : Same H0 H) : Dp K (rs (· ≠ p) H) y d := h.same (rs_all fun a u ha => ⟨fun z => (by rw [z, n] at ha; cases ha), s _ _ ha⟩)
theorem dpA_old {H0 : Hp} (h : DpAll K H0 us ds) (n : H0 p = none) (s : Same H0 H) : DpAll K (rs (· ≠ p) H) us ds := h.same (rs_all fun a u ha => ⟨fun z => (by rw [z, n] at ha; cases ha), s _ _ ha⟩)
theorem dp_whole (h : DpAll K (rs (· ≠ p) H) us ds) (e : H p = some (.lst us)) : Dp K H (.ref p) (.list ds) := .lst (.of e) (h.same rs_sub)
theorem ne_new (h : H p = none) (h' : ∃ o, H q = some o) : p ≠ q := fun z => by
  obtain ⟨o, e⟩ := h'
  rw [z, e] at h; cases h
end
theorem fm_get {α β : Type} (g : α → β) : ∀ (l : List α), (List.range l.length).filterMap (fun i => l[i]?.map g) = l.map g
  | [] => rfl
  | a :: l => by
    have ih := fm_get g l
    rw [List.length_cons, List.range_succ_eq_map]
    simp only [List.filterMap_cons, List.getElem?_cons_zero, Option.map_some, List.filterMap_map, Function.comp_def, List.getElem?_cons_succ, List.map_cons]
    rw [ih]
theorem sum_take {α : Type} {l : List α} {f : α → Int} {i : Nat} {x : α} (h : l[i]? = some x) : ((l.take (i + 1)).map f).sum = ((l.take i).map f).sum + f x := by
  rw [List.take_succ, h]
  simp
theorem sum_takeAll {α : Type} {l : List α} {f : α → Int} {n : Nat} (h : l.length ≤ n) : ((l.take n).map f).sum = (l.map f).sum := by rw [List.take_of_length_le h]
/-! ### loops, the ends told one by one -/
section
variable {K : PySem.W.Frag} {σ : L2.St} {H : Hp} {g : TG} {tb : TS} {N : L2.St → Hp → Prop} {R : VK}
/-- what a for asks behind its iterable -/
abbrev ForT (J : It) (σ : L2.St) (H : Hp) (g : TG) (tb : TS) (N : L2.St → Hp → Prop) (R : VK) : Prop :=
  ∃ W : Nat → Nat → L2.St → Hp → Prop, (∃ m, W 0 m σ H) ∧ ∀ i m σ H, W i m σ H →
      (J.stop i H ∧ N σ H) ∨ (J.go i H ∧ ∃ M : L2.St → Hp → Prop, (∀ σ' H', M σ' H' → ∃ m', m' < m ∧ W (i + 1) m' σ' H') ∧ ∀ x H', J.yld i H x H' → g x σ H' fun σ2 H2 => tb ⟨M, R, N, M⟩ σ2 H2)
theorem f_it {J : It} {n : Nat} {G : Hp → Prop} {Y : Nat → Hp → V → Hp → Prop} (w : L2.Walk J n G Y) (Pv : Nat → L2.St → Hp → Prop) (h0 : Pv 0 σ H) (hG : ∀ i σ H, i ≤ n → Pv i σ H → G H)
    (hs : ∀ i x σ H H', i < n → Pv i σ H → Y i H x H' → g x σ H' fun σ2 H2 => tb ⟨Pv (i + 1), R, N, Pv (i + 1)⟩ σ2 H2) (hd : ∀ σ H, Pv n σ H → N σ H) : ForT J σ H g tb N R :=
  for_it (D := ⟨N, R, N, N⟩) w Pv h0 hG hs hd
theorem f_range {lo : Int} {n : Nat} (Pv : Nat → L2.St → Hp → Prop) (h0 : Pv 0 σ H)
    (hs : ∀ i σ H, i < n → Pv i σ H → g (.int (lo + i)) σ H fun σ2 H2 => tb ⟨Pv (i + 1), R, N, Pv (i + 1)⟩ σ2 H2) (hd : ∀ σ H, Pv n σ H → N σ H) : ForT (Itr lo n) σ H g tb N R :=
  for_range (D := ⟨N, R, N, N⟩) Pv h0 hs hd
theorem f_rangeC {lo c : Int} {n : Nat} (Pv : Nat → L2.St → Hp → Prop) (h0 : Pv 0 σ H)
    (hs : ∀ i σ H, i < n → Pv i σ H → g (.int (lo + (i : Nat) * c)) σ H fun σ2 H2 => tb ⟨Pv (i + 1), R, N, Pv (i + 1)⟩ σ2 H2) (hd : ∀ σ H, Pv n σ H → N σ H) : ForT (Itc lo c n) σ H g tb N R :=
  for_rangeC (D := ⟨N, R, N, N⟩) Pv h0 hs hd
theorem f_dp {a : Addr} {ds : List PyData} (h : Dp K H (.ref a) (.list ds)) (Pv : Nat → L2.St → Hp → Prop) (h0 : Pv 0 σ H) (hG : ∀ i σ' H', i ≤ ds.length → Pv i σ' H' → Same H H')
    (hs : ∀ i d x σ' H', i < ds.length → ds[i]? = some d → Pv i σ' H' → Dp K H' x d → g x σ' H' fun σ2 H2 => tb ⟨Pv (i + 1), R, N, Pv (i + 1)⟩ σ2 H2) (hd : ∀ σ' H', Pv ds.length σ' H' → N σ' H') : ForT (Itl K a) σ H g tb N R :=
  for_dp (D := ⟨N, R, N, N⟩) h Pv h0 hG hs hd
end
section
variable {σ σ' : L2.St} {H : Hp} {i : Nat} {v x : V} {B C : L2.St → Hp → Prop} {N : L2.St → Hp → Prop} {R : VK} {te : TE}
theorem L_gnameE {Q : L2.St → Hp → Prop} (e : σ.set i (some v) = σ') (h : Q σ' H) : gName i v σ H Q := by subst e; exact h
end
section
variable {K : PySem.W.Frag} {H H' : Hp} {σ : L2.St} {Q : VK} {te : TE} {tl th : TO}
theorem TyX_same {v : V} {t : Value} (e : Same H H') (h : TyX K H v t) : TyX K H' v t := by
  cases h with
  | base h =>
    refine .base ?_
    cases h with
    | non => exact .non
    | bl x => exact .bl x
    | int x => exact .int x
    | str x => exact .str x
    | flt x => exact .flt x
    | lst h => exact .lst (e _ _ h)
    | frz h => exact .frz (e _ _ h)
    | tup h => exact .tup (e _ _ h)
    | dK h => exact .dK (e _ _ h)
    | dT h => exact .dT (e _ _ h)
    | ins h cl ha hn htk hm => exact .ins (e _ _ h) cl ha hn htk hm
  | byt b => exact .byt b
  | set h => exact .set (e _ _ h)
  | kList h c => exact .kList h c
  | kTuple h c => exact .kTuple h c
  | kDict h c => exact .kDict h c
  | fTuple h => exact .fTuple (e _ _ h)
  | fDict h => exact .fDict (e _ _ h)
theorem NotW.same {v : V} (h : NotW K H v) (e : Same H H') : NotW K H' v := by
  rcases h with h | ⟨a, h1, h2⟩
  · exact .inl h
  · exact .inr ⟨a, TyX_same e h1, h2⟩
theorem BadW.same {v : V} {lo hi : Int} (h : BadW K H v lo hi) (e : Same H H') : BadW K H' v lo hi := by
  rcases h with h | h
  · exact .inl (h.same e)
  · exact .inr h
theorem L_sl {r : V → Option Int → Option Int → Hp → VK → Prop} (h : te σ H fun x H1 => tl σ H1 fun l H2 => th σ H2 fun u H3 => r x l u H3 Q) : L2.tSl r te tl th σ H Q := h
theorem L_noPart {R : Option Int → Hp → Prop} (h : R none H) : tNoPart σ H R := h
theorem L_part {t : TE} {R : Option Int → Hp → Prop} (h : t σ H fun x H1 => ∃ i, x = .int i ∧ R (some i) H1) : tPart t σ H R := h
theorem L_ki {i : Int} {R : Int → Prop} (h : R i) : ∃ j, V.int i = V.int j ∧ R j := ⟨i, rfl, h⟩
theorem L_slL {a : Addr} {xs : List V} {lo hi : Option Int} (h : SqL K H a xs) (q : ∀ p, H p = none → Q (.ref p) (upd H p (.lst (cutV xs lo hi)))) : rSlL K (.ref a) lo hi H Q := ⟨a, xs, rfl, h, q⟩
end
def cutG {α : Type} (xs : List α) (lo hi : Option Int) : List α := (xs.drop (HT.sIx xs.length 0 lo)).take (HT.sIx xs.length xs.length hi - HT.sIx xs.length 0 lo)
theorem cutV_map {α : Type} (f : α → V) (xs : List α) (lo hi : Option Int) : cutV (xs.map f) lo hi = (cutG xs lo hi).map f := by
  unfold cutV cutG
  rw [List.length_map, List.map_take, List.map_drop]
theorem cutG_mem {α : Type} {xs : List α} {lo hi : Option Int} {x : α} (h : x ∈ cutG xs lo hi) : x ∈ xs := List.mem_of_mem_drop (List.mem_of_mem_take h)
theorem cutG_len {α : Type} (xs : List α) (lo hi : Option Int) : (cutG xs lo hi).length ≤ xs.length := by
  unfold cutG
  rw [List.length_take, List.length_drop]
  omega
section
variable {K : PySem.W.Frag} {H : Hp} {Q : VK}
/-- one of some things -/
theorem L_menuV {xs : List V} {p : Addr} {i : Int} (h : SqL K H p xs) (h0 : 0 ≤ i) (h1 : i < xs.length) (q : ∀ v ∈ xs, Q v H) : rIx K (.ref p) (.int i) H Q := by
  have hl : i.toNat < xs.length := by omega
  exact L_ixL h (atI_int h0 (List.getElem?_eq_getElem hl)) (q _ (List.getElem_mem hl))
end
theorem hpL {K : PySem.W.Frag} {H : Hp} {a : Addr} {xs : List V} (h : H a = some (.lst xs)) : SqL K H a xs := .of h
theorem hpT {K : PySem.W.Frag} {H : Hp} {a : Addr} {xs : List V} (h : H a = some (.tup xs)) : SqT K H a xs := .of h
theorem bd_mod {x n : Int} (h : 0 < n ∧ n < 18446744073709551616) : Bd 64 (x % n) := bd_64 (by
  have h1 := Int.emod_nonneg x (show n ≠ 0 by omega)
  have h2 := Int.emod_lt_of_pos x h.1
  omega)
theorem hp_from {H0 H : Hp} {p : Addr} {o : HO} (h : H0 p = some o) (e : Same H0 H) : H p = some o := e _ _ h
theorem same_via {H H1 H2 : Hp} (b : Same H1 H2) (a : Same H H1) : Same H H2 := a.trans b
theorem same_upd' {H H' : Hp} {a : Addr} {o : HO} (h : H' a = none) (e : Same H H') : Same H (upd H' a o) := same_upd e h
theorem same_mut' {H H' : Hp} {a : Addr} {o : HO} (h : H a = none) (e : Same H H') : Same H (upd H' a o) := same_mut e h
section
variable {K : PySem.W.Frag} {H : Hp} {σ : L2.St} {Q : VK}
theorem L_clear {a : Addr} {xs : List V} (h : H a = some (.lst xs)) (q : Q .non (upd H a (.lst []))) : rClear (.ref a) [] H Q := ⟨a, xs, rfl, rfl, h, q⟩
theorem L_dnew (h : ∀ p, H p = none → Q (.ref p) (upd H p (.dK []))) : tDNewK σ H Q := h
/-- no list -/
def NotL (K : PySem.W.Frag) (H : Hp) (v : V) : Prop := ∃ a, TyX K H v (.type a) ∧ kitB a "list" = some false
theorem notl_tup {a : Addr} {xs : List V} (h : SqT K H a xs) : NotL K H (.ref a) := ⟨_, tyx_T h, by decide +kernel⟩
theorem notl_non : NotL K H .non := ⟨_, .base .non, by decide +kernel⟩
theorem notl_int {i : Int} : NotL K H (.int i) := ⟨_, .base (.int i), by decide +kernel⟩
theorem notl_bl {i : Bool} : NotL K H (.bl i) := ⟨_, .base (.bl i), by decide +kernel⟩
theorem notl_str {i : Str} : NotL K H (.str i) := ⟨_, .base (.str i), by decide +kernel⟩
theorem notl_dK {a : Addr} {xs : List (Key × V)} (h : H a = some (.dK xs)) : NotL K H (.ref a) := ⟨_, .base (.dK h), by decide +kernel⟩
theorem NotL.same {H' : Hp} {v : V} (h : NotL K H v) (e : Same H H') : NotL K H' v := by
  obtain ⟨a, h1, h2⟩ := h
  exact ⟨a, TyX_same e h1, h2⟩
end
theorem rep1 (x : Int) : ∀ n : Nat, (List.replicate n [V.int x]).flatten = (List.replicate n x).map V.int
  | 0 => rfl
  | n + 1 => by rw [List.replicate_succ, List.flatten_cons, rep1 x n]; rfl
section
variable {K : PySem.W.Frag} {H : Hp} {Q : VK}
theorem L_neB {i j : Bool} (q : Q (.bl (!decide (i = j))) H) : aNe K (.bl i) (.bl j) H Q := .inl ⟨rfl, by rw [show decide (V.bl i = V.bl j) = decide (i = j) by simp]; exact q⟩
end
/-! ### for x in xs: check(x) -/
section
variable {K : PySem.W.Frag} {σ : L2.St} {H : Hp} {N : L2.St → Hp → Prop} {R : VK} {a : Addr} {xs : List V} {sp : Sp} {ES : L2.St → XK} {i : Nat} {c : Value}
theorem set_self (σ : L2.St) (i : Nat) (hi : i < σ.length) : ∃ v, σ = σ.set i v := ⟨σ[i], by simp⟩
theorem L_forChk (hL : SqL K H a xs) (hi : i < σ.length) (hok : ∀ x ∈ xs, ∀ Q E, Q .non H → sp [x] H Q E) (q : ∀ v, N (σ.set i v) H) : ForT (Itl K a) σ H (gName i) (tDrop (tCallS sp ES (tCons (tVar i) tNil))) N R := by
  refine f_it walk_list (fun _ σ' H' => H' = H ∧ ∃ v, σ' = σ.set i v) ⟨rfl, set_self σ i hi⟩ (fun _ _ _ _ p => p.1 ▸ hL) ?_ ?_
  · rintro j x σ' H' H'' hj ⟨rfl, v, rfl⟩ ⟨rfl, e⟩
    refine L_gname (L_drop (L_callS (L_cons (L_var (v := x) ?_ (L_nil (hok x (List.mem_of_getElem? e) _ _ ?_))))))
    · simp [hi]
    · exact ⟨rfl, some x, by rw [List.set_set]⟩
  · rintro σ' H' ⟨rfl, v, rfl⟩
    exact q v
theorem L_forChkX (hL : SqL K H a xs) (hi : i < σ.length) (hx : ∀ x ∈ xs, (∀ Q E, Q .non H → sp [x] H Q E) ∨ ∀ Q E, E c none H → sp [x] H Q E) (hb : ∃ x ∈ xs, ∀ Q E, E c none H → sp [x] H Q E) (q : ∀ v, ES (σ.set i v) c none H) :
    ForT (Itl K a) σ H (gName i) (tDrop (tCallS sp ES (tCons (tVar i) tNil))) N R := by
  obtain ⟨x0, hx0, hb0⟩ := hb
  obtain ⟨j0, hj0⟩ := List.mem_iff_getElem?.mp hx0
  refine f_it walk_list (fun j σ' H' => H' = H ∧ (∃ v, σ' = σ.set i v) ∧ ∃ k x, j ≤ k ∧ xs[k]? = some x ∧ ∀ Q E, E c none H → sp [x] H Q E) ⟨rfl, set_self σ i hi, j0, x0, Nat.zero_le _, hj0, hb0⟩ (fun _ _ _ _ p => p.1 ▸ hL) ?_ ?_
  · rintro j x σ' H' H'' hj ⟨rfl, ⟨v, rfl⟩, k, y, hk, hy, hby⟩ ⟨rfl, e⟩
    refine L_gname (L_drop (L_callS (L_cons (L_var (v := x) ?_ (L_nil ?_)))))
    · simp [hi]
    · by_cases hc : ∀ Q E, E c none H'' → sp [x] H'' Q E
      · exact hc _ _ (by rw [List.set_set]; exact q _)
      · refine (hx x (List.mem_of_getElem? e)).resolve_right hc _ _ ⟨rfl, ⟨some x, by rw [List.set_set]⟩, k, y, ?_, hy, hby⟩
        rcases Nat.lt_or_eq_of_le hk with hlt | rfl
        · exact hlt
        · rw [e] at hy
          cases hy
          exact absurd hby hc
  · rintro σ' H' ⟨rfl, ⟨v, rfl⟩, k, y, hk, hy, hby⟩
    have := (List.getElem?_eq_some_iff.mp hy).1
    omega
end
theorem L_bm0 {K : PySem.W.Frag} {σ : L2.St} {H : Hp} {Q : VK} {te : TE} {T : String} {r : V → List V → Hp → VK → Prop} (h : te σ H fun x H1 => tyV K T x H1 ∧ r x [] H1 Q) : tBM0 K T r te σ H Q := h
/-- what an expression's ways have in common -/
theorem L_via {P : VK → Prop} {Q : VK} (R : V → Hp → Prop) (key : ∀ Q : VK, (∀ v H', R v H' → Q v H') → P Q) (q : ∀ v H', R v H' → Q v H') : P Q := key Q q
section
variable {K : PySem.W.Frag} {H : Hp} {σ : L2.St} {Q : VK} {ta tb : TE}
theorem L_disp1 (h : ∀ p, H p = none → ta σ (upd H p (.dK [])) fun k H1 => tb σ H1 fun v H2 => H2 p = some (.dK []) ∧ ∃ kvs : List (Key × V), [(k, v)] = kvs.map (fun kv => (kV kv.1, kv.2)) ∧ kvs.length ≤ 15 ∧ Q (.ref p) (upd H2 p (.dK (mergeK [] kvs)))) : tDisp [(ta, tb)] σ H Q := h
theorem L_dispE1 {p : Addr} {k v : V} (kk : Key) (e : k = kV kk) (h : H p = some (.dK [])) (q : Q (.ref p) (upd H p (.dK [(kk, v)]))) : H p = some (.dK []) ∧ ∃ kvs : List (Key × V), [(k, v)] = kvs.map (fun kv => (kV kv.1, kv.2)) ∧ kvs.length ≤ 15 ∧ Q (.ref p) (upd H p (.dK (mergeK [] kvs))) :=
  ⟨h, [(kk, v)], by rw [e]; rfl, by simp, q⟩
/-- a sign of a text -/
theorem L_ixSany {z : Str} {i : Int} (hz : z.length ≤ 1000000) (h0 : 0 ≤ i) (h1 : i < z.length) (q : ∀ a ∈ z.cps.toList, Q (.str ⟨#[a]⟩) H) : rIx K (.str z) (.int i) H Q := by
  have hl : i.toNat < z.cps.toList.length := by
    have e : z.cps.toList.length = z.length := by rw [Array.length_toList]; rfl
    omega
  have h3 : z.cps.toList[i.toNat]? = some z.cps.toList[i.toNat] := List.getElem?_eq_getElem hl
  refine L_ixS (sz_dec hz) (a := z.cps.toList[i.toNat]) ?_ (q _ (List.getElem_mem hl))
  obtain ⟨j, rfl⟩ : ∃ j : Nat, i = (j : Int) := ⟨i.toNat, by omega⟩
  exact atI_nat h3
theorem L_inR {i lo hi : Int} {a : Addr} (h : H a = some (.rng lo hi)) (q : Q (.bl (decide (lo ≤ i ∧ i < hi))) H) : (∃ i' a' lo hi, V.int i = V.int i' ∧ V.ref a = V.ref a' ∧ H a' = some (.rng lo hi) ∧ Q (.bl (decide (lo ≤ i' ∧ i' < hi))) H) := ⟨i, a, lo, hi, rfl, rfl, h, q⟩
theorem L_rng2 {i j : Int} (q : ∀ p, H p = none → Q (.ref p) (upd H p (.rng i j))) : (∃ i' j', [V.int i, V.int j] = [V.int i', V.int j'] ∧ ∀ p, H p = none → Q (.ref p) (upd H p (.rng i' j'))) := ⟨i, j, rfl, q⟩
/-- no text -/
def NotS (K : PySem.W.Frag) (H : Hp) (v : V) : Prop := ∃ a, TyX K H v (.type a) ∧ kitB a "str" = some false
theorem nots_tup {a : Addr} {xs : List V} (h : SqT K H a xs) : NotS K H (.ref a) := ⟨_, tyx_T h, by decide +kernel⟩
theorem nots_lst {a : Addr} {xs : List V} (h : SqL K H a xs) : NotS K H (.ref a) := ⟨_, tyx_L h, by decide +kernel⟩
theorem nots_non : NotS K H .non := ⟨_, .base .non, by decide +kernel⟩
theorem nots_int {i : Int} : NotS K H (.int i) := ⟨_, .base (.int i), by decide +kernel⟩
theorem nots_bl {i : Bool} : NotS K H (.bl i) := ⟨_, .base (.bl i), by decide +kernel⟩
theorem nots_dK {a : Addr} {xs : List (Key × V)} (h : H a = some (.dK xs)) : NotS K H (.ref a) := ⟨_, .base (.dK h), by decide +kernel⟩
theorem NotS.same {H' : Hp} {v : V} (h : NotS K H v) (e : Same H H') : NotS K H' v := by
  obtain ⟨a, h1, h2⟩ := h
  exact ⟨a, TyX_same e h1, h2⟩
end
theorem len1 (a : Nat) : (⟨#[a]⟩ : Str).length = 1 := rfl
theorem str_len_append (a b : Str) : (a ++ b).length = a.length + b.length := Array.size_append
theorem str_len {z : Str} : z.cps.toList.length = z.length := by rw [Array.length_toList]; rfl
theorem one_lt {c d : Nat} : ([c] : List Nat) < [d] ↔ c < d := by
  rw [List.cons_lt_cons_iff]
  constructor
  · rintro (h | ⟨_, h⟩)
    · exact h
    · exact absurd h (List.not_lt_nil _)
  · exact .inl
theorem str_app_list (a b : Str) : (a ++ b).cps.toList = a.cps.toList ++ b.cps.toList := Array.toList_append
theorem eqv_nil {ds : List PyData} : PyData.eqv (.list ds) (.list []) = ds.isEmpty := by
  cases ds <;> simp [PyData.eqv, PyData.eqvAll]
theorem strOk_of {z : Str} (h : ∀ c ∈ z.cps.toList, c < 1114112) : PyData.strOk z = true := by
  show (z.cps.all (· < 0x110000)) = true
  rw [← Array.all_toList, List.all_eq_true]
  intro c hc
  exact decide_eq_true (h c hc)
theorem L_nnT {A B : Prop} (a : A) : if (!!true) = true then A else B := L_T a
theorem L_nnF {A B : Prop} (b : B) : if (!!false) = true then A else B := L_F b
theorem bd_128 {i : Int} (h : -340282366920938463463374607431768211456 < i ∧ i < 340282366920938463463374607431768211456) : Bd 128 i := by
  unfold Bd
  have : (2 : Nat) ^ 128 = 340282366920938463463374607431768211456 := by decide
  omega
/-! ### an exception that was caught, held by a name beyond the clause -/
/-- an exception of the class cls at a, its own dict d -/
def ExI (cls : Value) (d : Option Addr) (a : Addr) : HO := .ext fun h => ∃ (oe : Obj) (vs : Array Value), h.get? a = some oe ∧ Zc cls d oe ∧ oe.data = .fields vs
section
variable {X : Cx} {pins : List (Addr × Obj)} {σ : L2.St} {H : Hp} {s : Shared}
theorem track {a : Addr} {d : Option Addr} {cls : Value} {oe : Obj} {vs : Array Value} (I : Inv X pins σ H s) (na : H a = none) (he : s.heap.get? a = some oe) (z : Zc cls d oe) (hd : oe.data = .fields vs) (n0 : X.s_0.heap.get? a = none)
    (nL : a ≠ X.env.locals) (np : ∀ p ∈ X.pn ++ pins, p.1 ≠ a) : Inv X pins σ (upd H a (ExI cls d a)) s where
  ok := I.ok
  os := I.os
  bare := I.bare
  base := {
    keep := I.base.keep
    slot := I.base.slot
    free := fun b o e n hx => by
      rw [upd_ne (fun z => by rw [z, n0] at e; cases e)]
      exact I.base.free b o e n hx
    there := I.base.there
    tups := fun b xs q => by
      have t := I.base.tups b xs q
      rw [upd_ne (ne_of_none t na)]; exact t
    frzs := fun b o u q => by
      have t := I.base.frzs b o u q
      rw [upd_ne (ne_of_none t na)]; exact t
    tbls := fun b ps q => by
      obtain ⟨more, t⟩ := I.base.tbls b ps q
      exact ⟨more, by rw [upd_ne (ne_of_none t na)]; exact t⟩ }
  loc := I.loc
  cell := I.cell
  free := by rw [upd_ne nL.symm]; exact I.free
  freeC := fun x c e => by
    obtain ⟨v, o, ho, hc⟩ := I.cell x c e
    rw [upd_ne (fun z => by rw [z, he] at ho; cases ho; rw [hd] at hc; cases hc)]
    exact I.freeC x c e
  pin := fun p hp => by
    obtain ⟨h1, h2, h3⟩ := I.pin p hp
    exact ⟨h1, by rw [upd_ne (np p hp)]; exact h2, h3⟩
  hok := fun b o e => by
    by_cases hb : b = a
    · cases hb
      rw [upd_same] at e
      cases e
      exact ⟨⟨oe, vs, he, z, hd⟩, ⟨oe, he⟩, fun _ _ ⟨o1, v1, q, r⟩ k => ⟨o1, v1, k o1 q, r⟩⟩
    · rw [upd_ne hb] at e
      exact (I.hok b o e).stay (fun _ _ _ q => q) (fun c q => by rw [upd_ne (ne_of_none q na)]; exact q) fun c xs q => by rw [upd_ne (ne_of_none q na)]; exact q
  len := I.len
end
/-- what 'except x as n' wishes of an exception, which is tracked behind the suite -/
def wAsT (K : PySem.W.Frag) (c : Value) (i : Nat) (ts : Addr → Value → Option Addr → TS) (Wout : WX) (D : Ends) : WX := fun cls d σ H =>
  ∃ b, PySem.W.exmOne K cls c = some b ∧
    (b = true → ∀ a, H a = none → ts a cls d ⟨fun σ' H' => H' a = none → D.nx (σ'.set i none) (upd H' a (ExI cls d a)), D.rt, fun σ' H' => D.bk (σ'.set i none) H', fun σ' H' => D.ct (σ'.set i none) H'⟩ (σ.set i (some (.ref a))) H) ∧
    (b = false → Wout cls d σ H)
section
variable {X : Cx} {x n : Str} {c : Value} {i : Nat} {body suite : List Stmt} {b₀ : Stmt} {np pos pos' : Pos} {tb : WX → TS} {ts : Addr → Value → Option Addr → TS} {Wout : WX}
theorem ps_try_asT (hs : X.stack = X.env :: X.outer) (hf : X.env.frame = some X.env.locals) (hN : X.N.Nodup) (hi : X.N[i]? = some n) (hln : X.env.kindOf n = some .local) (hex : X.ex = []) (hc : Names X x c) (tk : Takes X Wout)
    (hb : ∀ (W : WX) (pn : List (Addr × Obj)) (xe : Value → Shared → Prop), Takes (X.tr pn xe) W → PassesOwn (model X.prog X.w) X.A X.env xe → PSs (X.tr pn xe) body (tb W))
    (hsu : ∀ (a : Addr) (oe : Obj) (cls : Value) (d : Option Addr) (pn : List (Addr × Obj)), Zc cls d oe → (∃ vs, oe.data = .fields vs) → PSs (X.suite a ((a, oe) :: pn)) (b₀ :: suite) (ts a cls d)) :
    PS X (.Try body [.ExceptHandler (some (.Name x np)) (some n) (b₀ :: suite) pos'] [] [] pos) (fun D σ H => tb (wAsT X.K c i ts Wout D) D σ H) := by
  constructor
  intro pins s0 σ0 H0 D I0 start
  have okX := I0.ok
  have frames : X.A.frames = some (X.env :: X.outer) := by
    rw [okX.frames, hs]
  apply wpAny_Try_except
  -- what is raised in the body is looked at by the clause
  let look : Value → Shared → Prop := fun e t1 => wpAny (model X.prog X.w) X.A (noteFrame e X.env) (fun _ t2 => wpAny (model X.prog X.w) X.A (setFlight e none)
    (fun _ t3 => wpAny (model X.prog X.w) X.A (handleBy e X.env [.ExceptHandler (some (.Name x np)) (some n) (b₀ :: suite) pos']) (SP X pins D) X.xe t3) X.xe t2) X.xe t1
  have caught : Takes (X.tr (X.pn ++ pins) look) (wAsT X.K c i ts Wout D) := by
    intro u s' air
    obtain ⟨a, B, sI, pins', σ', H', cls, d, rfl, K', nb, up, sky, na, os, ag, b, exm, yes, no⟩ := air
    have K0 : Inv X pins σ' H' sI := K'.ofTry okX
    have sky1 : Sky B (X.env :: X.outer) a (Zc cls d) X.env.locals s'.heap := hs ▸ sky
    show wpAny (model X.prog X.w) X.A (noteFrame (.ref a) X.env) _ _ _
    apply Sky.land Zc.steady frames hf sky1
    intro h3 fl3 up3
    have J3 : Inv X pins σ' H' { s' with heap := h3 } := K0.landed nb fl3.1 (up.trans up3) os ag
    obtain ⟨oe3, vs3, at3, z3, data3⟩ := fl3.there
    have offFrames : a ∉ frs (X.env :: X.outer) := fun hm => by
      obtain ⟨_, o', there', hnf⟩ := fl3.2.2.1.mem hm
      rw [at3] at there'
      cases there'
      exact hnf _ data3
    have nL : a ≠ X.env.locals := fun e => offFrames (List.mem_filterMap.mpr ⟨X.env, List.mem_cons_self, by rw [hf, e]⟩)
    have nF : a ∉ X.fs := fun hm => by
      obtain ⟨e, he, q⟩ := List.mem_filterMap.mp hm
      exact offFrames (List.mem_filterMap.mpr ⟨e, List.mem_cons_of_mem _ he, q⟩)
    -- a is new: it stood neither at the try's entry nor at the def's
    have newB : B.get? a = none := fl3.2.1
    have newI : sI.heap.get? a = none := by
      cases q : sI.heap.get? a with
      | none => rfl
      | some o =>
        have := nb a o q (by rw [hs]; exact offFrames)
        rw [newB] at this
        cases this
    have new0 : X.s_0.heap.get? a = none := by
      cases q : X.s_0.heap.get? a with
      | none => rfl
      | some o =>
        obtain ⟨o', q'⟩ := K0.base.there a o q (by rw [hex]; exact List.not_mem_nil)
        rw [newI] at q'
        cases q'
    have apart : ∀ p ∈ X.pn ++ pins, p.1 ≠ a := fun p hp e => by
      have := (K0.pin p hp).1
      rw [e, newI] at this
      cases this
    have S3 := J3.suite at3 data3 na nL nF
    apply wpAny_handleBy_cons _ (by intro q; cases q)
    apply codeAny_handlers_test
    have tyA : PySem.W.Looks (model X.prog X.w) h3 (typeOf (.ref a)) cls := fun A Q E t k q => wpAny_typeOf_ref (k _ _ at3) (by rw [z3.1]; exact q)
    have matched := PySem.W.exm_one (M := model X.prog X.w) (J3.kIn) tyA exm
    have named : ∀ {Q : Value → Shared → Prop} {E : Value → Shared → Prop}, Q c { s' with heap := h3 } → wpAny (model X.prog X.w) (X.A.mark (some (.ref a))) (eval (.Name x np) X.env) Q E { s' with heap := h3 } := by
      intro Q E q
      obtain ⟨hg, hdbg, hm⟩ := hc
      rcases hm with hm | ⟨hm, hv, hnn⟩
      · exact ld_glob (X := X.suite a ((a, oe3) :: (X.pn ++ pins))) S3 hg hm q hdbg
      · exact ld_blt (X := X.suite a ((a, oe3) :: (X.pn ++ pins))) S3 hg hm hv q hnn hdbg
    apply named
    apply matched.here
    cases b with
    | true =>
      apply codeAny_handlers_suite_as
      apply HandSPX.lands_againZ fl3
      intro h4 fl4 up4
      have J4 : Inv X pins σ' H' { s' with heap := h4 } := K0.landed nb fl4.1 ((up.trans up3).trans up4) os ag
      obtain ⟨oe4, vs4, at4, z4, data4⟩ := fl4.there
      have S4 := J4.suite at4 data4 na nL nF
      refine store_ok (X := X.suite a ((a, oe4) :: (X.pn ++ pins))) (v := .ref a) S4 hN hi (.inl hln) rfl (fun s5 S5 => ?_) (.inr hln)
      refine wpAny_mono ((hsu a oe4 cls d (X.pn ++ pins) z4 ⟨_, data4⟩).run [] s5 _ H' _ S5 (yes rfl a na)) (fun f s6 hsp => ?_) (fun _ _ z => z.elim)
      -- out of the suite, the exception still pinned
      have out : ∀ {σ6 : L2.St} {H6 : Hp} {Q : Shared → Prop}, Inv (X.suite a ((a, oe4) :: (X.pn ++ pins))) [] σ6 H6 s6 → (∀ s7, Inv X pins (σ6.set i none) H6 s7 → H6 a = none → s7.heap.get? a = some oe4 → Q s7) →
          wpAny (model X.prog X.w) X.A (do bindName X.env n .none; unbindBehindTheSuite X.env n pos') (fun _ s7 => Q s7) X.xe s6 := fun {σ6 H6 Q} S6 hq => by
        have P6 : Inv X ((a, oe4) :: pins) σ6 H6 s6 := { S6.unsuite okX with
          pin := fun p hp => S6.pin p (by
            rcases List.mem_append.mp hp with hp | hp
            · exact List.mem_append_left _ (List.mem_cons_of_mem _ (List.mem_append_left _ hp))
            · rcases List.mem_cons.mp hp with e | hp
              · rw [e]; exact List.mem_append_left _ List.mem_cons_self
              · exact List.mem_append_left _ (List.mem_cons_of_mem _ (List.mem_append_right _ hp))) }
        refine gone_ok P6 hN hi hln fun s7 P7 => ?_
        have pinned := P7.pin (a, oe4) (List.mem_append_right _ List.mem_cons_self)
        refine hq s7 { P7 with pin := fun p hp => P7.pin p ?_ } pinned.2.1 pinned.1
        rcases List.mem_append.mp hp with hp | hp
        · exact List.mem_append_left _ hp
        · exact List.mem_append_right _ (List.mem_cons_of_mem _ hp)
      match f, hsp with
      | .next, ⟨σ6, H6, S6, q6⟩ => exact out S6 fun s7 J7 n6 a6 => ⟨_, _, track J7 n6 a6 z4 data4 new0 nL apart, q6 n6⟩
      | .brk, ⟨σ6, H6, S6, q6⟩ => exact out S6 fun s7 J7 _ _ => ⟨_, _, J7, q6⟩
      | .cont, ⟨σ6, H6, S6, q6⟩ => exact out S6 fun s7 J7 _ _ => ⟨_, _, J7, q6⟩
      | .ret u, ⟨v6, σ6, H6, S6, r6, q6⟩ => exact out S6 fun s7 J7 _ _ => ⟨_, _, _, J7, r6, q6⟩
    | false =>
      show wpAny _ X.A (handleBy (.ref a) X.env []) _ _ _
      apply wpAny_handleBy_nil
      obtain ⟨_, _, _, oe, vs, T, oT, ts', he, hz, hd, h1, hr⟩ := id fl3
      unfold PySem.passOn
      refine wpAny_bind (wpAny_field he hd h1 ?_)
      rw [if_neg (show ¬ ((Value.ref T == Value.none) = true) from by simp)]
      have on : wpAny (model X.prog X.w) X.A (setFlight (.ref a) X.env.frame) (fun _ s4 => wpAny (model X.prog X.w) X.A (throw (.ref a) : Sem Flow) (SP X pins D) X.xe s4) X.xe { s' with heap := h3 } := by
        rw [hf]
        apply HandSPX.setFlight_upZ fl3
        intro h4 held4 up4
        apply wpAny_throw
        apply tk
        exact ⟨a, B, sI, pins, σ', H', cls, d, rfl, K0, nb, (up.trans up3).trans up4, .inr (.inr (by rw [hs]; exact held4)), na, os, ag, no rfl⟩
      first
        | exact wpAny_bind (wpAny_pure (wpAny_bind on))
        | exact wpAny_bind on
  refine wpAny_mono ((hb (wAsT X.K c i ts Wout D) (X.pn ++ pins) look caught PassesOwn.looking).run [] s0 σ0 H0 D (I0.toTry _) start) (fun f s1 hsp => ?_) (fun e s1 he => he)
  match f, hsp with
  | .next, ⟨σ1, H1, J1, q⟩ => exact wpAny_execs_nil ⟨σ1, H1, J1.ofTry okX, q⟩
  | .brk, ⟨σ1, H1, J1, q⟩ => exact ⟨σ1, H1, J1.ofTry okX, q⟩
  | .cont, ⟨σ1, H1, J1, q⟩ => exact ⟨σ1, H1, J1.ofTry okX, q⟩
  | .ret u, ⟨v, σ1, H1, J1, r, q⟩ => exact ⟨v, σ1, H1, J1.ofTry okX, r, q⟩
end
/-- isinstance of a caught exception that a name holds -/
def rIsX (K : PySem.W.Frag) : List V → Hp → VK → Prop := fun xs H Q => ∃ (a D : Addr) (c : V) (u : Value) (b : Bool), xs = [.ref a, c] ∧ H a = some (ExI (.ref D) none a) ∧ L2.ExcC K D ∧ ClsV c u ∧ PySem.W.kitOne K (.ref D) u = some b ∧ Q (.bl b) H
def rIsXT (K : PySem.W.Frag) : List V → Hp → VK → Prop := fun xs H Q => ∃ (a D tp : Addr) (cs : List V) (us : List Value) (b : Bool), xs = [.ref a, .ref tp] ∧ H a = some (ExI (.ref D) none a) ∧ L2.ExcC K D ∧ H tp = some (.tup cs) ∧ Paired ClsV cs us ∧ PySem.W.kitAny K (.ref D) us = some b ∧ Q (.bl b) H
section
variable {X : Cx} {pins : List (Addr × Obj)} {σ : L2.St} {H : Hp} {s : Shared}
theorem exI_at {a D : Addr} (I : Inv X pins σ H s) (h : H a = some (ExI (.ref D) none a)) : ∃ oe, PySem.W.InstAt s.heap a oe D none := by
  obtain ⟨⟨oe, vs, q1, ⟨q2, q3⟩, q4⟩, _⟩ := I.hok a _ h
  obtain ⟨oc, od, oda, osl⟩ := oe
  dsimp only at q2 q3 q4
  subst q2 q3 q4
  exact ⟨_, q1, rfl, rfl, trivial⟩
theorem call_isX : CallR X (.builtin "isinstance") (rIsX X.K) := by
  intro pins s σ H xs us Q I r h
  obtain ⟨a, D, c, u, b, rfl, hx, C, k, e, q⟩ := h
  obtain ⟨u1, u2, rfl, r1, r2⟩ := vals2 r
  cases r1
  cases k.eq r2
  obtain ⟨oe, J⟩ := exI_at I hx
  exact PySem.W.kia_one (PySem.W.handS_kitx_exc C.hg C.hk C.hs C.hd C.ha C.hn C.ht C.hm) I.kIn J e (fun z => nomatch z) fun tk => ⟨.bl b, H, I.tok tk, rfl, q⟩
theorem call_isXT : CallR X (.builtin "isinstance") (rIsXT X.K) := by
  intro pins s σ H xs us Q I r h
  obtain ⟨a, D, tp, cs, ws, b, rfl, hx, C, hT, k, e, q⟩ := h
  obtain ⟨u1, u2, rfl, r1, r2⟩ := vals2 r
  cases r1
  cases (show u2 = Value.ref tp from r2)
  obtain ⟨oe, J⟩ := exI_at I hx
  obtain ⟨_, its, rv, o, h1, h2, n, h3⟩ := (show ObjOk X.prog X.w H s.heap tp (.tup cs) from I.hok tp _ hT)
  have e3 := ClsV.all k rv
  subst e3
  obtain ⟨oc, od, dt, sl⟩ := o
  simp only at h2 h3
  subst h2 h3
  exact PySem.W.kia_tup (PySem.W.handS_kitx_exc C.hg C.hk C.hs C.hd C.ha C.hn C.ht C.hm) I.kIn J h1 e (fun z => nomatch z) fun tk => ⟨.bl b, H, I.tok tk, rfl, q⟩
end
section
variable {K : PySem.W.Frag} {H : Hp} {Q : VK} {C D : Addr} {b : Bool}
theorem kit_ref (hD : PySem.W.subIn K (.ref D) (.ref D) = some true) (k : ExcK K C) (h : PySem.W.subIn K (.ref D) (.ref C) = some b) : PySem.W.kitOne K (.ref D) (.ref C) = some b := by
  unfold PySem.W.kitOne
  by_cases e : D = C
  · subst e
    rw [hD] at h
    cases h
    rw [if_pos (by simp)]
  · rw [if_neg (by simpa using e)]
    have h2 : (PySem.W.clsIn K C).isSome = true := k.i
    show (if ((PySem.W.clsIn K C).isSome && PySem.W.typeIn K (.ref C) == some (.type "type")) = true then PySem.W.subIn K (.ref D) (.ref C) else none) = some b
    rw [if_pos (by rw [h2, k.t]; rfl)]
    exact h
theorem kit_typ {T : String} (hm : PySem.W.kitMeta T = true) (h : PySem.W.subIn K (.ref D) (.type T) = some b) : PySem.W.kitOne K (.ref D) (.type T) = some b := by
  unfold PySem.W.kitOne
  rw [if_neg (by simp)]
  show (if PySem.W.kitMeta T = true then PySem.W.subIn K (.ref D) (.type T) else none) = some b
  rw [if_pos hm]
  exact h
theorem L_isX {a : Addr} {c : V} {u : Value} (h : H a = some (ExI (.ref D) none a)) (C : L2.ExcC K D) (k : ClsV c u) (e : PySem.W.kitOne K (.ref D) u = some b) (q : Q (.bl b) H) : rIsX K [.ref a, c] H Q := ⟨a, D, c, u, b, rfl, h, C, k, e, q⟩
theorem L_isXT {a tp : Addr} {cs : List V} {us : List Value} (h : H a = some (ExI (.ref D) none a)) (C : L2.ExcC K D) (hT : H tp = some (.tup cs)) (k : Paired ClsV cs us) (e : PySem.W.kitAny K (.ref D) us = some b) (q : Q (.bl b) H) : rIsXT K [.ref a, .ref tp] H Q := ⟨a, D, tp, cs, us, b, rfl, h, C, hT, k, e, q⟩
theorem kit_none : ∀ {us : List Value}, (∀ u ∈ us, PySem.W.kitOne K (.ref D) u = some false) → PySem.W.kitAny K (.ref D) us = some false
  | [], _ => rfl
  | u :: us, h => by
    unfold PySem.W.kitAny
    rw [h u (List.mem_cons_self ..)]
    exact kit_none fun x hx => h x (List.mem_cons_of_mem _ hx)
theorem L_asT {c : Value} {i : Nat} {ts : Addr → Value → Option Addr → TS} {Wout : WX} {D : Ends} {σ : L2.St} {cls : Value} {d : Option Addr} (h : PySem.W.exmOne K cls c = some true)
    (q : ∀ a, H a = none → ts a cls d ⟨fun σ' H' => H' a = none → D.nx (σ'.set i none) (upd H' a (ExI cls d a)), D.rt, fun σ' H' => D.bk (σ'.set i none) H', fun σ' H' => D.ct (σ'.set i none) H'⟩ (σ.set i (some (.ref a))) H) : wAsT K c i ts Wout D cls d σ H :=
  ⟨true, h, fun _ => q, fun z => nomatch z⟩
end
/-! ### lists of numbers, and what is none -/
def BadNs (K : PySem.W.Frag) (H : Hp) (v : V) (lo hi : Int) : Prop := NotL K H v ∨ ∃ a xs, v = .ref a ∧ SqL K H a xs ∧ (24 < xs.length ∨ ((∀ x ∈ xs, (∃ t, x = .int t ∧ lo ≤ t ∧ t ≤ hi) ∨ BadW K H x lo hi) ∧ ∃ x ∈ xs, BadW K H x lo hi))
def GoodNs (K : PySem.W.Frag) (H : Hp) (v : V) (ts : List Int) (lo hi : Int) : Prop := ∃ a, v = .ref a ∧ SqL K H a (ts.map V.int) ∧ ts.length ≤ 24 ∧ ∀ t ∈ ts, lo ≤ t ∧ t ≤ hi
section
variable {K : PySem.W.Frag} {H H' : Hp} {v : V} {lo hi : Int} {ts : List Int}
theorem BadNs.same (h : BadNs K H v lo hi) (e : Same H H') : BadNs K H' v lo hi := by
  rcases h with h | ⟨a, xs, h1, h2, h3⟩
  · exact .inl (h.same e)
  · refine .inr ⟨a, xs, h1, e.seq h2, ?_⟩
    rcases h3 with h3 | ⟨h3, x, h4, h5⟩
    · exact .inl h3
    · exact .inr ⟨fun x hx => (h3 x hx).imp id fun b => b.same e, x, h4, h5.same e⟩
theorem GoodNs.same (h : GoodNs K H v ts lo hi) (e : Same H H') : GoodNs K H' v ts lo hi := by
  obtain ⟨a, h1, h2, h3, h4⟩ := h
  exact ⟨a, h1, e.seq h2, h3, h4⟩
theorem bad_one {a : Addr} {x : V} (h : H a = some (.lst [x])) (b : BadW K H x lo hi) : BadNs K H (.ref a) lo hi := .inr ⟨a, _, rfl, .of h, .inr ⟨fun y hy => by rw [List.mem_singleton.mp hy]; exact .inr b, x, List.mem_singleton.mpr rfl, b⟩⟩
theorem good_ns {a : Addr} (h : H a = some (.lst (ts.map V.int))) (hl : ts.length ≤ 24) (hb : ∀ t ∈ ts, lo ≤ t ∧ t ≤ hi) : GoodNs K H (.ref a) ts lo hi := ⟨a, rfl, .of h, hl, hb⟩
theorem int_of_mem {x : V} (h : x ∈ ts.map V.int) : ∃ t ∈ ts, x = .int t := by
  obtain ⟨t, h1, h2⟩ := List.mem_map.mp h
  exact ⟨t, h1, h2.symm⟩
theorem getD_of {i : Nat} {t : Int} (h : ts[i]? = some t) : ts.getD i 0 = t := by rw [List.getD_eq_getElem?_getD, h]; rfl
theorem fm_int {f : Nat → Option Int} {n : Nat} : (List.range n).filterMap (fun i => (f i).map V.int) = ((List.range n).filterMap f).map V.int := by
  rw [List.map_filterMap]
end
/-- pairs of ints as data -/
def d2 (r : Int × Int) : PyData := .tuple [.int r.1, .int r.2]
section
variable {K : PySem.W.Frag} {H : Hp} {v : V} {us : List V} {rows : List (Int × Int)}
theorem of_d2 {r : Int × Int} (h : Dp K H v (d2 r)) : ∃ a, v = .ref a ∧ SqT K H a [.int r.1, .int r.2] := by
  obtain ⟨a, x, y, rfl, h1, h2, h3⟩ := of_t2 h
  rw [of_int h2, of_int h3] at h1
  exact ⟨a, rfl, h1⟩
theorem hit2 (hA : DpAll K H us (rows.map d2)) {i : Nat} {x : V} (hx : us[i]? = some x) : ∃ r t, rows[i]? = some r ∧ x = V.ref t ∧ SqT K H t [.int r.1, .int r.2] := by
  obtain ⟨d, h1, h2⟩ := hA.of hx
  rw [List.getElem?_map] at h1
  obtain ⟨r, h3, rfl⟩ := Option.map_eq_some_iff.mp h1
  obtain ⟨t, rfl, h4⟩ := of_d2 h2
  exact ⟨r, t, h3, rfl, h4⟩
theorem shp_d2s : SeqAt.shaped (.list (rows.map d2)) = true := (shp_lst (n := 1) (shp_map fun r _ => shp_tup (n := 0) (shp_cons shp_int (shp_cons shp_int shp_nil)))).ok
end
theorem cutG_take {α : Type} (xs : List α) (n : Nat) : cutG xs none (some (n : Int)) = xs.take n := by
  unfold cutG
  rw [HT.sIx_none, HT.sIx_nat, List.drop_zero, Nat.sub_zero]
  rcases Nat.le_total n xs.length with h | h
  · rw [Nat.min_eq_left h]
  · rw [Nat.min_eq_right h, List.take_of_length_le (Nat.le_refl _), List.take_of_length_le h]
theorem cutG_drop {α : Type} (xs : List α) (n : Nat) : cutG xs (some (n : Int)) none = xs.drop n := by
  unfold cutG
  rw [HT.sIx_none, HT.sIx_nat]
  rcases Nat.le_total n xs.length with h | h
  · rw [Nat.min_eq_left h, List.take_of_length_le (by rw [List.length_drop]; exact Nat.le_refl _)]
  · rw [Nat.min_eq_right h, List.drop_of_length_le (Nat.le_refl _), List.drop_of_length_le h, List.take_nil]
theorem strOk_lit {z : Str} (h : PyData.strOk z = true) : PyData.strOk z = true := h
theorem dpa_app {K : PySem.W.Frag} {H : Hp} : ∀ {ds es : List PyData} {vs us : List V}, DpAll K H (vs ++ us) (ds ++ es) → vs.length = ds.length → DpAll K H vs ds ∧ DpAll K H us es
  | [], _, [], _, h, _ => ⟨.nil, h⟩
  | [], _, _ :: _, _, _, e => by simp at e
  | _ :: _, _, [], _, _, e => by simp at e
  | d :: ds, _, v :: vs, _, h, e => by
    cases h with
    | cons h1 h2 =>
      obtain ⟨a, b⟩ := dpa_app h2 (by simpa using e)
      exact ⟨.cons h1 a, b⟩
theorem nn_ints_or {K : PySem.W.Frag} {H : Hp} {x : V} {ts : List Int} {lo hi : Int} (hb : ∀ t ∈ ts, lo ≤ t ∧ t ≤ hi) (h : x ∈ ts.map V.int) : (∃ t, x = .int t ∧ lo ≤ t ∧ t ≤ hi) ∨ BadW K H x lo hi := by
  obtain ⟨t, ht, e⟩ := int_of_mem h
  exact .inl ⟨t, e, hb t ht⟩
theorem rep_len {α : Type} (xs : List α) : ∀ n : Nat, (List.replicate n xs).flatten.length = n * xs.length
  | 0 => by simp
  | n + 1 => by rw [List.replicate_succ, List.flatten_cons, List.length_append, rep_len xs n, Nat.succ_mul, Nat.add_comm]
/-! ### exceptions whose own __init__ asks their base's by its name -/
/-- S.__init__, S an own class, is ValueError's -/
structure BaseI (K : PySem.W.Frag) (S : Addr) : Prop where
  rd : PySem.W.readsIn K S (.type "type") = true
  ga : PySem.W.specialIn K (.ref S) "__getattribute__" = some (some (.builtin "type.__getattribute__"))
  vi : PySem.W.findCls K (.ref S) (.type "type") "__init__" = some (.val (.builtin "ValueError.__init__"))
structure XIniAt (K : PySem.W.Frag) (C : Addr) (qual : Str) (st : Stmt) (ps : List Str) : Prop where
  ex : ∃ (f : Addr) (fd : FuncData), Fun K "__init__" qual st f fd ∧ PySem.W.findIn K (.ref C) "__init__" = some (some (.ref f)) ∧ PySem.W.isFn K (.ref f) = true ∧ Binds K fd ps []
/-- an exception that may be made by its class's name -/
structure XMak (P : Program) (w : World) (K : PySem.W.Frag) (mg : Str → Option Value) (base : Heap) (k : Nat) (x : Str) (C : Addr) (sp : Sp) : Prop where
  ex : ∃ (f : Addr) (fd : FuncData) (ps : List Str), FnOk P w K mg base CX0 k f fd ps sp ∧ PySem.W.findIn K (.ref C) "__init__" = some (some (.ref f)) ∧ PySem.W.typeIn K (.ref f) = some (.type "function") ∧ mg x = some (.ref C) ∧ Binds K fd ps []
section
variable {P : Program} {w : World} {K : PySem.W.Frag} {mg : Str → Option Value} {base : Heap}
theorem XIniAt.xmak {x : Str} {C : Addr} {qual : Str} {st : Stmt} {N ps : List Str} {k : Nat} {sp : Sp} (hx : mg x = some (.ref C)) (d : XIniAt K C qual st ps) (S : FnScope N ps (defScope st)) (len : ∀ vs H Q E, sp vs H Q E → vs.length = ps.length)
    (hbody : ∀ (f : Addr) (cdv : Value) (A : Around) (outer : List Env) (s : Shared) (H : Hp) (vs : List V) (Q : VK) (E : XK), Room k (A.deeper (envOfC qual (defScope st) s.heap.objs.size f cdv)) → sp vs H Q E →
      ∃ t, PSs (cxOf CX0 P w K mg base N qual (defScope st) f cdv A outer s H E).nox (defBody st) t ∧ t { nx := fun _ H' => Q .non H', rt := Q } (start N vs) H) : XMak P w K mg base (k + 1) x C sp := by
  obtain ⟨f, fd, F, h1, h2, b⟩ := d.ex
  exact ⟨f, fd, ps, F.ok S len (hbody f), h1, beq_iff_eq.mp h2, hx, b⟩
end
section
variable {X : Cx} {k j : Nat} {C S : Addr} {x : Str} {sp : Sp} {p p1 p2 pos : Pos} {e : Expr} {es : List Expr} {ta : TA}
theorem pmk_x (c : XMak X.prog X.w X.K X.mg X.base k x C sp) (T : OexC X.K C) (hr : Room j X.A) (hk : k + 1 ≤ j) (hg : Gl X x) (ha : PA X (e :: es) ta)
    (hdb : (x == ("__debug__" : Str)) = false := by decide) (he : starEach (e :: es) X.env = (false, eval e X.env) :: starEach es X.env := by rfl) (hpl : (backTo pos (starEach es X.env)).any (·.1) = false := by rfl) :
    PMk X (.Call (.Name x p) (e :: es) [] pos) (tMkO C sp [] ta) := by
  obtain ⟨f, fd, ps, F, h1, h2, hm, b⟩ := c.ex
  exact pmk_oex T h1 h2 F (hr.mono hk) b .nil pass0 hg hm ha hdb he hpl
theorem pe_baseI {pl : Sem Bool} (hg : Gl X x) (hm : X.mg x = some (.ref S)) (B : BaseI X.K S) (ha : PA X (e :: es) ta)
    (hc : eval (.Call (.Attribute (.Name x p1) "__init__" p2) (e :: es) [] pos) X.env = (do
      let ov ← eval (.Name x p1) X.env
      standAt p2.atName
      let (f, first) ← holding [ov] (getMethod ov "__init__" pl)
      callWith pos f first (backTo pos (starEach (e :: es) X.env)) (backToKw pos (keywordEach [] X.env))) := by rfl)
    (hdb : (x == ("__debug__" : Str)) = false := by decide) (he : starEach (e :: es) X.env = (false, eval e X.env) :: starEach es X.env := by rfl) (hpl : (backTo pos (starEach es X.env)).any (·.1) = false := by rfl) :
    PE X (.Call (.Attribute (.Name x p1) "__init__" p2) (e :: es) [] pos) (tVeI X.K ta) := by
  constructor
  intro pins s σ H Q I h
  have asked : ∀ s1, Inv X pins σ H s1 → wpAny (model X.prog X.w) X.A (callWith pos (Value.builtin "ValueError.__init__") [] (backTo pos (starEach (e :: es) X.env)) []) (EP X pins σ Q) X.xe s1 := fun s1 I1 =>
    PyProof.Rows.callWith_method1 (thn (ha.run pos pins s1 σ H _ I1 h) fun us s2 ⟨vs, H2, I2, r, a, D, ws, evs, few, T, atA, q⟩ => by
      subst evs
      cases r with
      | @cons _ u0 _ ur r0 rr =>
        obtain rfl : u0 = Value.ref a := r0
        have few' : ur.length ≤ sizeLine := by
          have := Paired.length rr
          have := sizeLine_eq
          omega
        exact oinit_ok T I2 atA few' fun s3 I3 => ⟨.non, H2, I3, rfl, q⟩) he hpl
  refine PySem.W.methodCall_KW (ld_glob I hg hm ?_ hdb) hc
  refine PySem.W.method_cls I.kIn B.ga (PySem.W.cls_value I.kIn B.rd B.vi (by decide +kernel) ?_)
  exact asked _ (I.tok _)
end
section
variable {K : PySem.W.Frag} {σ : L2.St} {H : Hp} {D : Ends} {C a : Addr} {f : Str} {y : V} {ta : TA} {te to : TE}
theorem L_veI {R : Hp → Prop} {ws : List V} (T : OexC K C) (h : H a = some (exo a C none)) (l : ws.length ≤ 1000) (q : R H) : ∃ (a' C : Addr) (ws' : List V), V.ref a :: ws = .ref a' :: ws' ∧ ws'.length ≤ 1000 ∧ OexC K C ∧ H a' = some (exo a' C none) ∧ R H := ⟨a, C, ws, rfl, l, T, h, q⟩
theorem L_tveI {Q : VK} (h : ta σ H fun vs H1 => ∃ (a C : Addr) (ws : List V), vs = .ref a :: ws ∧ ws.length ≤ 1000 ∧ OexC K C ∧ H1 a = some (exo a C none) ∧ Q .non H1) : tVeI K ta σ H Q := h
theorem L_ost (h : te σ H fun y H1 => to σ H1 fun x H2 => ∃ a C : Addr, x = .ref a ∧ OexC K C ∧ PySem.W.findIn K (.ref C) f = some none ∧
  ((H2 a = some (exo a C none) ∧ ∀ dx, H2 dx = none → dx ≠ a → D.nx σ (upd (upd H2 dx (exd dx [(f, y)])) a (exo a C (some dx)))) ∨
    ∃ (dx : Addr) (fs : List (Str × V)), H2 a = some (exo a C (some dx)) ∧ H2 dx = some (exd dx fs) ∧ fs.length ≤ 900 ∧ D.nx σ (upd H2 dx (exd dx ((f, y) :: fs))))) : tOst K f to te D σ H := h
theorem L_ost1 {R : Hp → Prop} (T : OexC K C) (nf : PySem.W.findIn K (.ref C) f = some none) (h : H a = some (exo a C none)) (q : ∀ dx, H dx = none → dx ≠ a → R (upd (upd H dx (exd dx [(f, y)])) a (exo a C (some dx)))) :
    ∃ a' C : Addr, V.ref a = .ref a' ∧ OexC K C ∧ PySem.W.findIn K (.ref C) f = some none ∧
  ((H a' = some (exo a' C none) ∧ ∀ dx, H dx = none → dx ≠ a' → R (upd (upd H dx (exd dx [(f, y)])) a' (exo a' C (some dx)))) ∨
    ∃ (dx : Addr) (fs : List (Str × V)), H a' = some (exo a' C (some dx)) ∧ H dx = some (exd dx fs) ∧ fs.length ≤ 900 ∧ R (upd H dx (exd dx ((f, y) :: fs)))) := ⟨a, C, rfl, T, nf, .inl ⟨h, q⟩⟩
/-- what an __init__ with one field keeps -/
def XIni1 (C : Addr) (f : Str) (a : Addr) (v : V) (H : Hp) (Q : VK) : Prop := H a = some (exo a C none) ∧ ∀ d, H d = none → d ≠ a → Q .non (upd (upd H d (exd d [(f, v)])) a (exo a C (some d)))
/-- C(v) is raised -/
theorem L_mkO1 {sp : Sp} {E : XK} {v : V} (hs : ∀ a H Q E, XIni1 C f a v H Q → sp [.ref a, v] H Q E) (q : ∀ d, H d = none → E (.ref C) (some d) (upd H d (.xd [(f, v)]))) : [v].length ≤ 1000 ∧ ∀ a, H a = none → sp (.ref a :: ([v] ++ [])) (upd H a (exo a C none))
  (fun v H2 => v = .non ∧ ∃ (d : Addr) (fs : List (Str × V)), H2 a = some (exo a C (some d)) ∧ H2 d = some (exd d fs) ∧ H d = none ∧ E (.ref C) (some d) (upd (del H2 a) d (.xd fs))) (fun _ _ _ => False) := by
  refine ⟨by rw [List.length_singleton]; decide, fun a na => hs a _ _ _ ⟨upd_same, fun d nd ne => ⟨rfl, d, [(f, v)], upd_same, ?_, ?_, ?_⟩⟩⟩
  · rw [upd_ne ne, upd_same]
  · rw [upd_ne ne] at nd
    exact nd
  · rw [upd_ne ne] at nd
    have z : upd (del (upd (upd (upd H a (exo a C none)) d (exd d [(f, v)])) a (exo a C (some d))) a) d (.xd [(f, v)]) = upd H d (.xd [(f, v)]) := by
      funext b
      by_cases hb : b = d
      · rw [hb, upd_same, upd_same]
      · rw [upd_ne hb, upd_ne hb]
        by_cases ha : b = a
        · rw [ha, del_same, na]
        · rw [del_ne ha, upd_ne ha, upd_ne hb, upd_ne ha]
    rw [z]
    exact q d nd
theorem L_mkO {sp : Sp} {dvs : List V} {Q : XK} (h : ta σ H fun vs H1 => vs.length ≤ 1000 ∧ ∀ a, H1 a = none → sp (.ref a :: (vs ++ dvs)) (upd H1 a (exo a C none))
  (fun v H2 => v = .non ∧ ∃ (d : Addr) (fs : List (Str × V)), H2 a = some (exo a C (some d)) ∧ H2 d = some (exd d fs) ∧ H1 d = none ∧ Q (.ref C) (some d) (upd (del H2 a) d (.xd fs))) (fun _ _ _ => False)) : tMkO C sp dvs ta σ H Q := h
end
/-- isinstance(e, c) in e's own suite, whatever its dict -/
def rIsS (K : PySem.W.Frag) (a : Addr) (cls : Value) (d : Option Addr) : List V → Hp → VK → Prop := fun xs H Q => ∃ (D : Addr) (c : V) (u : Value) (b : Bool), xs = [.ref a, c] ∧ cls = .ref D ∧ (∀ dd, d = some dd → ∃ fs, H dd = some (.xd fs)) ∧ L2.ExcC K D ∧ ClsV c u ∧ PySem.W.kitOne K (.ref D) u = some b ∧ Q (.bl b) H
theorem call_isS {X : Cx} {a : Addr} {cls : Value} {d : Option Addr} {oe : Obj} {pn : List (Addr × Obj)} (hz : Zc cls d oe) (hf : ∃ vs, oe.data = .fields vs) : CallR (X.suite a ((a, oe) :: pn)) (.builtin "isinstance") (rIsS X.K a cls d) := by
  intro pins s σ H xs us Q I r h
  obtain ⟨D, c, u, b, rfl, rfl, hd, C, k, e, q⟩ := h
  obtain ⟨u1, u2, rfl, r1, r2⟩ := vals2 r
  cases r1
  cases k.eq r2
  obtain ⟨there, _⟩ := I.pin (a, oe) (List.mem_append_left _ List.mem_cons_self)
  obtain ⟨vs, data⟩ := hf
  have J : ∃ od, PySem.W.InstAt s.heap a oe D od := by
    have nc : PySem.W.notCls oe = true := by unfold PySem.W.notCls; rw [data] <;> rfl
    cases d with
    | none => exact ⟨none, there, hz.1, nc, by rw [hz.2]; exact True.intro⟩
    | some dd =>
      obtain ⟨fs, hdd⟩ := hd dd rfl
      obtain ⟨mA, ⟨o, es, ep, ho, _⟩, _⟩ := (show ObjOk X.prog X.w H s.heap dd (.xd fs) from I.hok dd _ hdd)
      exact ⟨some o, there, hz.1, nc, by rw [hz.2]; exact ho⟩
  obtain ⟨od, J⟩ := J
  obtain ⟨cd, hcd, _⟩ := PySem.W.any_some C.hd
  exact PySem.W.kia_one (PySem.W.kitx_exc (show (PySem.W.clsIn _ D).isSome = true by rw [hcd]; rfl) C.hg C.hk C.hs C.ha C.hn C.ht C.hm) I.kIn J e (fun z => nomatch z) fun tk => ⟨.bl b, H, I.tok tk, rfl, q⟩
theorem L_isS {K : PySem.W.Frag} {H : Hp} {Q : VK} {a D : Addr} {d : Option Addr} {c : V} {u : Value} {b : Bool} (hd : ∀ dd, d = some dd → ∃ fs, H dd = some (.xd fs)) (C : L2.ExcC K D) (k : ClsV c u) (e : PySem.W.kitOne K (.ref D) u = some b) (q : Q (.bl b) H) : rIsS K a (.ref D) d [.ref a, c] H Q := ⟨D, c, u, b, rfl, rfl, hd, C, k, e, q⟩
/-- the same, of some classes -/
def rIsST (K : PySem.W.Frag) (a : Addr) (cls : Value) (d : Option Addr) : List V → Hp → VK → Prop := fun xs H Q => ∃ (D tp : Addr) (cs : List V) (ws : List Value) (b : Bool), xs = [.ref a, .ref tp] ∧ cls = .ref D ∧ (∀ dd, d = some dd → ∃ fs, H dd = some (.xd fs)) ∧ L2.ExcC K D ∧ H tp = some (.tup cs) ∧ Paired ClsV cs ws ∧ PySem.W.kitAny K (.ref D) ws = some b ∧ Q (.bl b) H
theorem call_isST {X : Cx} {a : Addr} {cls : Value} {d : Option Addr} {oe : Obj} {pn : List (Addr × Obj)} (hz : Zc cls d oe) (hf : ∃ vs, oe.data = .fields vs) : CallR (X.suite a ((a, oe) :: pn)) (.builtin "isinstance") (rIsST X.K a cls d) := by
  intro pins s σ H xs us Q I r h
  obtain ⟨D, tp, cs, ws, b, rfl, rfl, hd, C, hT, k, e, q⟩ := h
  obtain ⟨u1, u2, rfl, r1, r2⟩ := vals2 r
  cases r1
  cases (show u2 = Value.ref tp from r2)
  obtain ⟨there, _⟩ := I.pin (a, oe) (List.mem_append_left _ List.mem_cons_self)
  obtain ⟨vs, data⟩ := hf
  have J : ∃ od, PySem.W.InstAt s.heap a oe D od := by
    have nc : PySem.W.notCls oe = true := by unfold PySem.W.notCls; rw [data] <;> rfl
    cases d with
    | none => exact ⟨none, there, hz.1, nc, by rw [hz.2]; exact True.intro⟩
    | some dd =>
      obtain ⟨fs, hdd⟩ := hd dd rfl
      obtain ⟨mA, ⟨o, es, ep, ho, _⟩, _⟩ := (show ObjOk X.prog X.w H s.heap dd (.xd fs) from I.hok dd _ hdd)
      exact ⟨some o, there, hz.1, nc, by rw [hz.2]; exact ho⟩
  obtain ⟨od, J⟩ := J
  obtain ⟨_, its, rv, o, h1, h2, n, h3⟩ := (show ObjOk X.prog X.w H s.heap tp (.tup cs) from I.hok tp _ hT)
  have e3 := ClsV.all k rv
  subst e3
  obtain ⟨oc, od2, dt, sl⟩ := o
  simp only at h2 h3
  subst h2 h3
  obtain ⟨cd, hcd, _⟩ := PySem.W.any_some C.hd
  exact PySem.W.kia_tup (PySem.W.kitx_exc (show (PySem.W.clsIn _ D).isSome = true by rw [hcd]; rfl) C.hg C.hk C.hs C.ha C.hn C.ht C.hm) I.kIn J h1 e (fun z => nomatch z) fun tk => ⟨.bl b, H, I.tok tk, rfl, q⟩
theorem L_isST {K : PySem.W.Frag} {H : Hp} {Q : VK} {a D tp : Addr} {d : Option Addr} {cs : List V} {ws : List Value} {b : Bool} (hd : ∀ dd, d = some dd → ∃ fs, H dd = some (.xd fs)) (C : L2.ExcC K D) (hT : H tp = some (.tup cs)) (k : Paired ClsV cs ws) (e : PySem.W.kitAny K (.ref D) ws = some b) (q : Q (.bl b) H) : rIsST K a (.ref D) d [.ref a, .ref tp] H Q := ⟨D, tp, cs, ws, b, rfl, rfl, hd, C, hT, k, e, q⟩
/-- one of two derivations -/
def tOrE (t1 t2 : TE) : TE := fun σ H Q => t1 σ H Q ∨ t2 σ H Q
theorem PE.or {X : Cx} {e : Expr} {t1 t2 : TE} (h1 : PE X e t1) (h2 : PE X e t2) : PE X e (tOrE t1 t2) :=
  ⟨fun pins s σ H Q I h => h.elim (fun h => h1.run pins s σ H Q I h) (fun h => h2.run pins s σ H Q I h)⟩
/-- what isinstance asks of an instance's own class; of the class it is asked of -/
structure InsC (K : PySem.W.Frag) (C : Addr) : Prop where
  ha : PySem.W.findIn K (.ref C) "__class__" = some (some (.builtin "object.__class__"))
  hn : PySem.W.specialIn K (.builtin "object.__class__") "__get__" = some (some (.builtin "getset_descriptor.__get__"))
  ht : PySem.W.takesIn K (.builtin "object.__class__") = some true
  hm : PySem.W.mroIn K C (.type "object") = some true
structure ClsT (K : PySem.W.Frag) (C : Addr) : Prop where
  i : PySem.W.isClsIn K C = true
  t : PySem.W.typeIn K (.ref C) = some (.type "type")
theorem tyx_I {K : PySem.W.Frag} {H : Hp} {a C dx : Addr} {fs : List (Str × V)} (h : H a = some (.ins C dx fs)) (cl : Cls K C) (c : InsC K C) : TyX K H (.ref a) (.ref C) := .base (.ins h cl c.ha c.hn c.ht c.hm)
theorem kit_own {K : PySem.W.Frag} {C D : Addr} {b : Bool} (hD : PySem.W.subIn K (.ref D) (.ref D) = some true) (k : ClsT K C) (h : PySem.W.subIn K (.ref D) (.ref C) = some b) : PySem.W.kitOne K (.ref D) (.ref C) = some b := by
  unfold PySem.W.kitOne
  by_cases e : D = C
  · subst e
    rw [hD] at h
    cases h
    rw [if_pos (by simp)]
  · rw [if_neg (by simpa using e)]
    have h2 : (PySem.W.clsIn K C).isSome = true := k.i
    show (if ((PySem.W.clsIn K C).isSome && PySem.W.typeIn K (.ref C) == some (.type "type")) = true then PySem.W.subIn K (.ref D) (.ref C) else none) = some b
    rw [if_pos (by rw [h2, k.t]; rfl)]
    exact h
theorem kit_not {K : PySem.W.Frag} {T : String} {C : Addr} {b : Bool} (k : ClsT K C) (h : PySem.W.subIn K (.type T) (.ref C) = some b) : PySem.W.kitOne K (.type T) (.ref C) = some b := by
  unfold PySem.W.kitOne
  rw [if_neg (by simp)]
  have h2 : (PySem.W.clsIn K C).isSome = true := k.i
  show (if ((PySem.W.clsIn K C).isSome && PySem.W.typeIn K (.ref C) == some (.type "type")) = true then PySem.W.subIn K (.type T) (.ref C) else none) = some b
  rw [if_pos (by rw [h2, k.t]; rfl)]
  exact h
theorem L_orl {t1 t2 : TE} {σ : L2.St} {H : Hp} {Q : VK} (h : t1 σ H Q) : tOrE t1 t2 σ H Q := .inl h
theorem L_orr {t1 t2 : TE} {σ : L2.St} {H : Hp} {Q : VK} (h : t2 σ H Q) : tOrE t1 t2 σ H Q := .inr h
theorem L_xf {a C : Addr} {cls : Value} {d : Option Addr} {f : Str} {te : TE} {σ : L2.St} {H : Hp} {Q : VK} (h : te σ H fun x H1 => x = .ref a ∧ cls = .ref C ∧ ∃ (dd : Addr) (fs : List (Str × V)) (v : V), d = some dd ∧ H1 dd = some (.xd fs) ∧ fs.lookup f = some v ∧ Q v H1) : tXf a cls d C f te σ H Q := h
theorem ExcC.xf {K : PySem.W.Frag} {C : Addr} (c : L2.ExcC K C) : XfC K C := ⟨c.hg, c.hk, c.hs, c.hd⟩
theorem L_isC {K : PySem.W.Frag} {H : Hp} {Q : VK} {x : V} {T : Value} {C : Addr} {b : Bool} (ty : TyX K H x T) (e : PySem.W.kitOne K T (.ref C) = some b) (q : Q (.bl b) H) : rIsi K [x, .ref C] H Q := ⟨x, .ref C, T, .ref C, b, rfl, .own C, ty, e, q⟩
theorem L_str1 {H : Hp} {Q : VK} {t : Int} (h : 0 ≤ t ∧ t ≤ 1000) (q : Q (.str (toString t)) H) : aStr1 [.int t] H Q := ⟨t, rfl, by have := Nat.log2_le_self t.natAbs; omega, q⟩
theorem str_short : ∀ t : Int, 0 ≤ t → t ≤ 100 → (↑(toString t) : Str).length ≤ 3 := by
  have h : ∀ n ∈ List.range 101, (↑(toString ((n : Nat) : Int)) : Str).length ≤ 3 := by decide +kernel
  intro t h0 h1
  have := h t.toNat (List.mem_range.mpr (by omega))
  rwa [Int.toNat_of_nonneg h0] at this

/-! ### exceptions held as values -/
/-- at a: an exception of the own class D, not raised; fs: its own fields -/
def XVal (H : Hp) (a D : Addr) (fs : List (Str × V)) : Prop := (fs = [] ∧ H a = some (ExI (.ref D) none a)) ∨ ∃ d, H a = some (exo a D (some d)) ∧ H d = some (exd d fs)
theorem XVal.same {H H' : Hp} {a D : Addr} {fs : List (Str × V)} (h : XVal H a D fs) (s : Same H H') : XVal H' a D fs := by
  rcases h with ⟨h1, h2⟩ | ⟨d, h1, h2⟩
  · exact .inl ⟨h1, s _ _ h2⟩
  · exact .inr ⟨d, s _ _ h1, s _ _ h2⟩
theorem xval_inst {X : Cx} {pins : List (Addr × Obj)} {σ : L2.St} {H : Hp} {s : Shared} {a D : Addr} {fs : List (Str × V)} (I : Inv X pins σ H s) (h : XVal H a D fs) : ∃ oe od, PySem.W.InstAt s.heap a oe D od := by
  rcases h with ⟨_, h⟩ | ⟨d, h1, h2⟩
  · obtain ⟨oe, J⟩ := exI_at I h
    exact ⟨oe, none, J⟩
  · obtain ⟨t1, ho⟩ := exo_at I.hok h1
    obtain ⟨mA, ⟨o, _, _, hd, _⟩, _⟩ := exd_at I.hok h2
    exact ⟨_, some o, ho, rfl, rfl, hd⟩
def rIsV (K : PySem.W.Frag) : List V → Hp → VK → Prop := fun xs H Q => ∃ (a D : Addr) (fs : List (Str × V)) (c : V) (u : Value) (b : Bool), xs = [.ref a, c] ∧ XVal H a D fs ∧ L2.ExcC K D ∧ ClsV c u ∧ PySem.W.kitOne K (.ref D) u = some b ∧ Q (.bl b) H
theorem call_isV {X : Cx} : CallR X (.builtin "isinstance") (rIsV X.K) := by
  intro pins s σ H xs us Q I r h
  obtain ⟨a, D, fs, c, u, b, rfl, hx, C, k, e, q⟩ := h
  obtain ⟨u1, u2, rfl, r1, r2⟩ := vals2 r
  cases r1
  cases k.eq r2
  obtain ⟨oe, od, J⟩ := xval_inst I hx
  obtain ⟨cd, hcd, _⟩ := PySem.W.any_some C.hd
  exact PySem.W.kia_one (PySem.W.kitx_exc (show (PySem.W.clsIn _ D).isSome = true by rw [hcd]; rfl) C.hg C.hk C.hs C.ha C.hn C.ht C.hm) I.kIn J e (fun z => nomatch z) fun tk => ⟨.bl b, H, I.tok tk, rfl, q⟩
theorem L_isV {K : PySem.W.Frag} {H : Hp} {Q : VK} {a D : Addr} {fs : List (Str × V)} {c : V} {u : Value} {b : Bool} (h : XVal H a D fs) (C : L2.ExcC K D) (k : ClsV c u) (e : PySem.W.kitOne K (.ref D) u = some b) (q : Q (.bl b) H) : rIsV K [.ref a, c] H Q := ⟨a, D, fs, c, u, b, rfl, h, C, k, e, q⟩
/-- e.f, e such a value -/
def tXv (K : PySem.W.Frag) (f : Str) (te : TE) : TE := fun σ H Q => te σ H fun x H1 => ∃ (a D d : Addr) (fs : List (Str × V)) (v : V), x = .ref a ∧ L2.ExcC K D ∧ PySem.W.findIn K (.ref D) f = some none ∧ H1 a = some (exo a D (some d)) ∧ H1 d = some (exd d fs) ∧ fs.lookup f = some v ∧ Q v H1
theorem L_xv {K : PySem.W.Frag} {f : Str} {te : TE} {σ : L2.St} {H : Hp} {Q : VK} (h : te σ H fun x H1 => ∃ (a D d : Addr) (fs : List (Str × V)) (v : V), x = .ref a ∧ L2.ExcC K D ∧ PySem.W.findIn K (.ref D) f = some none ∧ H1 a = some (exo a D (some d)) ∧ H1 d = some (exd d fs) ∧ fs.lookup f = some v ∧ Q v H1) : tXv K f te σ H Q := h
theorem pe_xv {X : Cx} {e : Expr} {te : TE} {f : Str} {pos : Pos} (he : PE X e te) (hb : attributeBase e f X.env (eval e X.env) = eval e X.env := by rfl) : PE X (.Attribute e f pos) (tXv X.K f te) := by
  constructor
  intro pins s σ H Q I h
  refine attr_of hb (thn (he.run pins s σ H _ I h) fun u s1 ⟨x, H1, I1, rx, a, D, d, fs, v, ex, C, nf, h1, h2, l, q⟩ => ?_)
  subst ex
  cases rx
  obtain ⟨t1, ho⟩ := exo_at I1.hok h1
  obtain ⟨mA, hns, rel⟩ := exd_at I1.hok h2
  obtain ⟨od, hod, hlk⟩ := lookIn_ns hns
  obtain ⟨w, hw, rw'⟩ := RelO.some_of (v := v) (o := mA f) (by rw [← l]; exact rel f)
  have J : PySem.W.InstAt s1.heap a _ D (some od) := ⟨ho, rfl, rfl, hod⟩
  exact HandSPX.exc_get I1.kIn J C.hg C.hk C.hs (PySem.W.findObj_own C.hd nf rfl (by rw [hlk, hw])) (handed_of rw') ⟨v, H1, I1.tok _, rw', q⟩
/-- C(), C without an own __init__ -/
def tMk0V (C : Addr) : TE := fun _ H Q => ∀ a, H a = none → Q (.ref a) (upd H a (ExI (.ref C) none a))
theorem pe_mk0V {X : Cx} {C : Addr} {x : Str} {p pos : Pos} (c : ExcAt X.K C) (gC : X.mg x = some (.ref C)) (hg : Gl X x) (hdb : (x == ("__debug__" : Str)) = false := by decide) : PE X (.Call (.Name x p) [] [] pos) (tMk0V C) := by
  constructor
  intro pins s σ H Q I h
  refine wpAny_Call_Name_kw (ld_glob I hg gC ?_ hdb)
  refine PySem.W.callWith_K0 I.kIn c.k ?_
  obtain ⟨bm, N, nm, qn, bs, hdct, sn, sub, ab, col, dd, k0, k1, k2, k3, k5, mN, hC, hN, hni, T⟩ := exc_obj I.kIn c.x
  refine wpAny_call_exc_subT PySem.F.excBase_ValueError T hC hN hni (fun h' a hm => ?_) (Nat.zero_le _)
  have na : H a = none := I.hok.gone hm.new
  obtain ⟨t, at_, _, _⟩ := hm.there
  refine ⟨.ref a, _, I.laidN (o := ExI (.ref C) none a) hm.keeps hm.new na ⟨⟨_, _, at_, ⟨rfl, rfl⟩, rfl⟩, ⟨_, at_⟩, fun _ _ ⟨o1, v1, z, r⟩ k => ⟨o1, v1, k o1 z, r⟩⟩, rfl, h a na⟩
/-- C(..), C with an own __init__ -/
def tMkV (C : Addr) (sp : Sp) (ta : TA) : TE := fun σ H Q => ta σ H fun vs H1 => vs.length ≤ 1000 ∧ ∀ a, H1 a = none → sp (.ref a :: vs) (upd H1 a (exo a C none)) (fun v H2 => v = .non ∧ Q (.ref a) H2) E0
theorem L_mkV {C : Addr} {sp : Sp} {ta : TA} {σ : L2.St} {H : Hp} {Q : VK} (h : ta σ H fun vs H1 => vs.length ≤ 1000 ∧ ∀ a, H1 a = none → sp (.ref a :: vs) (upd H1 a (exo a C none)) (fun v H2 => v = .non ∧ Q (.ref a) H2) E0) : tMkV C sp ta σ H Q := h
theorem L_mk0V {C : Addr} {σ : L2.St} {H : Hp} {Q : VK} (h : ∀ a, H a = none → Q (.ref a) (upd H a (ExI (.ref C) none a))) : tMk0V C σ H Q := h
theorem pe_mkV {X : Cx} {k j : Nat} {C : Addr} {x : Str} {sp : Sp} {p pos : Pos} {e : Expr} {es : List Expr} {ta : TA} (c : XMak X.prog X.w X.K X.mg X.base k x C sp) (T : OexC X.K C) (hr : Room j X.A) (hk : k + 1 ≤ j) (hg : Gl X x) (ha : PA X (e :: es) ta)
    (hdb : (x == ("__debug__" : Str)) = false := by decide) (he : starEach (e :: es) X.env = (false, eval e X.env) :: starEach es X.env := by rfl) (hpl : (backTo pos (starEach es X.env)).any (·.1) = false := by rfl) :
    PE X (.Call (.Name x p) (e :: es) [] pos) (tMkV C sp ta) := by
  obtain ⟨f, fd, ps, F, iC, tI, hm, hb⟩ := c.ex
  have room := hr.mono hk
  obtain ⟨nm, q, N, bs, bm, sn, sub, ab, col, dd, k0, k1, k2, k3, k5, hC, hbm⟩ := T.cls
  constructor
  intro pins s σ H Q I h
  refine wpAny_Call_Name_kw (ld_glob I hg hm ?_ hdb)
  refine PySem.W.callWith_K (h₀ := X.base) I.ok.mod.kin T.kC (thn (ha.run pos pins s σ H _ I h) fun us s1 ⟨vs, H1, I1, r1, hz, q1⟩ => ⟨I1.kIn, ?_⟩) he hpl
  show wpAny _ _ (call (.ref C) us) _ _ _
  have r1 : Vals vs us := r1
  have few : us.length ≤ sizeLine := by
    have z1 := Paired.length r1
    have z2 := sizeLine_eq
    omega
  obtain ⟨hp, g, dr, tk, os⟩ := s1
  -- the arguments' tuple and the exception's own place
  have old : ∀ b o, hp.get? b = some o → ((hp.push (PySem.W.kdv_tup us)).push (PySem.HandSPX.excO C hp.objs.size)).get? b = some o := fun b o z => Heap.get?_push_of_some _ (Heap.get?_push_of_some _ z)
  have here : ((hp.push (PySem.W.kdv_tup us)).push (PySem.HandSPX.excO C hp.objs.size)).get? (hp.objs.size + 1) = some (PySem.HandSPX.excO C hp.objs.size) := by heap_get
  have free : H1 (hp.objs.size + 1) = none := I1.hok.fresh (Nat.le_succ _)
  have J : Inv X pins σ (upd H1 (hp.objs.size + 1) (exo (hp.objs.size + 1) C none)) ⟨(hp.push (PySem.W.kdv_tup us)).push (PySem.HandSPX.excO C hp.objs.size), g, dr, tk, os⟩ :=
    I1.laid (t' := tk) old (Nat.le_succ _) (exo_ok here)
  have asked := q1 _ free
  have args : Vals (V.ref (hp.objs.size + 1) :: vs) (Value.ref (hp.objs.size + 1) :: us) := .cons rfl r1
  have many : (Value.ref (hp.objs.size + 1) :: us).length = ps.length := args.length.symm.trans (F.len _ _ _ _ asked)
  have bound := hb _ (Value.ref (hp.objs.size + 1) :: us) J.kIn (by rw [List.append_nil]; exact many)
  rw [List.append_nil] at bound
  refine wpAny_call (PySem.HandSPX.call_own PySem.F.excBase_ValueError (fun Y => PySem.HandSPX.refsVE_contains Y bm hbm) (I1.kIn _ _ hC) (PySem.W.looks_findIn I1.kIn iC) (fun self => PySem.W.bind_fn I1.kIn self tI) few ?_)
  refine codeAny_mono (F.run _ X.stack _ _ ⟨_, []⟩ _ _ _ E0 (room.make C us []) (J.env0.make C us []) bound args asked) fun out s' ho => ?_
  match out, ho with
  | .error e, ho => exact pass0 pins σ _ _ e s' J ho
  | .ok (.ret u), ho =>
    obtain ⟨v, H', J', rel, hv, rest⟩ := J.after ho
    cases hv
    exact ⟨rel, .ref (hp.objs.size + 1), H', J', rfl, rest⟩
  | .ok .next, ho => exact ho.elim
  | .ok .brk, ho => exact ho.elim
  | .ok .cont, ho => exact ho.elim
theorem L_dsetd {td ty tx : TE} {σ : L2.St} {H : Hp} {Q : VK} (h : td σ H fun x H1 => ∃ a, x = .ref a ∧ IsD H1 a ∧ ty σ H1 fun y H2 => tx σ H2 fun z H3 => ∃ (kvs : List (Key × V)) (k : Key), H3 a = some (.dK kvs) ∧ y = kV k ∧ kvs.length < sizeLine ∧
  (∀ v, valV kvs k = some v → Q v H3) ∧ (valV kvs k = none → Q z (upd H3 a (.dK (putK kvs k z))))) : tDSetd td ty tx σ H Q := h
/-! ### the tuples of a heap; fields changed by += -/
noncomputable def tp (H : Hp) : Hp := rs (fun b => ∃ xs, H b = some (.tup xs)) H
theorem tp_same {H H' : Hp} (h : ∀ b xs, H b = some (.tup xs) → H' b = some (.tup xs)) : Same (tp H) (tp H') := rs_same fun b o ⟨xs, e⟩ z => ⟨⟨xs, h b xs e⟩, by rw [e] at z; cases z; exact h b xs e⟩
theorem tp_upd {H : Hp} {a : Addr} {o : HO} (h : ∀ xs, H a ≠ some (.tup xs)) : Same (tp H) (tp (upd H a o)) := tp_same fun b xs e => by rw [upd_ne fun z => h xs (by rw [← z]; exact e)]; exact e
theorem tp_at {H : Hp} {b : Addr} {xs : List V} (h : H b = some (.tup xs)) : tp H b = some (.tup xs) := rs_at ⟨xs, h⟩ h
theorem tp_of {H H' : Hp} (e : Same H H') : Same (tp H) (tp H') := tp_same fun b xs z => e _ _ z
theorem L_fldaug {K : PySem.W.Frag} {σ : L2.St} {H : Hp} {N B C' : L2.St → Hp → Prop} {R : VK} {f : Str} {ta tv : TE} {rd : V → V → Hp → VK → Prop} (h : ta σ H fun x H1 => ∃ a C dx fs v, x = .ref a ∧ H1 a = some (.ins C dx fs) ∧ Cls K C ∧ NoAttr K C f ∧ fs.lookup f = some v ∧
  tv σ H1 fun y H2 => rd v y H2 fun z H3 => ∃ dx' fs', H3 a = some (.ins C dx' fs') ∧ fs'.length < 1000 ∧ N σ (upd H3 a (.ins C dx' (putF f z fs')))) : sFldAug K ta tv rd f ⟨N, R, B, C'⟩ σ H := h
theorem L_rAdd {H : Hp} {Q : VK} {i j : Int} (h : Q (.int (i + j)) H) : rAdd (.int i) (.int j) H Q := ⟨i, j, rfl, rfl, h⟩
theorem fm_flt {α β : Type} (c : α → Bool) (g : α → β) : ∀ l : List α, (List.range l.length).filterMap (fun i => (l[i]?).bind fun x => if c x = true then some (g x) else none) = (l.filter c).map g
  | [] => rfl
  | a :: l => by
    have ih := fm_flt c g l
    rw [List.length_cons, List.range_succ_eq_map]
    simp only [List.filterMap_cons, List.getElem?_cons_zero, Option.bind_some, List.filterMap_map, Function.comp_def, List.getElem?_cons_succ]
    rw [ih]
    cases h : c a
    · rw [List.filter_cons_of_neg (by simp [h])]; simp
    · rw [List.filter_cons_of_pos h]; simp
/-- t * n, t a text -/
def rRepS : R2 := fun x y H Q => ∃ (z : Str) (k : Int), x = .str z ∧ y = .int k ∧ MulOk z k ∧ Q (.str (Txt.mul z k)) H
theorem op_repS {X : Cx} : OpR X (binaryOp .Mult) rRepS := by
  intro pins s σ H x y v u Q I rx ry h
  obtain ⟨z, k, rfl, rfl, hz, q⟩ := h
  obtain ⟨t, rfl⟩ := rx
  obtain ⟨t', rfl⟩ := ry
  exact SB.mul hz fun t' tk => ⟨.str (Txt.mul z k), H, I.tok _, ⟨_, rfl⟩, q⟩
theorem L_repS0 {H : Hp} {Q : VK} {z : Str} {k : Int} (h : k = 0) (q : Q (.str Str.empty) H) : rRepS (.str z) (.int k) H Q := by
  subst h
  exact ⟨z, 0, rfl, rfl, ⟨by decide, fun h => absurd (by decide) h, fun h => absurd (by decide) h⟩, q⟩
theorem sqT_upd {K : PySem.W.Frag} {H : Hp} {p a : Addr} {us xs : List V} {o : HO} (hp : H p = some (.lst us)) (h : SqT K H a xs) : SqT K (upd H p o) a xs := by
  rcases h with (h | ⟨o', h⟩) | h
  · exact .inl (.inl (by rw [upd_ne fun z => by rw [z, hp] at h; cases h]; exact h))
  · exact .inl (.inr ⟨o', by rw [upd_ne fun z => by rw [z, hp] at h; cases h]; exact h⟩)
  · exact .inr h
theorem rep_map {α : Type} (f : α → V) (xs : List α) (n : Nat) : (List.replicate n (xs.map f)).flatten = ((List.replicate n xs).flatten).map f := by
  induction n with
  | zero => rfl
  | succ n ih => rw [List.replicate_succ, List.flatten_cons, List.replicate_succ, List.flatten_cons, List.map_append, ih]
theorem cutG_both {α : Type} (xs : List α) {a b : Nat} (h1 : a ≤ b) (h2 : b ≤ xs.length) : cutG xs (some (a : Int)) (some (b : Int)) = (xs.drop a).take (b - a) := by
  unfold cutG
  rw [HT.sIx_nat, HT.sIx_nat, Nat.min_eq_left h2, Nat.min_eq_left (Nat.le_trans h1 h2)]
/-! ### looks at a question's form, ahead of steps that show something -/
section
variable {K : PySem.W.Frag} {σ : L2.St} {H : Hp} {Q : VK} {x y v : V}
theorem G_mul (h : aMul x y H Q) : aMul x y H Q := h
theorem G_mod {g : Int → Int → V} (h : rI (fun _ j => 0 < j) g x y H Q) : rI (fun _ j => 0 < j) g x y H Q := h
theorem G_div {g : Int → Int → V} (h : rI CDivW g x y H Q) : rI CDivW g x y H Q := h
theorem G_pow {g : Int → Int → V} (h : rI CPow g x y H Q) : rI CPow g x y H Q := h
theorem G_ix {p : Addr} {i : Int} (h : rIx K (.ref p) (.int i) H Q) : rIx K (.ref p) (.int i) H Q := h
theorem G_len {p : Addr} (h : aLen K [.ref p] H Q) : aLen K [.ref p] H Q := h
theorem G_meth {a : Addr} {C : Addr} {m : Str} {R : Addr → Addr → List (Str × V) → Prop} (h : ∃ a' dx fs, V.ref a = V.ref a' ∧ H a' = some (.ins C dx fs) ∧ fs.lookup m = none ∧ R a' dx fs) : ∃ a' dx fs, V.ref a = V.ref a' ∧ H a' = some (.ins C dx fs) ∧ fs.lookup m = none ∧ R a' dx fs := h
theorem G_isi {i : Int} {n : String} (h : rIsi K [.int i, .ty n] H Q) : rIsi K [.int i, .ty n] H Q := h
theorem G_d {p : Prop} [Decidable p] {A B : Prop} (h : if decide p = true then A else B) : if decide p = true then A else B := h
theorem G_nd {p : Prop} [Decidable p] {A B : Prop} (h : if (!decide p) = true then A else B) : if (!decide p) = true then A else B := h
theorem G_gn {i : Nat} {N : L2.St → Hp → Prop} (h : gName i v σ H N) : gName i v σ H N := h
end
theorem inV_strs (n : Str) : ∀ ns : List Str, inV (.str n) (ns.map V.str) = decide (n ∈ ns)
  | [] => by simp [inV]
  | k :: ns => by
    have ih := inV_strs n ns
    unfold inV at ih ⊢
    rw [List.map_cons, List.any_cons, ih]
    by_cases e : n = k
    · subst e
      simp [eqV]
    · have e' : ¬ k = n := fun z => e z.symm
      simp [eqV, e, e']
theorem flat_strs : ∀ ns : List Str, (ns.map V.str).all flatV = true
  | [] => rfl
  | _ :: ns => by rw [List.map_cons, List.all_cons, flat_strs ns]; rfl
section
variable {K : PySem.W.Frag} {H : Hp} {Q : VK} {p : Addr} {z : Str} {ns : List Str}
theorem L_notInSs (h : SqL K H p (ns.map V.str)) (q : Q (.bl (!decide (z ∈ ns))) H) : aNotIn K (.str z) (.ref p) H Q := .inr ⟨p, _, rfl, .inl h, rfl, flat_strs _, by rw [if_pos rfl, inV_strs]; exact q⟩
theorem L_inSs (h : SqL K H p (ns.map V.str)) (q : Q (.bl (decide (z ∈ ns))) H) : aIn K (.str z) (.ref p) H Q := .inr ⟨p, _, rfl, .inl h, rfl, flat_strs _, by rw [if_neg (by decide), inV_strs]; exact q⟩
end
/-! ### dicts: in, not in, d[k] = v -/
section
variable {K : PySem.W.Frag} {σ : L2.St} {H : Hp} {Q : VK} {ty td tv : TE} {y v : V} {a : Addr} {k : Key} {kvs : List (Key × V)}
theorem L_din (h : ty σ H fun y H1 => td σ H1 fun x H2 => ∃ a o, x = .ref a ∧ DGet H2 a y o ∧ Q (.bl o.isSome) H2) : tDIn ty td σ H Q := h
theorem L_dnin (h : ty σ H fun y H1 => td σ H1 fun x H2 => ∃ a o, x = .ref a ∧ DGet H2 a y o ∧ Q (.bl (!o.isSome)) H2) : tDNotIn ty td σ H Q := h
theorem L_dget (h : td σ H fun x H1 => ty σ H1 fun y H2 => ∃ a v, x = .ref a ∧ DGet H2 a y (some v) ∧ Q v H2) : tDGet td ty σ H Q := h
theorem L_dinv {R : Option V → Prop} (e : y = kV k) (h : H a = some (.dK kvs)) (q : R (valV kvs k)) : ∃ a' o, V.ref a = .ref a' ∧ DGet H a' y o ∧ R o := ⟨a, _, rfl, by rw [e]; exact DGet.k h, q⟩
theorem L_dgetv {R : V → Prop} (e : y = kV k) (h : H a = some (.dK kvs)) (hv : valV kvs k = some v) (q : R v) : ∃ a' v, V.ref a = .ref a' ∧ DGet H a' y (some v) ∧ R v := ⟨a, v, rfl, by rw [e, ← hv]; exact DGet.k h, q⟩
theorem L_dput {N B C : L2.St → Hp → Prop} {R : VK} (h : tv σ H fun v H1 => td σ H1 fun x H2 => ty σ H2 fun y H3 => ∃ a H4, x = .ref a ∧ DPut H3 a y v H4 ∧ N σ H4) : sDPut td ty tv ⟨N, R, B, C⟩ σ H := h
theorem L_dputv {R : Hp → Prop} (e : y = kV k) (h : H a = some (.dK kvs)) (hl : kvs.length < 1000000) (q : R (upd H a (.dK (putK kvs k v)))) : ∃ a' H4, V.ref a = .ref a' ∧ DPut H a' y v H4 ∧ R H4 := ⟨a, _, rfl, by rw [e]; exact DPut.k h (sz_lt hl), q⟩
end
theorem putK_len {kvs : List (Key × V)} {k : Key} {v : V} : (putK kvs k v).length ≤ kvs.length + 1 := by
  unfold putK
  split
  · rw [List.length_map]; omega
  · rw [List.length_append, List.length_singleton]; omega
/-! ### a comprehension of new pairs of ints -/
def T2 (H : Hp) (v : V) (p : Int × Int) : Prop := ∃ t, v = .ref t ∧ H t = some (.tup [.int p.1, .int p.2])
theorem paired_imp2 {α β : Type} {F G : α → β → Prop} (h : ∀ a b, F a b → G a b) : ∀ {xs : List α} {ys : List β}, Paired F xs ys → Paired G xs ys
  | [], _, p => by cases p; exact .nil
  | x :: xs, _, p => by cases p with | cons h1 h2 => exact .cons (h _ _ h1) (paired_imp2 h h2)
theorem paired_app {α β : Type} {F : α → β → Prop} : ∀ {xs us : List α} {ys ws : List β}, Paired F xs ys → Paired F us ws → Paired F (xs ++ us) (ys ++ ws)
  | [], _, _, _, p, q => by cases p; exact q
  | x :: xs, _, _, _, p, q => by cases p with | cons h1 h2 => exact .cons h1 (paired_app h2 q)
section
variable {σ : L2.St} {H : Hp} {g : TG} {tt : TT} {te : TE}
theorem lc_pr {J : It} {n : Nat} {G : Hp → Prop} {Y : Nat → Hp → V → Hp → Prop} (w : L2.Walk J n G Y) {vs : List Nat} {Qd : Addr → Hp → Prop} (f : Nat → Option (Int × Int)) (hn : n ≤ 1000000) (hG : ∀ H', Same H H' → G H')
    (hs : ∀ i x H2 H' (R : V → Hp → Prop) (R' : Hp → Prop), i < n → Same H H2 → Y i H2 x H' → (∀ t p H4, f i = some p → Same H2 H4 → H4 t = some (.tup [.int p.1, .int p.2]) → R (.ref t) H4) → (∀ H3, f i = none → Same H2 H3 → R' H3) →
      g x (wipe σ vs) H' fun σ2 H2 => wipe σ2 vs = wipe σ vs ∧ tt σ2 H2 fun b H3 => if b = true then te σ2 H3 R else R' H3)
    (q : ∀ p H' vs, H p = none → Same H H' → H' p = some (.lst vs) → Paired (T2 H') vs ((List.range n).filterMap f) → Qd p H') :
    ∀ D, H D = none → ∃ W : Nat → Nat → Hp → Prop, (∃ m, W 0 m (upd H D (.lst []))) ∧ ∀ i m H, W i m H →
      (J.stop i H ∧ Qd D H) ∨ (J.go i H ∧ ∃ Nx : Hp → Prop, (∀ H', Nx H' → ∃ m', m' < m ∧ W (i + 1) m' H') ∧ ∀ x H', J.yld i H x H' → g x (wipe σ vs) H' fun σ2 H2 => wipe σ2 vs = wipe σ vs ∧ tt σ2 H2 fun b H3 =>
        if b = true then te σ2 H3 fun y H4 => ∃ acc, H4 D = some (.lst acc) ∧ acc.length < sizeLine ∧ Nx (upd H4 D (.lst (acc ++ [y]))) else Nx H3) := by
  intro D hD
  refine lc_it w (fun i H2 => Same H H2 ∧ ∃ us, H2 D = some (.lst us) ∧ Paired (T2 H2) us ((List.range i).filterMap f)) ⟨same_new hD, [], upd_same, .nil⟩ (fun i H2 _ p => hG H2 p.1) ?_ (fun H2 ⟨p1, us, p2, p3⟩ => q D H2 us hD p1 p2 p3)
  rintro i x H2 H' hi ⟨p1, us, p2, p3⟩ y
  refine hs i x H2 H' _ _ hi p1 y (fun t d H4 e s et => ?_) (fun H3 e s => ?_)
  · have e4 := s _ _ p2
    have ne : ∀ t o, H4 t = some o → (∀ l, o ≠ .lst l) → t ≠ D := fun t o h h' z => by rw [z, e4] at h; injection h with h; exact h' _ h.symm
    refine ⟨us, e4, sz_lt (by have := Paired.length p3; have := fm_len' f i; omega), same_mut (p1.trans s) hD, _, upd_same, ?_⟩
    rw [fm_succ', e]
    have up : ∀ v p, T2 H4 v p → T2 (upd H4 D (.lst (us ++ [.ref t]))) v p := fun v p h => by
      obtain ⟨t', h1, h2⟩ := h
      exact ⟨t', h1, by rw [upd_ne (ne t' _ h2 (fun _ z => by cases z))]; exact h2⟩
    exact paired_app (paired_imp2 (fun v p h => up v p (by obtain ⟨t', h1, h2⟩ := h; exact ⟨t', h1, s _ _ h2⟩)) p3) (.cons (up _ _ ⟨t, rfl, et⟩) .nil)
  · refine ⟨p1.trans s, us, s _ _ p2, ?_⟩
    rw [fm_succ', e, List.append_nil]
    exact paired_imp2 (fun v p ⟨t, h1, h2⟩ => ⟨t, h1, s _ _ h2⟩) p3
end
/-! ### methods with defaults -/
structure MethD (K : PySem.W.Frag) (C : Addr) (m qual : Str) (st : Stmt) (ps : List Str) (dvs : List V) : Prop where
  ex : ∃ (f : Addr) (fd : FuncData), FunD K m qual (defArgs st) (defBody st) (defScope st) dvs [] f fd ∧ Meth K C m f ∧ Binds K fd ps [] ∧ ∃ ds, Vals dvs ds ∧ Binds K fd ps ds
theorem binds_full {K : PySem.W.Frag} {fd : FuncData} {ps : List Str} {dvs : List V} {j : Nat} (h : ∃ ds, Vals (dvs.drop j) ds ∧ Binds K fd ps ds) (hj : dvs.length ≤ j := by decide) : Binds K fd ps [] := by
  obtain ⟨ds, r, b⟩ := h
  rw [List.drop_eq_nil_of_le hj] at r
  cases r
  exact b
structure MetXD (P : Program) (w : World) (K : PySem.W.Frag) (mg : Str → Option Value) (base : Heap) (k : Nat) (C : Addr) (m : Str) (sp : Sp) (dvs : List V) : Prop where
  ex : ∃ (f : Addr) (fd : FuncData) (ps : List Str) (ds : List Value), Cls K C ∧ Meth K C m f ∧ FnOk P w K mg base (L2.CX P w) k f fd ps sp ∧ Binds K fd ps [] ∧ Vals dvs ds ∧ Binds K fd ps ds
section
variable {P : Program} {w : World} {K : PySem.W.Frag} {mg : Str → Option Value} {base : Heap}
theorem MethD.metXD {C : Addr} {m qual : Str} {st : Stmt} {N ps : List Str} {k : Nat} {sp : Sp} {dvs : List V} (c : Cls K C) (d : MethD K C m qual st ps dvs) (S : FnScope N ps (defScope st)) (len : ∀ vs H Q E, sp vs H Q E → vs.length = ps.length)
    (hbody : ∀ (f : Addr) (cdv : Value) (A : Around) (outer : List Env) (s : Shared) (H : Hp) (vs : List V) (Q : VK) (E : XK), Room k (A.deeper (envOfC qual (defScope st) s.heap.objs.size f cdv)) → sp vs H Q E →
      ∃ t, PSs (cxOf (L2.CX P w) P w K mg base N qual (defScope st) f cdv A outer s H E) (defBody st) t ∧ t { nx := fun _ H' => Q .non H', rt := Q } (start N vs) H) : MetXD P w K mg base (k + 1) C m sp dvs := by
  obtain ⟨f, fd, F, hm, b, ds, r, b2⟩ := d.ex
  exact ⟨f, fd, ps, ds, c, hm, F.ok S len (hbody f), b, r, b2⟩
theorem MetXD.m {k : Nat} {C : Addr} {m : Str} {sp : Sp} {dvs : List V} (c : MetXD P w K mg base k C m sp dvs) : MetX P w K mg base k C m sp := by
  obtain ⟨f, fd, ps, ds, hc, hm, F, b, r, b2⟩ := c.ex
  exact ⟨f, fd, ps, hc, hm, F, b⟩
end
def tMethDE (C : Addr) (m : Str) (sp : Sp) (dvs : List V) (E : L2.St → XK) (ta : TE) (t : TA) : TE := fun σ H Q => ta σ H fun x H1 => ∃ a dx fs, x = .ref a ∧ H1 a = some (.ins C dx fs) ∧ fs.lookup m = none ∧ t σ H1 fun vs H2 => sp (x :: vs ++ dvs) H2 Q (E σ)
section
variable {X : Cx} {CX : CXT} {k j : Nat} {f C : Addr} {fd : FuncData} {ps : List Str} {x m : Str} {sp : Sp} {p pos apos : Pos} {e o : Expr} {es : List Expr} {ta : TE} {t : TA} {E : L2.St → XK} {dvs : List V}
theorem L_methD {σ : L2.St} {H : Hp} {Q : VK} (h : ta σ H fun x H1 => ∃ a dx fs, x = .ref a ∧ H1 a = some (.ins C dx fs) ∧ fs.lookup m = none ∧ t σ H1 fun vs H2 => sp (x :: vs ++ dvs) H2 Q (E σ)) : tMethDE C m sp dvs E ta t σ H Q := h
theorem pe_xMtD {pl : Sem Bool} (c : MetXD X.prog X.w X.K X.mg X.base k C m sp dvs) (hr : Room j X.A) (hk : k ≤ j) (hx : ∀ σ, PassesAt (L2.CX X.prog X.w) X σ (E σ)) (he : PE X o ta) (ha : PA X (e :: es) t)
    (hst : starEach (e :: es) X.env = (false, eval e X.env) :: starEach es X.env := by rfl) (hpl : (backTo pos (starEach es X.env)).any (·.1) = false := by rfl)
    (ht : eval (.Call (.Attribute o m apos) (e :: es) [] pos) X.env = (do
      let ov ← eval o X.env
      standAt apos.atName
      let (f, first) ← holding [ov] (getMethod ov m pl)
      callWith pos f first (backTo pos (starEach (e :: es) X.env)) (backToKw pos (keywordEach [] X.env))) := by rfl) :
    PE X (.Call (.Attribute o m apos) (e :: es) [] pos) (tMethDE C m sp dvs E ta t) := by
  obtain ⟨f, fd, ps, ds, hc, hm, F, _, hd, hb⟩ := c.ex
  refine ⟨fun pins s σ H Q I h => ?_⟩
  refine PySem.W.methodCall_KW (pl := pl) (thn (he.run pins s σ H _ I h) fun u s1 ⟨x, H1, I1, rx, a, dx, fs, ex, ea, l, q⟩ => ?_) ht
  subst ex
  obtain rfl : u = Value.ref a := rx
  refine getmeth_ok I1 ea hc hm l ?_
  refine PySem.W.callWith_K (first := [.ref a]) (h₀ := X.base) I.ok.mod.kin hm.kp (thn (ha.run pos pins s1 σ H1 _ I1 q) fun us s2 ⟨vs, H2, I2, r, q2⟩ => ⟨I2.kIn, ?_⟩) hst hpl
  exact run_fnSD (us := .ref a :: us) (vs := .ref a :: vs) F (hr.mono hk) hb hd (hx σ) I2 (.cons rfl r) q2
end
/-! ### dicts with ints as keys -/
def rSortDI : List V → Hp → VK → Prop := fun xs H Q => ∃ (a : Addr) (kvs : List (Key × V)) (ks : List Int), xs = [.ref a] ∧ Rd H a (.dK kvs) ∧ kvs.map (·.1) = ks.map Sum.inl ∧ ks.length < 64 ∧
    ∀ (ys : List Int) (p : Addr), ys.Perm ks → ys.Pairwise (· ≤ ·) → H p = none → Q (.ref p) (upd H p (.lst (ys.map V.int)))
theorem cr_sortDI {X : Cx} (hc : X.calm = true) : CallR X (.builtin "sorted") rSortDI := call_sortedDI hc
/-- the dict kvs is the function g: a key stands where g is not nought -/
def DGr (kvs : List (Key × V)) (g : Int → Int) : Prop := ∃ ks : List Int, kvs.map (·.1) = ks.map Sum.inl ∧ ks.Nodup ∧ (∀ f, f ∈ ks ↔ g f ≠ 0) ∧ ∀ f, g f ≠ 0 → valV kvs (Sum.inl f : Key) = some (.int (g f))
theorem DGr.none {kvs : List (Key × V)} {g : Int → Int} (h : DGr kvs g) {f : Int} (hf : g f = 0) : valV kvs (Sum.inl f : Key) = none := by
  obtain ⟨ks, h1, h2, h3, h4⟩ := h
  cases e : valV kvs (Sum.inl f : Key) with
  | none => rfl
  | some v =>
    obtain ⟨kv, hk, _⟩ := Option.map_eq_some_iff.mp e
    have hm := List.mem_of_find?_eq_some hk
    have he : kv.1 = (Sum.inl f : Key) := of_decide_eq_true (List.find?_some (p := fun kv : Key × V => decide (kv.1 = (Sum.inl f : Key))) hk)
    have : (Sum.inl f : Key) ∈ ks.map Sum.inl := by rw [← h1, ← he]; exact List.mem_map_of_mem hm
    obtain ⟨f', hf', e'⟩ := List.mem_map.mp this
    cases e'
    exact absurd hf ((h3 f).mp hf')
theorem DGr.getD {kvs : List (Key × V)} {g : Int → Int} (h : DGr kvs g) (f : Int) : (valV kvs (Sum.inl f : Key)).getD (.int 0) = .int (g f) := by
  by_cases hf : g f = 0
  · rw [h.none hf, hf]; rfl
  · obtain ⟨ks, h1, h2, h3, h4⟩ := h
    rw [h4 f hf]; rfl
theorem DGr.nil : DGr [] (fun _ => 0) := ⟨[], rfl, .nil, fun f => by simp, fun f h => absurd rfl h⟩
theorem DGr.one {k v : Int} (hv : v ≠ 0) : DGr [(Sum.inl k, .int v)] (fun f => if f = k then v else 0) := ⟨[k], rfl, by simp, fun f => by
  rw [List.mem_singleton]
  by_cases h : f = k
  · simp [h, hv]
  · simp [h], fun f h => by
  by_cases e : f = k
  · subst e; simp [valV]
  · simp [e] at h⟩
theorem DGr.put {kvs : List (Key × V)} {g : Int → Int} (h : DGr kvs g) (k v : Int) (hv : v ≠ 0) : DGr (putK kvs (Sum.inl k) (.int v)) (fun f => if f = k then v else g f) := by
  have hval : ∀ f, (if f = k then v else g f) ≠ 0 → valV (putK kvs (Sum.inl k : Key) (.int v)) (Sum.inl f) = some (.int (if f = k then v else g f)) := fun f hf => by
    rw [L2.valV_put]
    by_cases e : f = k
    · rw [if_pos e, if_pos (by rw [e])]
    · rw [if_neg e] at hf ⊢
      rw [if_neg (fun z => e (Sum.inl.inj z))]
      obtain ⟨ks, h1, h2, h3, h4⟩ := h
      exact h4 f hf
  by_cases hk : g k = 0
  · have hn := h.none hk
    obtain ⟨ks, h1, h2, h3, h4⟩ := h
    have e : putK kvs (Sum.inl k : Key) (.int v) = kvs ++ [(Sum.inl k, .int v)] := L2.putK_new (.int v) hn
    refine ⟨ks ++ [k], by rw [e, List.map_append, List.map_append, h1]; rfl, ?_, fun f => ?_, hval⟩
    · rw [List.nodup_append]
      refine ⟨h2, by simp, fun a ha b hb => ?_⟩
      rw [List.mem_singleton] at hb
      rintro rfl
      subst hb
      exact (h3 _).mp ha hk
    · rw [List.mem_append, List.mem_singleton, h3]
      by_cases e : f = k
      · simp [e, hv]
      · simp [e]
  · obtain ⟨ks, h1, h2, h3, h4⟩ := h
    have hany : (kvs.any fun kv => decide (kv.1 = (Sum.inl k : Key))) = true := by
      rw [List.any_eq_true]
      have : (Sum.inl k : Key) ∈ kvs.map (·.1) := by rw [h1]; exact List.mem_map_of_mem ((h3 k).mpr hk)
      obtain ⟨kv, hm, e⟩ := List.mem_map.mp this
      exact ⟨kv, hm, decide_eq_true e⟩
    refine ⟨ks, ?_, h2, fun f => ?_, hval⟩
    · unfold putK
      rw [if_pos hany, List.map_map, ← h1]
      refine List.map_congr_left fun kv _ => ?_
      show (if kv.1 = Sum.inl k then (kv.1, V.int v) else kv).1 = kv.1
      split <;> rfl
    · rw [h3]
      by_cases e : f = k
      · simp [e, hv, hk]
      · simp [e]
theorem DGr.congr {kvs : List (Key × V)} {g g' : Int → Int} (h : DGr kvs g) (e : ∀ f, g f = g' f) : DGr kvs g' := by
  rw [show g' = g from funext fun f => (e f).symm]; exact h
/-- a rising list of whole numbers from 0 to n - 1 is known by its members -/
def upN (n : Nat) : List Int := (List.range n).map fun i : Nat => (i : Int)
def keysOf (n : Nat) (h : Int → Int) : List Int := (upN n).filter fun f => decide (h f ≠ 0)
theorem upN_mem {n : Nat} {f : Int} : f ∈ upN n ↔ 0 ≤ f ∧ f < n := by
  unfold upN
  rw [List.mem_map]
  constructor
  · rintro ⟨i, hi, rfl⟩
    have := List.mem_range.mp hi
    omega
  · rintro ⟨h0, h1⟩
    exact ⟨f.toNat, List.mem_range.mpr (by omega), by omega⟩
theorem upN_lt (n : Nat) : (upN n).Pairwise (· < ·) := by
  unfold upN
  rw [List.pairwise_map]
  exact List.pairwise_lt_range.imp fun h => by omega
theorem lt_perm : ∀ {l l' : List Int}, l.Pairwise (· < ·) → l'.Pairwise (· < ·) → (∀ x, x ∈ l ↔ x ∈ l') → l = l'
  | [], [], _, _, _ => rfl
  | [], b :: l', _, _, h => absurd ((h b).mpr (List.mem_cons_self ..)) (by simp)
  | a :: l, [], _, _, h => absurd ((h a).mp (List.mem_cons_self ..)) (by simp)
  | a :: l, b :: l', h1, h2, h => by
    rw [List.pairwise_cons] at h1 h2
    have hab : a = b := by
      have ha := (h a).mp (List.mem_cons_self ..)
      have hb := (h b).mpr (List.mem_cons_self ..)
      rcases List.mem_cons.mp ha with e | e
      · exact e
      · rcases List.mem_cons.mp hb with e' | e'
        · exact e'.symm
        · have := h1.1 b e'
          have := h2.1 a e
          omega
    subst hab
    rw [lt_perm h1.2 h2.2 fun x => ?_]
    constructor
    · intro hx
      have := h1.1 x hx
      rcases List.mem_cons.mp ((h x).mp (List.mem_cons_of_mem _ hx)) with e | e
      · omega
      · exact e
    · intro hx
      have := h2.1 x hx
      rcases List.mem_cons.mp ((h x).mpr (List.mem_cons_of_mem _ hx)) with e | e
      · omega
      · exact e
theorem L_sortDI {H : Hp} {Q : VK} {a : Addr} {kvs : List (Key × V)} {g : Int → Int} {n : Nat} (hn : n < 64) (h : H a = some (.dK kvs)) (hg : DGr kvs g) (hb : ∀ f, g f ≠ 0 → 0 ≤ f ∧ f < n) (q : ∀ p, H p = none → Q (.ref p) (upd H p (.lst ((keysOf n g).map V.int)))) : rSortDI [.ref a] H Q := by
  obtain ⟨ks, h1, h2, h3, h4⟩ := hg
  have key : ∀ ys : List Int, ys.Perm ks → ys.Pairwise (· ≤ ·) → ys = keysOf n g := fun ys hp hs => by
    refine lt_perm ?_ ((upN_lt n).filter _) fun x => ?_
    · have nd := hp.nodup_iff.mpr h2
      exact (hs.and nd).imp fun ⟨h1, h2⟩ => by omega
    · rw [hp.mem_iff, h3]
      unfold keysOf
      rw [List.mem_filter, upN_mem, decide_eq_true_eq]
      exact ⟨fun z => ⟨hb x z, z⟩, fun z => z.2⟩
  refine ⟨a, kvs, ks, rfl, .inl h, h1, ?_, fun ys p hp hs hf => ?_⟩
  · have : ks.Perm (keysOf n g) := (List.perm_ext_iff_of_nodup h2 ((upN_lt n).imp (fun h => by omega) |>.filter _)).mpr fun x => by
      rw [h3]
      rw [List.mem_filter, upN_mem, decide_eq_true_eq]
      exact ⟨fun z => ⟨hb x z, z⟩, fun z => z.2⟩
    rw [this.length_eq]
    refine Nat.lt_of_le_of_lt (List.length_filter_le ..) ?_
    unfold upN
    rw [List.length_map, List.length_range]
    exact hn
  · rw [key ys hp hs]
    exact q p hf
theorem L_dget2 {σ : L2.St} {H : Hp} {Q : VK} {td ty tx : TE} (h : td σ H fun x H1 => ∃ a, x = .ref a ∧ IsD H1 a ∧ ty σ H1 fun y H2 => tx σ H2 fun z H3 => ∃ o, DGet H3 a y o ∧ Q (o.getD z) H3) : tDGet2 td ty tx σ H Q := h
theorem isD_at' {H : Hp} {a : Addr} {kvs : List (Key × V)} (h : H a = some (.dK kvs)) : IsD H a := .inl ⟨kvs, .inl h⟩
/-! ### a chain of three comparisons -/
def tChain3 (r r' r'' : R2) (ta tb tc td : TE) : TE := fun σ H Q => ta σ H fun x H1 => tb σ H1 fun y H2 => r x y H2 fun z H3 => ∃ k, z = .bl k ∧
  (if k = true then tc σ H3 fun w' H4 => r' y w' H4 fun z2 H5 => ∃ k2, z2 = .bl k2 ∧ (if k2 = true then td σ H5 fun u' H6 => r'' w' u' H6 Q else Q (.bl false) H5) else Q (.bl false) H3)
section
variable {X : Cx} {a b c d : Expr} {ta tb tc td : TE} {pos : Pos}
theorem pe_chain3 {op op' op'' : CmpOp} {r r' r'' : R2} (ho : OpR X (compareOp op) r) (ho' : OpR X (compareOp op') r') (ho'' : OpR X (compareOp op'') r'') (ha : PE X a ta) (hb : PE X b tb) (hc : PE X c tc) (hd : PE X d td)
    (hm : lastMarks [op, op', op''] [b, c, d] = false := by with_unfolding_all rfl) : PE X (.Compare a [op, op', op''] [b, c, d] pos) (tChain3 r r' r'' ta tb tc td) := by
  refine ⟨fun pins s σ H Q I h => ?_⟩
  refine Compare_chain (thn (ha.run pins s σ H _ I h) fun v s1 ⟨x, H1, I1, r1, q1⟩ => chain_link (thn (hb.run pins s1 σ H1 _ I1 q1) fun u s2 ⟨y, H2, I2, r2, q2⟩ =>
    thn (ho pins s2 σ H2 x y v u _ I2 r1 r2 q2) fun d s3 ⟨z, H3, I3, r3, k, e, q3⟩ => ?_)) hm
  subst e
  cases r3
  refine wpAny_truthy_bool ?_
  cases k with
  | false => exact ite_ff ⟨.bl false, H3, I3, rfl, q3⟩
  | true =>
    refine ite_tt (chain_link (thn (hc.run pins s3 σ H3 _ I3 q3) fun w' s4 ⟨z', H4, I4, r4, q4⟩ => thn (ho' pins s4 σ H4 y z' u w' _ I4 r2 r4 q4) fun d2 s5 ⟨z2, H5, I5, r5, k2, e2, q5⟩ => ?_))
    subst e2
    cases r5
    refine wpAny_truthy_bool ?_
    cases k2 with
    | false => exact ite_ff ⟨.bl false, H5, I5, rfl, q5⟩
    | true => exact ite_tt (chain_last (thn (hd.run pins s5 σ H5 _ I5 q5) fun u' s6 ⟨z3, H6, I6, r6, q6⟩ => ho'' pins s6 σ H6 z' z3 w' u' Q I6 r4 r6 q6))
theorem L_chain3 {r r' r'' : R2} {σ : L2.St} {H : Hp} {Q : VK} (h : ta σ H fun x H1 => tb σ H1 fun y H2 => r x y H2 fun z H3 => ∃ k, z = .bl k ∧
  (if k = true then tc σ H3 fun w' H4 => r' y w' H4 fun z2 H5 => ∃ k2, z2 = .bl k2 ∧ (if k2 = true then td σ H5 fun u' H6 => r'' w' u' H6 Q else Q (.bl false) H5) else Q (.bl false) H3)) : tChain3 r r' r'' ta tb tc td σ H Q := h
end
/-- the chain's test, as a value's -/
theorem L_catA {K : PySem.W.Frag} {H : Hp} {a b : Addr} {xs ys : List V} {Q : VK} (h1 : SqT K H a xs) (h2 : SqT K H b ys) (n1 : xs ≠ []) (n2 : ys ≠ []) (hl : xs.length + ys.length ≤ sizeLine) (q : ∀ p, H p = none → Q (.ref p) (upd H p (.tup (xs ++ ys)))) : aAdd K (.ref a) (.ref b) H Q :=
  .inr (.inr (.inr ⟨a, b, xs, ys, rfl, rfl, h1, h2, hl, fun e => absurd e n1, fun _ e => absurd e n2, fun _ _ => q⟩))
/-! ### several except clauses, some of them with a name -/
abbrev HdA := Value × Option Nat × (Addr → Value → Option Addr → TS)
def wManyA (K : PySem.W.Frag) (Wout : WX) (D : Ends) : List HdA → WX
  | [] => Wout
  | (c, none, ts) :: r => fun cls d σ H => ∃ b, PySem.W.exmOne K cls c = some b ∧ (b = true → ∀ a, H a = none → ts a cls d D σ H) ∧ (b = false → wManyA K Wout D r cls d σ H)
  | (c, some i, ts) :: r => fun cls d σ H => ∃ b, PySem.W.exmOne K cls c = some b ∧
    (b = true → ∀ a, H a = none → ts a cls d ⟨fun σ' H' => H' a = none → D.nx (σ'.set i none) (upd H' a (ExI cls d a)), D.rt, fun σ' H' => D.bk (σ'.set i none) H', fun σ' H' => D.ct (σ'.set i none) H'⟩ (σ.set i (some (.ref a))) H) ∧
    (b = false → wManyA K Wout D r cls d σ H)
inductive HdsA (X : Cx) : List ExceptHandler → List HdA → Prop
  | nil : HdsA X [] []
  | cons {x : Str} {c : Value} {ts : Addr → Value → Option Addr → TS} {b₀ : Stmt} {suite : List Stmt} {np pos' : Pos} {hds : List ExceptHandler} {l : List HdA} (hc : Names X x c)
      (hsu : ∀ (a : Addr) (oe : Obj) (cls : Value) (d : Option Addr) (pn : List (Addr × Obj)), Zc cls d oe → (∃ vs, oe.data = .fields vs) → PSs (X.suite a ((a, oe) :: pn)) (b₀ :: suite) (ts a cls d)) (r : HdsA X hds l) :
      HdsA X (.ExceptHandler (some (.Name x np)) none (b₀ :: suite) pos' :: hds) ((c, none, ts) :: l)
  | consA {x n : Str} {c : Value} {i : Nat} {ts : Addr → Value → Option Addr → TS} {b₀ : Stmt} {suite : List Stmt} {np pos' : Pos} {hds : List ExceptHandler} {l : List HdA} (hi : X.N[i]? = some n) (hln : X.env.kindOf n = some .local) (hc : Names X x c)
      (hsu : ∀ (a : Addr) (oe : Obj) (cls : Value) (d : Option Addr) (pn : List (Addr × Obj)), Zc cls d oe → (∃ vs, oe.data = .fields vs) → PSs (X.suite a ((a, oe) :: pn)) (b₀ :: suite) (ts a cls d)) (r : HdsA X hds l) :
      HdsA X (.ExceptHandler (some (.Name x np)) (some n) (b₀ :: suite) pos' :: hds) ((c, some i, ts) :: l)
section
variable {X : Cx} {body : List Stmt} {h₀ : ExceptHandler} {hds : List ExceptHandler} {l : List HdA} {pos : Pos} {tb : WX → TS} {Wout : WX}
theorem ps_try_manyA (hs : X.stack = X.env :: X.outer) (hf : X.env.frame = some X.env.locals) (hN : X.N.Nodup) (hex : X.ex = []) (tk : Takes X Wout)
    (hb : ∀ (W : WX) (pn : List (Addr × Obj)) (xe : Value → Shared → Prop), Takes (X.tr pn xe) W → PassesOwn (model X.prog X.w) X.A X.env xe → PSs (X.tr pn xe) body (tb W))
    (hh : HdsA X (h₀ :: hds) l) : PS X (.Try body (h₀ :: hds) [] [] pos) (fun D σ H => tb (wManyA X.K Wout D l) D σ H) := by
  constructor
  intro pins s0 σ0 H0 D I0 start
  have okX := I0.ok
  have frames : X.A.frames = some (X.env :: X.outer) := by
    rw [okX.frames, hs]
  apply wpAny_Try_except
  let look : Value → Shared → Prop := fun e t1 => wpAny (model X.prog X.w) X.A (noteFrame e X.env) (fun _ t2 => wpAny (model X.prog X.w) X.A (setFlight e none)
    (fun _ t3 => wpAny (model X.prog X.w) X.A (handleBy e X.env (h₀ :: hds)) (SP X pins D) X.xe t3) X.xe t2) X.xe t1
  have caught : Takes (X.tr (X.pn ++ pins) look) (wManyA X.K Wout D l) := by
    intro u s' air
    obtain ⟨a, B, sI, pins', σ', H', cls, d, rfl, K', nb, up, sky, na, os, ag, w⟩ := air
    have K0 : Inv X pins σ' H' sI := K'.ofTry okX
    have sky1 : Sky B (X.env :: X.outer) a (Zc cls d) X.env.locals s'.heap := hs ▸ sky
    show wpAny (model X.prog X.w) X.A (noteFrame (.ref a) X.env) _ _ _
    apply Sky.land Zc.steady frames hf sky1
    intro h3 fl3 up3
    have J3 : Inv X pins σ' H' { s' with heap := h3 } := K0.landed nb fl3.1 (up.trans up3) os ag
    obtain ⟨oe3, vs3, at3, z3, data3⟩ := fl3.there
    have offFrames : a ∉ frs (X.env :: X.outer) := fun hm => by
      obtain ⟨_, o', there', hnf⟩ := fl3.2.2.1.mem hm
      rw [at3] at there'
      cases there'
      exact hnf _ data3
    have nL : a ≠ X.env.locals := fun e => offFrames (List.mem_filterMap.mpr ⟨X.env, List.mem_cons_self, by rw [hf, e]⟩)
    have nF : a ∉ X.fs := fun hm => by
      obtain ⟨e, he, q⟩ := List.mem_filterMap.mp hm
      exact offFrames (List.mem_filterMap.mpr ⟨e, List.mem_cons_of_mem _ he, q⟩)
    -- a is new: it stood neither at the try's entry nor at the def's
    have newB : B.get? a = none := fl3.2.1
    have newI : sI.heap.get? a = none := by
      cases q : sI.heap.get? a with
      | none => rfl
      | some o =>
        have := nb a o q (by rw [hs]; exact offFrames)
        rw [newB] at this
        cases this
    have new0 : X.s_0.heap.get? a = none := by
      cases q : X.s_0.heap.get? a with
      | none => rfl
      | some o =>
        obtain ⟨o', q'⟩ := K0.base.there a o q (by rw [hex]; exact List.not_mem_nil)
        rw [newI] at q'
        cases q'
    have apart : ∀ p ∈ X.pn ++ pins, p.1 ≠ a := fun p hp e => by
      have := (K0.pin p hp).1
      rw [e, newI] at this
      cases this
    have S3 := J3.suite at3 data3 na nL nF
    have go : ∀ {hds' : List ExceptHandler} {l' : List HdA}, HdsA X hds' l' → wManyA X.K Wout D l' cls d σ' H' →
        wpAny (model X.prog X.w) X.A (handleBy (.ref a) X.env hds') (SP X pins D) X.xe { s' with heap := h3 } := by
      intro hds' l' hk
      induction hk with
      | nil =>
        intro no
        apply wpAny_handleBy_nil
        obtain ⟨_, _, _, oe, vs, T, oT, ts', he, hz, hd, h1, hr⟩ := id fl3
        unfold PySem.passOn
        refine wpAny_bind (wpAny_field he hd h1 ?_)
        rw [if_neg (show ¬ ((Value.ref T == Value.none) = true) from by simp)]
        have on : wpAny (model X.prog X.w) X.A (setFlight (.ref a) X.env.frame) (fun _ s4 => wpAny (model X.prog X.w) X.A (throw (.ref a) : Sem Flow) (SP X pins D) X.xe s4) X.xe { s' with heap := h3 } := by
          rw [hf]
          apply HandSPX.setFlight_upZ fl3
          intro h4 held4 up4
          apply wpAny_throw
          apply tk
          exact ⟨a, B, sI, pins, σ', H', cls, d, rfl, K0, nb, (up.trans up3).trans up4, .inr (.inr (by rw [hs]; exact held4)), na, os, ag, no⟩
        first
          | exact wpAny_bind (wpAny_pure (wpAny_bind on))
          | exact wpAny_bind on

      | @cons x c ts b₀ suite np pos' hds2 l2 hc hsu r ih =>
        intro w
        obtain ⟨b, exm, yes, no⟩ := w
        refine wpAny_handleBy_cons (codeAny_handlers_test ?_) (by intro q; cases q)
        have tyA : PySem.W.Looks (model X.prog X.w) h3 (typeOf (.ref a)) cls := fun A Q E t k q => wpAny_typeOf_ref (k _ _ at3) (by rw [z3.1]; exact q)
        have matched := PySem.W.exm_one (M := model X.prog X.w) (J3.kIn) tyA exm
        have named : ∀ {Q : Value → Shared → Prop} {E : Value → Shared → Prop}, Q c { s' with heap := h3 } → wpAny (model X.prog X.w) (X.A.mark (some (.ref a))) (eval (.Name x np) X.env) Q E { s' with heap := h3 } := by
          intro Q E q
          obtain ⟨hg, hdbg, hm⟩ := hc
          rcases hm with hm | ⟨hm, hv, hnn⟩
          · exact ld_glob (X := X.suite a ((a, oe3) :: (X.pn ++ pins))) S3 hg hm q hdbg
          · exact ld_blt (X := X.suite a ((a, oe3) :: (X.pn ++ pins))) S3 hg hm hv q hnn hdbg
        apply named
        apply matched.here
        cases b with
        | true =>
          refine codeAny_handlers_suite ?_
          refine HandSPX.lands_againZ fl3 fun h4 fl4 up4 => ?_
          have J4 : Inv X pins σ' H' { s' with heap := h4 } := K0.landed nb fl4.1 ((up.trans up3).trans up4) os ag
          obtain ⟨oe4, vs4, he4, hz4, hd4⟩ := fl4.there
          have S4 := J4.suite he4 hd4 na nL nF
          refine wpAny_mono ((hsu a oe4 cls d (X.pn ++ pins) hz4 ⟨_, hd4⟩).run [] _ _ H' _ S4 (yes rfl a na)) (fun f s6 hsp => ?_) (fun _ _ z => False.elim z)
          cases f with
          | next =>
            obtain ⟨σ6, H6, S6, q6⟩ := hsp
            exact ⟨_, _, S6.unsuite okX, q6⟩
          | brk =>
            obtain ⟨σ6, H6, S6, q6⟩ := hsp
            exact ⟨_, _, S6.unsuite okX, q6⟩
          | cont =>
            obtain ⟨σ6, H6, S6, q6⟩ := hsp
            exact ⟨_, _, S6.unsuite okX, q6⟩
          | ret u =>
            obtain ⟨v6, σ6, H6, S6, r6, q6⟩ := hsp
            exact ⟨_, _, _, S6.unsuite okX, r6, q6⟩
        | false =>
          show wpAny _ X.A (handleBy (.ref a) X.env hds2) _ _ _
          exact ih (no rfl)
      | @consA x n c i ts b₀ suite np pos' hds2 l2 hi hln hc hsu r ih =>
        intro w
        obtain ⟨b, exm, yes, no⟩ := w
        refine wpAny_handleBy_cons (codeAny_handlers_test ?_) (by intro q; cases q)
        have tyA : PySem.W.Looks (model X.prog X.w) h3 (typeOf (.ref a)) cls := fun A Q E t k q => wpAny_typeOf_ref (k _ _ at3) (by rw [z3.1]; exact q)
        have matched := PySem.W.exm_one (M := model X.prog X.w) (J3.kIn) tyA exm
        have named : ∀ {Q : Value → Shared → Prop} {E : Value → Shared → Prop}, Q c { s' with heap := h3 } → wpAny (model X.prog X.w) (X.A.mark (some (.ref a))) (eval (.Name x np) X.env) Q E { s' with heap := h3 } := by
          intro Q E q
          obtain ⟨hg, hdbg, hm⟩ := hc
          rcases hm with hm | ⟨hm, hv, hnn⟩
          · exact ld_glob (X := X.suite a ((a, oe3) :: (X.pn ++ pins))) S3 hg hm q hdbg
          · exact ld_blt (X := X.suite a ((a, oe3) :: (X.pn ++ pins))) S3 hg hm hv q hnn hdbg
        apply named
        apply matched.here
        cases b with
        | true =>
          apply codeAny_handlers_suite_as
          apply HandSPX.lands_againZ fl3
          intro h4 fl4 up4
          have J4 : Inv X pins σ' H' { s' with heap := h4 } := K0.landed nb fl4.1 ((up.trans up3).trans up4) os ag
          obtain ⟨oe4, vs4, at4, z4, data4⟩ := fl4.there
          have S4 := J4.suite at4 data4 na nL nF
          refine store_ok (X := X.suite a ((a, oe4) :: (X.pn ++ pins))) (v := .ref a) S4 hN hi (.inl hln) rfl (fun s5 S5 => ?_) (.inr hln)
          refine wpAny_mono ((hsu a oe4 cls d (X.pn ++ pins) z4 ⟨_, data4⟩).run [] s5 _ H' _ S5 (yes rfl a na)) (fun f s6 hsp => ?_) (fun _ _ z => z.elim)
          -- out of the suite, the exception still pinned
          have out : ∀ {σ6 : L2.St} {H6 : Hp} {Q : Shared → Prop}, Inv (X.suite a ((a, oe4) :: (X.pn ++ pins))) [] σ6 H6 s6 → (∀ s7, Inv X pins (σ6.set i none) H6 s7 → H6 a = none → s7.heap.get? a = some oe4 → Q s7) →
              wpAny (model X.prog X.w) X.A (do bindName X.env n .none; unbindBehindTheSuite X.env n pos') (fun _ s7 => Q s7) X.xe s6 := fun {σ6 H6 Q} S6 hq => by
            have P6 : Inv X ((a, oe4) :: pins) σ6 H6 s6 := { S6.unsuite okX with
              pin := fun p hp => S6.pin p (by
                rcases List.mem_append.mp hp with hp | hp
                · exact List.mem_append_left _ (List.mem_cons_of_mem _ (List.mem_append_left _ hp))
                · rcases List.mem_cons.mp hp with e | hp
                  · rw [e]; exact List.mem_append_left _ List.mem_cons_self
                  · exact List.mem_append_left _ (List.mem_cons_of_mem _ (List.mem_append_right _ hp))) }
            refine gone_ok P6 hN hi hln fun s7 P7 => ?_
            have pinned := P7.pin (a, oe4) (List.mem_append_right _ List.mem_cons_self)
            refine hq s7 { P7 with pin := fun p hp => P7.pin p ?_ } pinned.2.1 pinned.1
            rcases List.mem_append.mp hp with hp | hp
            · exact List.mem_append_left _ hp
            · exact List.mem_append_right _ (List.mem_cons_of_mem _ hp)
          match f, hsp with
          | .next, ⟨σ6, H6, S6, q6⟩ => exact out S6 fun s7 J7 n6 a6 => ⟨_, _, track J7 n6 a6 z4 data4 new0 nL apart, q6 n6⟩
          | .brk, ⟨σ6, H6, S6, q6⟩ => exact out S6 fun s7 J7 _ _ => ⟨_, _, J7, q6⟩
          | .cont, ⟨σ6, H6, S6, q6⟩ => exact out S6 fun s7 J7 _ _ => ⟨_, _, J7, q6⟩
          | .ret u, ⟨v6, σ6, H6, S6, r6, q6⟩ => exact out S6 fun s7 J7 _ _ => ⟨_, _, _, J7, r6, q6⟩
        | false =>
          show wpAny _ X.A (handleBy (.ref a) X.env hds2) _ _ _
          exact ih (no rfl)
    exact go hh w
  refine wpAny_mono ((hb (wManyA X.K Wout D l) (X.pn ++ pins) look caught PassesOwn.looking).run [] s0 σ0 H0 D (I0.toTry _) start) (fun f s1 hsp => ?_) (fun e s1 he => he)
  match f, hsp with
  | .next, ⟨σ1, H1, J1, q⟩ => exact wpAny_execs_nil ⟨σ1, H1, J1.ofTry okX, q⟩
  | .brk, ⟨σ1, H1, J1, q⟩ => exact ⟨σ1, H1, J1.ofTry okX, q⟩
  | .cont, ⟨σ1, H1, J1, q⟩ => exact ⟨σ1, H1, J1.ofTry okX, q⟩
  | .ret u, ⟨v, σ1, H1, J1, r, q⟩ => exact ⟨v, σ1, H1, J1.ofTry okX, r, q⟩
end
theorem L_many {K : PySem.W.Frag} {H : Hp} {c : Value} {ts : Addr → Value → Option Addr → TS} {r : List HdA} {Wout : WX} {D : Ends} {σ : L2.St} {cls : Value} {d : Option Addr} (h : PySem.W.exmOne K cls c = some true)
    (q : ∀ a, H a = none → ts a cls d D σ H) : wManyA K Wout D ((c, none, ts) :: r) cls d σ H := ⟨true, h, fun _ => q, fun z => nomatch z⟩
theorem L_manyA {K : PySem.W.Frag} {H : Hp} {c : Value} {i : Nat} {ts : Addr → Value → Option Addr → TS} {r : List HdA} {Wout : WX} {D : Ends} {σ : L2.St} {cls : Value} {d : Option Addr} (h : PySem.W.exmOne K cls c = some true)
    (q : ∀ a, H a = none → ts a cls d ⟨fun σ' H' => H' a = none → D.nx (σ'.set i none) (upd H' a (ExI cls d a)), D.rt, fun σ' H' => D.bk (σ'.set i none) H', fun σ' H' => D.ct (σ'.set i none) H'⟩ (σ.set i (some (.ref a))) H) : wManyA K Wout D ((c, some i, ts) :: r) cls d σ H := ⟨true, h, fun _ => q, fun z => nomatch z⟩
theorem L_manyN {K : PySem.W.Frag} {H : Hp} {c : Value} {ts : Addr → Value → Option Addr → TS} {r : List HdA} {Wout : WX} {D : Ends} {σ : L2.St} {cls : Value} {d : Option Addr} (h : PySem.W.exmOne K cls c = some false)
    (q : wManyA K Wout D r cls d σ H) : wManyA K Wout D ((c, none, ts) :: r) cls d σ H := ⟨false, h, (fun z => nomatch z), fun _ => q⟩
/-! ### a != b of two lists of the same objects; xs[i] op= e; any of ints -/
def rNeRefs (K : PySem.W.Frag) : R2 := fun x y H Q => ∃ (a b : Addr) (os : List Addr), x = .ref a ∧ y = .ref b ∧ SqL K H a (os.map V.ref) ∧ SqL K H b (os.map V.ref) ∧ Q (.bl false) H
theorem vals_refs : ∀ {os : List Addr} {us : List Value}, Vals (os.map V.ref) us → us = os.map Value.ref
  | [], _, r => by cases r; rfl
  | o :: os, _, r => by
    cases r with
    | cons h t =>
      rw [show _ = Value.ref o from h, vals_refs t]
      rfl
theorem op_neRefs {X : Cx} (hu : X.A.units < cLine) : OpR X (compareOp .NotEq) (rNeRefs X.K) := by
  intro pins s σ H x y v u Q I rx ry h
  obtain ⟨a, b, os, rfl, rfl, ha, hb, q⟩ := h
  cases (show v = Value.ref a from rx)
  cases (show u = Value.ref b from ry)
  obtain ⟨us, r1, p1, _⟩ := I.list ha
  obtain ⟨ws, r2, p2, _⟩ := I.list hb
  obtain rfl := vals_refs r1
  obtain rfl := vals_refs r2
  refine SeqAt.RcNeAt.lists (e := fun _ => true) p1.isList p2.isList rfl hu (fun j h1 h2 => SeqAt.EqAt.same _) X.prog X.w _ _ ?_
  exact ⟨.bl false, H, I, by
    show Value.bool _ = Value.bool _
    rw [show ((List.range _).all fun _ => true) = true from List.all_eq_true.mpr fun _ _ => rfl]
    rfl, q⟩
def rGetL (K : PySem.W.Frag) : V → V → Hp → VK → Prop := fun o i H Q => ∃ (p : Addr) (xs : List V) (k : Int) (v : V), o = .ref p ∧ i = .int k ∧ SqL K H p xs ∧ 0 ≤ k ∧ xs[k.toNat]? = some v ∧ Q v H
theorem pget_list {X : Cx} : PGet X (rGetL X.K) := by
  intro pins s σ H o i ov iv Q I ro ri h
  obtain ⟨p, xs, k, v, rfl, rfl, hL, h0, hv, q⟩ := h
  cases (show ov = Value.ref p from ro)
  obtain ⟨t, rfl⟩ := ri
  obtain ⟨its, r, pl, hz⟩ := I.list hL
  obtain ⟨u, eu, ru⟩ := r.get hv
  have hl := r.length
  have hn := line63
  have lt := (List.getElem?_eq_some_iff.mp hv).1
  exact wpAny_getItem_list pl.isList h0 (by omega) (by simpa using eu) ⟨v, H, I, ru, q⟩
theorem L_augS {σ : L2.St} {H : Hp} {to ti te : TE} {tget : V → V → Hp → VK → Prop} {tip : TIp} {tset : TSet} {N B C : L2.St → Hp → Prop} {R : VK} (h : to σ H fun o H1 => ti σ H1 fun i H2 => tget o i H2 fun x H3 => te σ H3 fun y H4 => tip x y H4 fun z H5 => tset o i z H5 fun H6 => N σ H6) : tAugS to ti te tget tip tset ⟨N, R, B, C⟩ σ H := h
theorem L_getL {K : PySem.W.Frag} {H : Hp} {Q : VK} {p : Addr} {xs : List V} {k : Int} {v : V} (h : SqL K H p xs) (h0 : 0 ≤ k) (hv : xs[k.toNat]? = some v) (q : Q v H) : rGetL K (.ref p) (.int k) H Q := ⟨p, xs, k, v, rfl, rfl, h, h0, hv, q⟩
theorem truth_of_ints {prog : Program} {w : World} {A : Around} {ns : List Int} {its : List Value} (e : IntsAre its ns) :
    TruthOf prog w A (fun i v => its.toArray[i]? = some v) (fun i => ns.getD i 0 != 0) := fun i v s Q E hv hq => by
  have hv' : its[i]? = some v := by simpa using hv
  obtain ⟨tk, e2⟩ := PyProof.Rows.IntsAre.int_at e i v hv'
  rw [e2]
  exact truthy_int hq
theorem any_ints : ∀ ns : List Int, (List.range ns.length).any (fun i => ns.getD i 0 != 0) = ns.any (· != 0)
  | [] => rfl
  | n :: ns => by
    have ih := any_ints ns
    rw [List.length_cons, List.range_succ_eq_map, List.any_cons, List.any_map, List.any_cons, ← ih]
    rfl
def rAnyI (K : PySem.W.Frag) : List V → Hp → VK → Prop := fun vs H Q => ∃ (a : Addr) (ns : List Int), vs = [.ref a] ∧ SqL K H a (ns.map V.int) ∧ Q (.bl (ns.any (· != 0))) H
theorem cr_anyI {X : Cx} (calm : X.calm = true) : CallR X (.builtin "any") (rAnyI X.K) := by
  intro pins s σ H vs us Q I r h
  obtain ⟨a, ns, rfl, hL, q⟩ := h
  obtain ⟨its, rv, pl, _⟩ := I.list hL
  have few := rv.length
  rw [Vals.ref1 r]
  apply call_any_walk
  apply iter_any pl.isList
  intro s2 e2 st apart
  subst e2
  refine ⟨_, _, _, _, _, _, _, rfl, Walks.list (A := X.A.in1) (I.ok.hd calm) _ a apart its.toArray, st, truth_of_ints (intsAre_of rv), fun g tk k => ?_⟩
  refine ⟨.bl _, H, I.kept fun b o eo => k b o ?_ (Heap.get?_push_of_some _ eo), ?_, q⟩
  · intro hm
    rw [List.mem_singleton] at hm
    exact absurd (hm ▸ Heap.lt_size eo) (Nat.lt_irrefl _)
  · change Value.bool _ = Value.bool _
    rw [← any_ints, List.size_toArray, ← few, List.length_map]
/-! ### for k in d -/
theorem L_lock {t : TS} {N B C : L2.St → Hp → Prop} {R : VK} {σ : L2.St} {H : Hp} (h : ∃ d u, H d = some u ∧ Mut (some u) ∧ ∀ od, t ⟨fun σ' H' => H' d = some (.frz od u) ∧ N σ' (upd H' d u), fun v H' => H' d = some (.frz od u) ∧ R v (upd H' d u), fun σ' H' => H' d = some (.frz od u) ∧ B σ' (upd H' d u), fun σ' H' => H' d = some (.frz od u) ∧ C σ' (upd H' d u)⟩ σ (upd H d (.frz od u))) : tLock t ⟨N, R, B, C⟩ σ H := h
theorem L_iKeys {td : TE} {σ : L2.St} {H : Hp} {R : It → Hp → Prop} (h : td σ H fun x H1 => ∃ d o, x = .ref d ∧ ((∃ kvs, H1 d = some (.frz o (.dK kvs)) ∧ R (Itk d o kvs) H1) ∨ ∃ kvs, H1 d = some (.frz o (.dT kvs)) ∧ R (Itkt d o kvs) H1)) : iKeys td σ H R := h
theorem L_rk {H : Hp} {d : Addr} {o : Obj} {kvs : List (Key × V)} {R : Addr → Obj → List (Key × V) → Prop} {R2 : Addr → Obj → Prop} (h : H d = some (.frz o (.dK kvs))) (q : R d o kvs) : ∃ d' o', V.ref d = .ref d' ∧ ((∃ kvs, H d' = some (.frz o' (.dK kvs)) ∧ R d' o' kvs) ∨ R2 d' o') := ⟨d, o, rfl, .inl ⟨kvs, h, q⟩⟩
theorem same_lock {H H' : Hp} {d : Addr} {u : HO} {od : Obj} (h : H d = some u) (s : Same (upd H d (.frz od u)) H') : Same H (upd H' d u) := fun b o e => by
  by_cases n : b = d
  · rw [n, h] at e
    cases e
    rw [n]
    exact upd_same
  · rw [upd_ne n]
    exact s _ _ (by rw [upd_ne n]; exact e)
end Kt

set_option Elab.async false
set_option linter.all false
set_option maxRecDepth 100000
set_option maxHeartbeats 4000000
/-! Clo: lambdas without parameters that a def returns: made, kept with what their cells hold, called later -/
namespace Kt
open PySem PySem.Spec PyProof.Rows L2 LamX NdefX
/-- a cell that holds v -/
def CellO (c : Addr) (v : V) : HO := .ext fun h => ∃ u, RelV v u ∧ h.IsCell c (some u)
theorem cellO_ok {P : Program} {w : World} {H : Hp} {h : Heap} {c : Addr} {v : V} {u : Value} (r : RelV v u) (hc : h.IsCell c (some u)) : ObjOk P w H h c (CellO c v) := by
  obtain ⟨o, ho, hd⟩ := hc
  exact ⟨⟨u, r, o, ho, hd⟩, ⟨o, ho⟩, fun _ _ ⟨u, r, o, ho, hd⟩ st => ⟨u, r, o, st _ ho, hd⟩⟩
theorem cellO_at {P : Program} {w : World} {H : Hp} {h : Heap} {c : Addr} {v : V} (hok : HOk P w H h) (e : H c = some (CellO c v)) : ∃ u, RelV v u ∧ h.IsCell c (some u) := (hok c _ e).1
/-- a lambda's words, its cells, its code object -/
structure LF where
  qual : Str
  params : Arguments
  body : Expr
  scope : Scope
  cl : List (Str × Addr)
  c : Addr
/-- the object at f is the lambda F -/
def LamO (f : Addr) (F : LF) : HO := .ext fun h => ∃ (pm ctv : Value), h.get? f = some (PySem.W.kla_obj "<lambda>" F.qual F.params F.body F.scope F.cl pm F.c ctv)
section
variable {X : Cx} {pins : List (Addr × Obj)} {σ : L2.St} {H : Hp} {s : Shared}
/-- an object that is there is known from now on -/
theorem known {a : Addr} {φ : Heap → Prop} (I : Inv X pins σ H s) (na : H a = none) (ok : φ s.heap ∧ (∃ o, s.heap.get? a = some o) ∧ ∀ h1 h2 : Heap, φ h1 → (∀ o, h1.get? a = some o → h2.get? a = some o) → φ h2)
    (nb : ∀ o, X.s_0.heap.get? a = some o → X.H_0 a ≠ none) (nL : a ≠ X.env.locals) (nC : ∀ x c, X.env.cells.lookup x = some c → c ≠ a) (np : ∀ p ∈ X.pn ++ pins, p.1 ≠ a) : Inv X pins σ (upd H a (.ext φ)) s where
  ok := I.ok
  os := I.os
  bare := I.bare
  base := {
    keep := I.base.keep
    slot := I.base.slot
    free := fun b o e n hx => by
      rw [upd_ne fun z => nb o (by rw [← z]; exact e) (by rw [← z]; exact n)]
      exact I.base.free b o e n hx
    there := I.base.there
    tups := fun b xs q => by
      have t := I.base.tups b xs q
      rw [upd_ne (ne_of_none t na)]; exact t
    frzs := fun b o u q => by
      have t := I.base.frzs b o u q
      rw [upd_ne (ne_of_none t na)]; exact t
    tbls := fun b ps q => by
      obtain ⟨more, t⟩ := I.base.tbls b ps q
      exact ⟨more, by rw [upd_ne (ne_of_none t na)]; exact t⟩ }
  loc := I.loc
  cell := I.cell
  free := by rw [upd_ne nL.symm]; exact I.free
  freeC := fun x c e => by rw [upd_ne (nC x c e)]; exact I.freeC x c e
  pin := fun p hp => by
    obtain ⟨h1, h2, h3⟩ := I.pin p hp
    exact ⟨h1, by rw [upd_ne (np p hp)]; exact h2, h3⟩
  hok := fun b o e => by
    by_cases hb : b = a
    · cases hb
      rw [upd_same] at e
      cases e
      exact ok
    · rw [upd_ne hb] at e
      exact (I.hok b o e).stay (fun _ _ _ q => q) (fun c q => by rw [upd_ne (ne_of_none q na)]; exact q) fun c xs q => by rw [upd_ne (ne_of_none q na)]; exact q
  len := I.len
/-- a lambda's object, just laid, is known -/
theorem lam_known {F : LF} {pm ctv : Value} {t : Nat} (I : Inv X pins σ H s) : Inv X pins σ (upd H s.heap.objs.size (LamO s.heap.objs.size F)) { s with heap := s.heap.push (PySem.W.kla_obj "<lambda>" F.qual F.params F.body F.scope F.cl pm F.c ctv), toks := t } := by
  have e : (s.heap.push (PySem.W.kla_obj "<lambda>" F.qual F.params F.body F.scope F.cl pm F.c ctv)).get? s.heap.objs.size = some _ := Heap.get?_push_size _ rfl
  exact I.laid (fun b u h => Heap.get?_push_of_some _ h) (Nat.le_refl _) ⟨⟨pm, ctv, e⟩, ⟨_, e⟩, fun _ _ ⟨p, t, z⟩ st => ⟨p, t, st _ z⟩⟩
theorem lam_made {T : List (Addr × Str)} {c P : Addr} {q : Str} {params : Arguments} {body : Expr} {scope : Scope} {pos : Pos} {E : Value → Shared → Prop} {R : Value → Shared → Prop} (I : Inv X pins σ H s) (TB : TabB X.base X.mg c P) (hcode : X.env.code = .ref c)
    (hq : X.env.qual ++ "<lambda>" = q) (hm : (P, q) ∈ T) (hu : ∀ p ∈ T, p.1 = P → p.2 = q) (hT : Tabs T H) (hdef : defaultsOf params X.env = ([], [])) (hfree : ∀ y ∈ scope.names, y.2 = .free → ∃ c, X.env.cells.lookup y.1 = some c)
    (k : ∀ (f c' : Addr) (H1 : Hp) (t : Shared), Inv X pins σ H1 t → ExtN H H1 → Tabs T H1 → H f = none → H1 f = some (LamO f ⟨q, params, body, scope, cloFrom X.env.cells scope.names [], c'⟩) → H1 c' = some (CodeO c' q) → R (.ref f) t) :
    wpAny (model X.prog X.w) X.A (eval (.Lambda params body scope pos) X.env) R E s := by
  subst hq
  obtain ⟨ps, tP, ok, known⟩ := hT _ hm
  refine PySem.W.kla_eval hdef ?_
  have tH : s.heap.get? P = some { cls := .none, data := .fields ps } := I.hok P _ tP
  have bi : s.heap.BuiltinsAt X.mg P := TB.bm.keeps I.bk
  cases found : codeAmong pos ps.toList with
  | some cv =>
    obtain ⟨c', rfl, hc'⟩ := known pos cv found
    refine PySem.W.kla_makeFunctionHit (mg := X.mg) (c := c) (P := P) (ps := ps)
      (closure_ok hfree) I.ok.glob (I.mod.glob.keeps I.bk) hcode (TB.code.keeps I.bk)
      tH ok found bi fun ctv g tk keep big => ?_
    have J : Inv X pins σ H { s with heap := g, toks := tk } := I.kept keep
    have free : H g.objs.size = none := J.hok.fresh (Nat.le_refl _)
    have J2 := lam_known (F := ⟨X.env.qual ++ "<lambda>", params, body, scope, cloFrom X.env.cells scope.names [], c'⟩) (pm := (X.mg "__name__").getD .none) (ctv := ctv) (t := tk) J
    have more : ∀ b o, H b = some o → upd H g.objs.size (LamO g.objs.size ⟨X.env.qual ++ "<lambda>", params, body, scope, cloFrom X.env.cells scope.names [], c'⟩) b = some o := fun b o e => (upd_ne (ne_of_none e free)).trans e
    exact k _ c' _ _ J2 (.of more) (hT.ext more) free upd_same (more _ _ hc')
  | none =>
    refine PySem.W.kla_makeFunction (mg := X.mg) (c := c) (P := P) (ps := ps)
      (closure_ok hfree) I.ok.glob (I.mod.glob.keeps I.bk) hcode (TB.code.keeps I.bk)
      tH ok found TB.gP bi fun c' ctv g tk keep big lt rec_ tab => ?_
    obtain ⟨c2, oc, vs, t, e2, hoc, hd, hv⟩ := rec_
    cases e2
    have free : H c' = none := I.hok.fresh big
    have J := inv_table (t' := tk) (more := #[rawInt pos.line, rawInt pos.col, .ref c']) (h' := g) I tP (fun b o n e => keep b o n e) tab big ⟨oc, vs, t, hoc, hd, hv⟩
    have list : (ps ++ #[rawInt pos.line, rawInt pos.col, .ref c']).toList = ps.toList ++ [rawInt pos.line, rawInt pos.col, .ref c'] := by simp
    generalize hH : upd (upd H P (.tbl (ps ++ #[rawInt pos.line, rawInt pos.col, .ref c']))) c' (CodeO c' (X.env.qual ++ "<lambda>")) = H1 at J
    have atC : H1 c' = some (CodeO c' (X.env.qual ++ "<lambda>")) := by rw [← hH]; exact upd_same
    have atP : H1 P = some (.tbl (ps ++ #[rawInt pos.line, rawInt pos.col, .ref c'])) := by rw [← hH, upd_ne (ne_of_none tP free)]; exact upd_same
    have oth : ∀ b, b ≠ P → b ≠ c' → H1 b = H b := fun b m1 m2 => by rw [← hH, upd_ne m2, upd_ne m1]
    have ex : ExtN H H1 := fun b o e n => by
      rw [oth b (fun z => n ps (Option.some.inj (e.symm.trans (by rw [z]; exact tP)))) (ne_of_none e free)]
      exact e
    have T1 : Tabs T H1 := fun p hp => by
      by_cases hb : p.1 = P
      · rw [hu p hp hb, hb]
        refine ⟨_, atP, by rw [list]; exact PySem.TriplesOk_snoc _ _ _ _ ok, fun p' cv hcv => ?_⟩
        rw [list] at hcv
        rcases among_app _ ok hcv with z | z
        · obtain ⟨c0, r1, r2⟩ := known p' cv z
          exact ⟨c0, r1, ex _ _ r2 codeO_ne⟩
        · exact ⟨c', z, atC⟩
      · obtain ⟨qs, r1, r2, r3⟩ := hT p hp
        refine ⟨qs, by rw [oth p.1 hb (ne_of_none r1 free)]; exact r1, r2, fun p' cv hcv => ?_⟩
        obtain ⟨c0, r4, r5⟩ := r3 p' cv hcv
        exact ⟨c0, r4, ex _ _ r5 codeO_ne⟩
    have freeF : H1 g.objs.size = none := J.hok.fresh (Nat.le_refl _)
    have J2 := lam_known (F := ⟨X.env.qual ++ "<lambda>", params, body, scope, cloFrom X.env.cells scope.names [], c'⟩) (pm := (X.mg "__name__").getD .none) (ctv := ctv) (t := tk) J
    have more : ∀ b o, H1 b = some o → upd H1 g.objs.size (LamO g.objs.size ⟨X.env.qual ++ "<lambda>", params, body, scope, cloFrom X.env.cells scope.names [], c'⟩) b = some o := fun b o e => (upd_ne (ne_of_none e freeF)).trans e
    have freeH : H g.objs.size = none := by
      cases e : H g.objs.size with
      | none => rfl
      | some o =>
        have lt2 := (I.hok _ _ e).lt
        exact absurd lt2 (Nat.not_lt.mpr (Nat.le_trans big (Nat.le_of_lt lt)))
    exact k _ c' _ _ J2 (ex.trans (.of more)) (T1.ext more) freeH upd_same (more _ _ atC)
/-- making a lambda -/
def tLam (T : List (Addr × Str)) (mk : Addr → LF) : TE := fun _ H Q => Tabs T H ∧ ∀ (f c' : Addr) (H1 : Hp), ExtN H H1 → Tabs T H1 → H f = none → H1 f = some (LamO f (mk c')) → H1 c' = some (CodeO c' (mk c').qual) → Q (.ref f) H1
theorem pe_lam {T : List (Addr × Str)} {c P : Addr} {params : Arguments} {body : Expr} {scope : Scope} {pos : Pos} {q : Str} (TB : TabB X.base X.mg c P) (hcode : X.env.code = .ref c) (hq : X.env.qual ++ "<lambda>" = q)
    (hm : (P, q) ∈ T) (hu : ∀ p ∈ T, p.1 = P → p.2 = q) (hdef : defaultsOf params X.env = ([], [])) (hfree : ∀ y ∈ scope.names, y.2 = .free → X.env.scope.names.lookup y.1 = some .cell ∨ X.env.scope.names.lookup y.1 = some .free) :
    PE X (.Lambda params body scope pos) (tLam T fun c' => ⟨q, params, body, scope, cloFrom X.env.cells scope.names [], c'⟩) := by
  constructor
  intro pins s σ H Q I h
  obtain ⟨hT, h⟩ := h
  exact lam_made I TB hcode hq hm hu hT hdef (fun y hy e => (hfree y hy e).elim (fun z => I.ok.has _ (.inl z)) fun z => I.ok.has _ (.inr z)) fun f c' H1 t J ex T1 hf e1 e2 => ⟨.ref f, H1, J, rfl, h f c' H1 ex T1 hf e1 e2⟩
end
/-! ### a def's text, its end told with the slots -/
abbrev TSR := (V → L2.St → Hp → Prop) → L2.St → Hp → Prop
/-- statements that end with a return -/
structure PSR (X : Cx) (sts : List Stmt) (t : TSR) : Prop where
  run : ∀ (pins : List (Addr × Obj)) (s : Shared) (σ : L2.St) (H : Hp) (R : V → L2.St → Hp → Prop), Inv X pins σ H s → t R σ H →
    wpAny (model X.prog X.w) X.A (execs sts X.env) (fun fl s' => match fl with | .ret u => ∃ v σ' H', Inv X pins σ' H' s' ∧ RelV v u ∧ R v σ' H' | _ => False) X.xe s
section
variable {X : Cx}
/-- no way out but on -/
abbrev onlyN (N : L2.St → Hp → Prop) : Ends := { nx := N, rt := fun _ _ => False, bk := fun _ _ => False, ct := fun _ _ => False }
theorem psr_cons {st : Stmt} {rest : List Stmt} {t : TS} {u : TSR} (h1 : PS X st t) (h2 : PSR X rest u) : PSR X (st :: rest) (fun R σ H => t (onlyN fun σ1 H1 => u R σ1 H1) σ H) := by
  constructor
  intro pins s σ H R I h
  refine wpAny_execs_cons (thn (h1.run pins s σ H _ I h) fun fl s1 q => ?_)
  cases fl with
  | next =>
    obtain ⟨σ1, H1, J, q⟩ := q
    exact h2.run pins s1 σ1 H1 R J q
  | ret v => obtain ⟨_, _, _, _, _, q⟩ := q; exact q.elim
  | brk => obtain ⟨_, _, _, q⟩ := q; exact q.elim
  | cont => obtain ⟨_, _, _, q⟩ := q; exact q.elim
theorem psr_ret {e : Expr} {te : TE} {pos : Pos} (he : PE X e te) : PSR X [.Return (some e) pos] (fun R σ H => te σ H fun x H1 => R x σ H1) := by
  constructor
  intro pins s σ H R I h
  refine wpAny_execs_cons (wpAny_Return_some (thn (he.run pins s σ H _ I h) fun v s1 ⟨x, H1, J, r, q⟩ => ?_))
  exact ⟨x, σ, H1, J, r, q⟩
/-- if c: .. return; the rest -/
theorem psr_if {c : Expr} {a rest : List Stmt} {pos : Pos} {tc : TT} {t u : TSR} (hc : PT X c tc) (ha : PSR X a t) (hb : PSR X rest u) : PSR X (.If c a [] pos :: rest) (fun R σ H => tc σ H fun b H1 => if b = true then t R σ H1 else u R σ H1) := by
  constructor
  intro pins s σ H R I h
  refine wpAny_execs_cons (wpAny_If (thn (hc.run pins s σ H _ I h) fun b s1 ⟨H1, J, q⟩ => ?_))
  cases b with
  | true =>
    refine thn (ha.run pins s1 σ H1 R J q) fun fl s2 q => ?_
    cases fl with
    | ret v => exact q
    | next => exact q.elim
    | brk => exact q.elim
    | cont => exact q.elim
  | false => exact wpAny_execs_nil (hb.run pins s1 σ H1 R J q)
end
/-! ### behind a def's end its cells are known -/
section
variable {X : Cx} {pins : List (Addr × Obj)} {σ : L2.St} {H : Hp} {s : Shared}
theorem keep_cells (I : Inv X pins σ H s) (cab : ∀ x c, X.env.cells.lookup x = some c → X.s_0.heap.objs.size ≤ c) : ∀ (as : List (Str × Nat)) (ws : List V), (∀ a ∈ as, X.env.scope.names.lookup a.1 = some .cell ∧ X.N[a.2]? = some a.1) → (as.map (·.1)).Nodup → as.map (fun a => slotAt σ a.2) = ws.map some →
    ∃ H', Same H H' ∧ (∀ b, (∀ a ∈ as, X.env.cells.lookup a.1 ≠ some b) → H' b = H b) ∧ (∀ (i : Nat) a w, as[i]? = some a → ws[i]? = some w → ∃ c, X.env.cells.lookup a.1 = some c ∧ H c = none ∧ H' c = some (CellO c w)) ∧ Un X.fs X.ex X.H_0 H' X.s_0.heap s.heap ∧ HOk X.prog X.w H' s.heap
  | [], ws, _, _, _ => ⟨H, fun _ _ e => e, fun _ _ => rfl, fun i a w h => by simp at h, I.base, I.hok⟩
  | a :: as, ws, hk, nd, hw => by
    cases ws with
    | nil => cases hw
    | cons w ws =>
    rw [List.map_cons, List.map_cons, List.cons.injEq] at hw
    rw [List.map_cons, List.nodup_cons] at nd
    obtain ⟨H1, sm, off, at_, un, hok⟩ := keep_cells I cab as ws (fun b hb => hk b (List.mem_cons_of_mem _ hb)) nd.2 hw.2
    obtain ⟨kc, kn⟩ := hk a (List.mem_cons_self ..)
    obtain ⟨c, hc⟩ := I.ok.has a.1 (.inl kc)
    have nH : H c = none := I.freeC _ _ hc
    have n1 : H1 c = none := by
      rw [off c fun b hb z => nd.1 (List.mem_map.mpr ⟨b, hb, I.ok.inj _ _ _ z hc⟩)]
      exact nH
    obtain ⟨m, hns, hl⟩ := I.loc
    obtain ⟨u, ru, look⟩ := hl a.2 a.1 w kn (slotAt_some hw.1) (.inr (.inl kc))
    have cell : s.heap.IsCell c (some u) := by
      rcases look with ⟨z, _⟩ | ⟨_, c2, e2, z⟩
      · have z' : X.env.scope.names.lookup a.1 = some .local := z
        rw [kc] at z'
        cases z'
      · rw [hc] at e2
        cases e2
        exact z
    refine ⟨upd H1 c (CellO c w), fun b o e => ?_, fun b hb => ?_, fun i b v hi hv => ?_, ?_, fun b o e => ?_⟩
    · rw [upd_ne (ne_of_none e nH)]
      exact sm b o e
    · rw [upd_ne fun z => hb a (List.mem_cons_self ..) (by rw [z]; exact hc)]
      exact off b fun d hd => hb d (List.mem_cons_of_mem _ hd)
    · cases i with
      | zero =>
        cases hi
        cases hv
        exact ⟨c, hc, nH, upd_same⟩
      | succ i =>
        have hi' : as[i]? = some b := hi
        obtain ⟨d, h1, h2, h3⟩ := at_ i b v hi' hv
        refine ⟨d, h1, h2, ?_⟩
        rw [upd_ne fun z => nd.1 (List.mem_map.mpr ⟨b, List.mem_of_getElem? hi', I.ok.inj _ _ _ h1 (by rw [z]; exact hc)⟩)]
        exact h3
    · exact {
        keep := un.keep
        slot := un.slot
        free := fun b o e n hx => by
          rw [upd_ne fun z => Nat.lt_irrefl _ (Nat.lt_of_lt_of_le (Heap.lt_size e) (by rw [z]; exact cab _ _ hc))]
          exact un.free b o e n hx
        there := un.there
        tups := fun b xs q => by
          have t := un.tups b xs q
          rw [upd_ne (ne_of_none t n1)]; exact t
        frzs := fun b o v q => by
          have t := un.frzs b o v q
          rw [upd_ne (ne_of_none t n1)]; exact t
        tbls := fun b ps q => by
          obtain ⟨more, t⟩ := un.tbls b ps q
          exact ⟨more, by rw [upd_ne (ne_of_none t n1)]; exact t⟩ }
    · by_cases hb : b = c
      · cases hb
        rw [upd_same] at e
        cases e
        exact cellO_ok ru cell
      · rw [upd_ne hb] at e
        exact (hok b o e).stay (fun _ _ _ q => q) (fun d q => by rw [upd_ne (ne_of_none q n1)]; exact q) fun d xs q => by rw [upd_ne (ne_of_none q n1)]; exact q
end
/-- what is owed at a return of a def whose cells as live on (as1 of them hold something) -/
def Keeps (cells : List (Str × Addr)) (as : List (Str × Nat)) (Q : VK) : V → L2.St → Hp → Prop := fun v σ H => ∃ (as1 : List (Str × Nat)) (ws : List V), (∀ a ∈ as1, a ∈ as) ∧ (as1.map (·.1)).Nodup ∧ as1.map (fun a => slotAt σ a.2) = ws.map some ∧
  ∀ H', (∀ x y c, cells.lookup x = some c → cells.lookup y = some c → x = y) → Same H H' → (∀ (i : Nat) a w, as1[i]? = some a → ws[i]? = some w → ∃ c, cells.lookup a.1 = some c ∧ H c = none ∧ H' c = some (CellO c w)) → Q v H'
section
variable {P : Program} {w : World} {K : PySem.W.Frag} {mg : Str → Option Value} {base : Heap}
/-- a def by its text, its cells kept -/
theorem DefAt.calK {x : Str} {st : Stmt} {N ps : List Str} {k : Nat} {sp : Sp} {as : List (Str × Nat)} (d : DefAt K mg x st ps) (S : FnScope N ps (defScope st)) (len : ∀ vs H Q E, sp vs H Q E → vs.length = ps.length) (hk : ∀ a ∈ as, (defScope st).names.lookup a.1 = some .cell ∧ N[a.2]? = some a.1)
    (hbody : ∀ (f : Addr) (cdv : Value) (A : Around) (outer : List Env) (s : Shared) (H : Hp) (vs : List V) (Q : VK) (E : XK), Room k (A.deeper (envOfC x (defScope st) s.heap.objs.size f cdv)) → PySem.W.codeIn K cdv x = true → sp vs H Q E →
      ∃ t, PSR (cxOf CX0 P w K mg base N x (defScope st) f cdv A outer s H E) (defBody st) t ∧ t (Keeps (cellsFrom (s.heap.objs.size + 1) (defScope st).names []) as Q) (start N vs) H) : Cal P w K mg base (k + 1) x sp := by
  obtain ⟨f, fd, F, hm, b⟩ := d.ex
  refine ⟨f, fd, ps, ?_, hm, F.kp, b⟩
  obtain ⟨oc, od, kV, doc, pm, an, cdv, ct, osl, rfl, lk, hcd⟩ := F.ex
  refine ⟨len, fun A outer s H args us vs Q E hr e0 hb r hsp => ?_⟩
  have inK : K.In s.heap := e0.mod.kin.keeps fun b o e => (e0.bs b o e).1
  have free : s.heap.NoLimit := e0.mod.nolimit.keeps fun b o e => (e0.bs b o e).1
  have kinds : ∀ y ∈ ps.zip us, (defScope st).names.lookup y.1 = some .local ∨ ((defScope st).names.lookup y.1 = some .cell ∧ ((cellsFrom (s.heap.objs.size + 1) (defScope st).names []).lookup y.1).isSome = true) := fun y hy => by
    obtain ⟨n, v⟩ := y
    exact (S.par n (List.of_mem_zip hy).1).imp id fun z => ⟨z, PySem.W.cellsFrom_some _ _ _ (.inl z)⟩
  refine codeAny_call_function hr.depth (inK _ _ lk) rfl S.co S.gen rfl (PySem.W.codeRec_of inK hcd) (hb _ _ _ _ ?_)
  refine wpAny_newFunctionEnv_cells S.kind kinds fun env he s1 y => ?_
  subst he
  refine ⟨free.keeps y.toInCall.keep, codeAny_func ?_⟩
  obtain ⟨t, ht, hq⟩ := hbody f cdv A outer s H vs Q E (hr.deeper _) hcd hsp
  have I : Inv (cxOf CX0 P w K mg base N x (defScope st) f cdv A outer s H E) [] (start N vs) H s1 := inv_start S hr.hd e0 (len _ _ _ _ hsp) r y
  refine wpAny_mono (ht.run [] s1 (start N vs) H _ I hq) (fun fl s2 hs => ?_) fun e s2 hs => hs
  cases fl with
  | ret u =>
    obtain ⟨v, σ', H', J, rv, as1, ws, sub, nd, hw, q⟩ := hs
    obtain ⟨H2, sm, _, at_, un, hok⟩ := keep_cells J (fun z c hz => J.ok.cab z c rfl hz) as1 ws (fun a ha => hk a (sub a ha)) nd hw
    exact ⟨v, H2, J.os, J.bare, un, hok, rv, q H2 (fun x y c e1 e2 => J.ok.inj x y c e1 e2) sm at_⟩
  | next => exact hs.elim
  | brk => exact hs.elim
  | cont => exact hs.elim
end
/-! ### a kept lambda called -/
def isC (cl : List (Str × Addr)) (fr : List Str) (b : Addr) : Bool := fr.any fun y => decide (cl.lookup y = some b)
/-- all but the cells -/
def dropC (cl : List (Str × Addr)) (fr : List Str) (H : Hp) : Hp := fun b => if isC cl fr b = true then none else H b
/-- the cells as they were -/
def backC (cl : List (Str × Addr)) (fr : List Str) (H H1 : Hp) : Hp := fun b => if isC cl fr b = true then H b else H1 b
/-- a lambda's cells are known: fr, the captured names; ws, what their cells hold -/
structure HeldC (cl : List (Str × Addr)) (fr : List Str) (ws : List V) (H : Hp) : Prop where
  len : ws.length = fr.length
  has : ∀ (i : Nat) y, fr[i]? = some y → ∃ c w, cl.lookup y = some c ∧ ws[i]? = some w ∧ H c = some (CellO c w)
  all : ∀ y c, cl.lookup y = some c → y ∈ fr
  inj : ∀ x y c, cl.lookup x = some c → cl.lookup y = some c → x = y
theorem isC_iff {cl : List (Str × Addr)} {fr : List Str} {b : Addr} : isC cl fr b = true ↔ ∃ y ∈ fr, cl.lookup y = some b := by
  unfold isC
  rw [List.any_eq_true]
  exact ⟨fun ⟨y, h1, h2⟩ => ⟨y, h1, of_decide_eq_true h2⟩, fun ⟨y, h1, h2⟩ => ⟨y, h1, decide_eq_true h2⟩⟩
theorem HeldC.at {cl : List (Str × Addr)} {fr : List Str} {ws : List V} {H : Hp} (C : HeldC cl fr ws H) {b : Addr} (h : isC cl fr b = true) : ∃ w, H b = some (CellO b w) := by
  obtain ⟨y, hy, e⟩ := isC_iff.mp h
  obtain ⟨i, hi⟩ := List.mem_iff_getElem?.mp hy
  obtain ⟨c, w, h1, _, h3⟩ := C.has i y hi
  rw [e] at h1
  cases h1
  exact ⟨w, h3⟩
theorem HeldC.off {cl : List (Str × Addr)} {fr : List Str} {ws : List V} {H : Hp} (C : HeldC cl fr ws H) {b : Addr} {o : HO} (e : H b = some o) (n : ∀ φ, o ≠ .ext φ) : isC cl fr b = false := by
  cases h : isC cl fr b with
  | false => rfl
  | true =>
    obtain ⟨w, z⟩ := C.at h
    rw [e] at z
    exact absurd (Option.some.inj z) (n _)
theorem HeldC.offN {cl : List (Str × Addr)} {fr : List Str} {ws : List V} {H : Hp} (C : HeldC cl fr ws H) {b : Addr} (e : H b = none) : isC cl fr b = false := by
  cases h : isC cl fr b with
  | false => rfl
  | true =>
    obtain ⟨w, z⟩ := C.at h
    rw [e] at z
    cases z
/-- fr are just the free ones of the names -/
def frIs (fr : List Str) (names : List (Str × NameKind)) : Bool := (fr.all fun y => names.any fun z => decide (z.1 = y) && decide (z.2 = .free)) && names.all fun z => !decide (z.2 = .free) || decide (z.1 ∈ fr)
theorem frIs_ok {fr : List Str} {names : List (Str × NameKind)} (h : frIs fr names = true) : ∀ y, y ∈ fr ↔ (y, NameKind.free) ∈ names := fun y => by
  unfold frIs at h
  simp only [Bool.and_eq_true, List.all_eq_true, List.any_eq_true, decide_eq_true_eq, Bool.or_eq_true, Bool.not_eq_true', decide_eq_false_iff_not] at h
  constructor
  · intro hy
    obtain ⟨z, hz, e1, e2⟩ := h.1 y hy
    obtain ⟨a, b⟩ := z
    cases e1
    cases e2
    exact hz
  · intro hy
    exact (h.2 _ hy).elim (fun z => absurd rfl z) id
/-- a lambda made by a def whose cells are kept: its cells are known -/
theorem heldC_of {cells : List (Str × Addr)} {names : List (Str × NameKind)} {fr : List Str} {ws : List V} {H : Hp} (inj : ∀ x y c, cells.lookup x = some c → cells.lookup y = some c → x = y) (hfr : ∀ y, y ∈ fr ↔ (y, NameKind.free) ∈ names) (len : ws.length = fr.length)
    (hat : ∀ (i : Nat) y w, fr[i]? = some y → ws[i]? = some w → ∃ c, cells.lookup y = some c ∧ H c = some (CellO c w)) : HeldC (cloFrom cells names []) fr ws H := by
  have has : ∀ (i : Nat) y, fr[i]? = some y → ∃ c w, cells.lookup y = some c ∧ ws[i]? = some w ∧ H c = some (CellO c w) := fun i y e => by
    have lt : i < ws.length := by
      rw [len]
      exact (List.getElem?_eq_some_iff.mp e).1
    obtain ⟨c, h1, h2⟩ := hat i y _ e (List.getElem?_eq_getElem lt)
    exact ⟨c, _, h1, List.getElem?_eq_getElem lt, h2⟩
  have key : ∀ y c, (cloFrom cells names []).lookup y = some c → y ∈ fr ∧ cells.lookup y = some c := fun y c e => by
    rcases cloFrom_mem (PySem.mem_of_lookup e) with hm | ⟨h1, h2⟩
    · cases hm
    · have hy := (hfr y).mpr h1
      obtain ⟨i, hi⟩ := List.mem_iff_getElem?.mp hy
      obtain ⟨c1, _, e1, _, _⟩ := has i y hi
      rw [e1] at h2
      exact ⟨hy, by rw [e1, h2]; rfl⟩
  have back : ∀ y c, y ∈ fr → cells.lookup y = some c → (cloFrom cells names []).lookup y = some c := fun y c hy e => by
    obtain ⟨c1, hc1⟩ := mem_lookup (cloFrom_has (cells := cells) (acc := []) ((hfr y).mp hy))
    rw [hc1, (key y c1 hc1).2.symm.trans e]
  exact {
    len := len
    has := fun i y e => by
      obtain ⟨c, w, h1, h2, h3⟩ := has i y e
      exact ⟨c, w, back y c (List.mem_of_getElem? e) h1, h2, h3⟩
    all := fun y c e => (key y c e).1
    inj := fun x y c e1 e2 => inj x y c (key x c e1).2 (key y c e2).2 }
theorem drop_off {cl : List (Str × Addr)} {fr : List Str} {H : Hp} {b : Addr} (h : isC cl fr b = false) : dropC cl fr H b = H b := by
  unfold dropC
  rw [h]
  rfl
theorem drop_some {cl : List (Str × Addr)} {fr : List Str} {H : Hp} {b : Addr} {o : HO} (h : dropC cl fr H b = some o) : isC cl fr b = false ∧ H b = some o := by
  unfold dropC at h
  cases e : isC cl fr b with
  | true => rw [e, if_pos rfl] at h; cases h
  | false => rw [e] at h; exact ⟨rfl, h⟩
theorem back_off {cl : List (Str × Addr)} {fr : List Str} {H H1 : Hp} {b : Addr} (h : isC cl fr b = false) : backC cl fr H H1 b = H1 b := by
  unfold backC
  rw [h]
  rfl
theorem back_on {cl : List (Str × Addr)} {fr : List Str} {H H1 : Hp} {b : Addr} (h : isC cl fr b = true) : backC cl fr H H1 b = H b := by
  unfold backC
  rw [h]
  rfl
section
variable {P : Program} {w : World} {K : PySem.W.Frag} {mg : Str → Option Value} {base : Heap}
theorem hok_drop {cl : List (Str × Addr)} {fr : List Str} {ws : List V} {H : Hp} {h : Heap} (C : HeldC cl fr ws H) (ok : HOk P w H h) : HOk P w (dropC cl fr H) h := fun b o e => by
  obtain ⟨_, e1⟩ := drop_some e
  exact (ok b o e1).stay (fun _ _ _ q => q) (fun d q => (drop_off (C.off q fun _ z => nomatch z)).trans q) fun d xs q => (drop_off (C.off q fun _ z => nomatch z)).trans q
theorem cells_held {cl : List (Str × Addr)} {fr : List Str} {ws : List V} {H : Hp} {h : Heap} (C : HeldC cl fr ws H) (ok : HOk P w H h) : CellsAt cl fr (ws.map some) h (dropC cl fr H) where
  len := by rw [List.length_map]; exact C.len
  all := fun y c e => by
    have hc : isC cl fr c = true := isC_iff.mpr ⟨y, C.all y c e, e⟩
    obtain ⟨v, hv⟩ := C.at hc
    obtain ⟨u, _, z⟩ := cellO_at ok hv
    exact ⟨by unfold dropC; rw [hc]; rfl, _, z⟩
  inj := C.inj
  has := fun i y e => by
    obtain ⟨c, v, h1, h2, h3⟩ := C.has i y e
    obtain ⟨u, r, z⟩ := cellO_at ok h3
    refine ⟨c, h1, fun v' e' => ?_⟩
    rw [List.getElem?_map, h2] at e'
    cases e'
    exact ⟨u, r, z⟩
/-- what a lambda promises: sp ws, ws what its cells hold -/
structure LOk (P : Program) (w : World) (K : PySem.W.Frag) (mg : Str → Option Value) (base : Heap) (k : Nat) (q : Str) (params : Arguments) (body : Expr) (scope : Scope) (fr : List Str) (sp : List V → Hp → VK → Prop) : Prop where
  run : ∀ (f c : Addr) (cl : List (Str × Addr)) (A : Around) (outer : List Env) (s : Shared) (H : Hp) (ws : List V) (Q : VK), Room k A → Env0 P w K mg base A outer s H → H f = some (LamO f ⟨q, params, body, scope, cl, c⟩) → H c = some (CodeO c q) →
    CellsAt cl fr (ws.map some) s.heap H → sp ws H Q → codeAny (model P w) A (.call (.ref f) ⟨[], []⟩) (CR CX0 outer P w H s Q fun _ _ _ => False) s
/-- a lambda by its body -/
theorem lok_of {N fr : List Str} {k : Nat} {q : Str} {params : Arguments} {body : Expr} {scope : Scope} {sp : List V → Hp → VK → Prop} (S : NScope N [] fr scope) (hb : ∀ (cl : List (Str × Addr)) (c : Addr) (pm ctv : Value), bindArgs (PySem.W.kla_fn "<lambda>" q params body scope cl pm (.ref c) ctv) ⟨[], []⟩ = pure [])
    (hbody : ∀ (f c : Addr) (cl : List (Str × Addr)) (A : Around) (outer : List Env) (s : Shared) (H : Hp) (ws : List V) (Q : VK), Room k (A.deeper (envF ⟨"<lambda>", q, params, [], scope, cl, c⟩ f s.heap.objs.size)) → ws.length = fr.length → sp ws H Q →
      ∃ t, PE (ncx CX0 P w K mg base N ⟨"<lambda>", q, params, [], scope, cl, c⟩ f A outer s H fun _ _ _ => False) body t ∧ t (startF N [] (ws.map some)) H Q) : LOk P w K mg base (k + 1) q params body scope fr sp := by
  constructor
  intro f c cl A outer s H ws Q hr e0 hf hc C h
  have lim : s.heap.NoLimit := e0.mod.nolimit.keeps fun b o e => (e0.bs b o e).1
  obtain ⟨⟨pm, ctv, ho⟩, _⟩ := e0.hok f _ hf
  refine PySem.W.kla_callFunE hr.depth ho rfl S.co S.gen rfl (codeO_at e0.hok hc) ?_
  rw [hb cl c pm ctv]
  refine wpAny_pure (wpAny_newFunctionEnv S.nocell (fun y hy => absurd hy (by simp)) (fun g hns hsb => ⟨lim.fresh _ hsb, ?_⟩) S.kind)
  show codeAny _ _ (.expr body (envF ⟨"<lambda>", q, params, [], scope, cl, c⟩ f s.heap.objs.size)) _ _
  have kp : ∀ b o, s.heap.get? b = some o → g.get? b = some o := fun b o e => hsb.extBut b o (Nat.ne_of_lt (Heap.lt_size e)) (Heap.get?_push_of_some _ e)
  have wl := C.len
  rw [List.length_map] at wl
  obtain ⟨t, ht, hq⟩ := hbody f c cl A outer s H ws Q (hr.deeper _) wl h
  have I : Inv (ncx CX0 P w K mg base N ⟨"<lambda>", q, params, [], scope, cl, c⟩ f A outer s H fun _ _ _ => False) [] (startF N [] (ws.map some)) H { s with heap := g, toks := s.toks + ([] : List (Str × Value)).length } := inv_startN (ps := []) (us := []) S hr.hd e0 rfl .nil C hns kp
  refine PySem.W.kla_codeExpr (wpAny_mono (ht.run [] _ _ H Q I hq) (fun v s' hv => ?_) fun e s' he => he)
  obtain ⟨x, H', J, rv, hx⟩ := hv
  exact ⟨x, H', J.os, J.bare, J.base, J.hok, rv, hx⟩
end
/-- x(), x a name that holds a kept lambda -/
def tClo (q : Str) (params : Arguments) (body : Expr) (scope : Scope) (fr : List Str) (i : Nat) (sp : List V → Hp → VK → Prop) : TE := fun σ H Q => ∃ (f c : Addr) (cl : List (Str × Addr)) (ws : List V), σ[i]? = some (some (.ref f)) ∧ H f = some (LamO f ⟨q, params, body, scope, cl, c⟩) ∧ H c = some (CodeO c q) ∧ isC cl fr f = false ∧ isC cl fr c = false ∧
  HeldC cl fr ws H ∧ sp ws (dropC cl fr H) fun v H1 => (∀ b, isC cl fr b = true → H1 b = none) → Q v (backC cl fr H H1)
theorem lam_fn {X : Cx} {pins : List (Addr × Obj)} {σ : L2.St} {H : Hp} {s : Shared} {f : Addr} {F : LF} (I : Inv X pins σ H s) (e : H f = some (LamO f F)) : PySem.W.FnAt f s.heap := by
  obtain ⟨⟨pm, ctv, ho⟩, _⟩ := I.hok f _ e
  exact ⟨_, _, _, _, ho⟩
theorem pe_clo {X : Cx} {q : Str} {params : Arguments} {body : Expr} {scope : Scope} {fr : List Str} {i j k : Nat} {x : Str} {sp : List V → Hp → VK → Prop} {p pos : Pos} (L : LOk X.prog X.w X.K X.mg X.base k q params body scope fr sp) (hr : Room j X.A) (hk : k ≤ j) (hN : X.N[i]? = some x) (hv : Vis X.env.scope x)
    (hd : (x == ("__debug__" : Str)) = false := by decide) (hcd : (x == ("__classdict__" : Str)) = false := by decide) : PE X (.Call (.Name x p) [] [] pos) (tClo q params body scope fr i sp) := by
  constructor
  intro pins s σ H Q I h
  obtain ⟨f, c, cl, ws, hs, hf, hc, nf, nc, C, hq⟩ := h
  refine wpAny_Call_Name_kw (thn ((pe_var (pos := p) hN hv hd hcd).run pins s σ H (fun v H1 => v = .ref f ∧ H1 = H) I ⟨.ref f, hs, rfl, rfl⟩) fun u s1 ⟨v, H1, I1, r1, ev, eH⟩ => ?_)
  subst ev
  rw [eH] at I1
  obtain rfl : u = Value.ref f := r1
  refine PySem.W.callWith_F0 (first := []) (lam_fn I1 hf) ?_
  show wpAny _ _ (call (.ref f) []) _ _ _
  have e0 := I1.env0
  have e1 : Env0 X.prog X.w X.K X.mg X.base X.A X.stack s1 (dropC cl fr H) := ⟨e0.frames, e0.mod, fun b o e => ⟨(e0.bs b o e).1, by rw [drop_off (C.offN (e0.bs b o e).2)]; exact (e0.bs b o e).2⟩, e0.bsz, e0.funs, fun b hb => by rw [drop_off (C.offN (e0.frf b hb))]; exact e0.frf b hb, hok_drop C e0.hok, e0.bare⟩
  refine wpAny_call (codeAny_mono (L.run f c cl X.A X.stack s1 (dropC cl fr H) ws _ (hr.mono hk) e1 ((drop_off nf).trans hf) ((drop_off nc).trans hc) (cells_held C I1.hok) hq) fun r s2 hq => ?_)
  cases r with
  | error e => exact hq.elim
  | ok fl =>
    cases fl with
    | next => exact hq.elim
    | brk => exact hq.elim
    | cont => exact hq.elim
    | ret u =>
      obtain ⟨v, H2, os, bare, un, hok, rv, hv⟩ := hq
      have gone : ∀ b, isC cl fr b = true → H2 b = none := fun b hb => by
        obtain ⟨y, z⟩ := C.at hb
        obtain ⟨_, ⟨o, ho⟩, _⟩ := I1.hok b _ z
        exact un.free b o ho (by unfold dropC; rw [hb]; rfl) (by simp)
      refine I1.after ⟨v, backC cl fr H H2, os, bare, ?_, fun b o e => ?_, rv, hv gone⟩
      · exact {
          keep := fun b o e n => un.keep b o e (by rw [drop_off (C.offN n)]; exact n)
          slot := fun b o e n => un.slot b o e (by rw [drop_off (C.offN n)]; exact n)
          free := fun b o e n hx => by
            rw [back_off (C.offN n)]
            exact un.free b o e (by rw [drop_off (C.offN n)]; exact n) hx
          there := un.there
          tups := fun b xs e => by
            have z := C.off e fun _ z => nomatch z
            rw [back_off z]
            exact un.tups b xs (by rw [drop_off z]; exact e)
          frzs := fun b o u e => by
            have z := C.off e fun _ z => nomatch z
            rw [back_off z]
            exact un.frzs b o u (by rw [drop_off z]; exact e)
          tbls := fun b ps e => by
            have z := C.off e fun _ z => nomatch z
            obtain ⟨more, t⟩ := un.tbls b ps (by rw [drop_off z]; exact e)
            exact ⟨more, by rw [back_off z]; exact t⟩ }
      · cases hb : isC cl fr b with
        | true =>
          rw [back_on hb] at e
          obtain ⟨v', hv'⟩ := C.at hb
          rw [hv'] at e
          cases e
          obtain ⟨u', r', o, ho, hdt⟩ := cellO_at I1.hok hv'
          refine cellO_ok r' ⟨o, un.keep b o ho (by unfold dropC; rw [hb]; rfl) (fun z => ?_) (by simp), hdt⟩
          have z2 := e0.frf b z
          rw [hv'] at z2
          cases z2
        | false =>
          rw [back_off hb] at e
          have live : ∀ d u, H2 d = some u → backC cl fr H H2 d = some u := fun d u q => by
            cases hd : isC cl fr d with
            | true => rw [gone d hd] at q; cases q
            | false => rw [back_off hd]; exact q
          exact (hok b o e).stay (fun _ _ _ q => q) (fun d q => live d _ q) fun d xs q => live d _ q
/-! a cell is no code object, no function -/
theorem rep_get {ob : Obj} (n : ob.data ≠ .freed) (m a : Nat) : ({ objs := Array.replicate m ob } : Heap).get? a = if a < m then some ob else none := by
  unfold Heap.get?
  rw [Array.getElem?_replicate]
  split
  · split
    · exact absurd (show ob.data = .freed from by simp_all) n
    · rfl
  · rfl
theorem cell_code {c a : Addr} {q : Str} {v : V} : CodeO a q ≠ CellO c v := fun z => by
  have hz := HO.ext.inj z
  let ob : Obj := { cls := .none, data := .fields #[.none, .str q default] }
  let h : Heap := { objs := Array.replicate (a + 1) ob }
  have nf : ob.data ≠ .freed := fun z => nomatch z
  have h1 : (fun h : Heap => ∃ u, RelV v u ∧ h.IsCell c (some u)) h := by
    rw [← hz]
    exact ⟨ob, _, default, (rep_get nf (a + 1) a).trans (if_pos (Nat.lt_succ_self a)), rfl, rfl⟩
  obtain ⟨u, _, o, ho, hd⟩ := h1
  have := (rep_get nf (a + 1) c).symm.trans ho
  split at this
  · cases this
    cases hd
  · cases this
theorem cell_lam {c f : Addr} {F : LF} {v : V} : LamO f F ≠ CellO c v := fun z => by
  have hz := HO.ext.inj z
  let ob : Obj := PySem.W.kla_obj "<lambda>" F.qual F.params F.body F.scope F.cl .none F.c .none
  let h : Heap := { objs := Array.replicate (f + 1) ob }
  have nf : ob.data ≠ .freed := fun z => nomatch z
  have h1 : (fun h : Heap => ∃ u, RelV v u ∧ h.IsCell c (some u)) h := by
    rw [← hz]
    exact ⟨.none, .none, (rep_get nf (f + 1) f).trans (if_pos (Nat.lt_succ_self f))⟩
  obtain ⟨u, _, o, ho, hd⟩ := h1
  have := (rep_get nf (f + 1) c).symm.trans ho
  split at this
  · cases this
    cases hd
  · cases this
theorem HeldC.offE {cl : List (Str × Addr)} {fr : List Str} {ws : List V} {H : Hp} (C : HeldC cl fr ws H) {b : Addr} {o : HO} (e : H b = some o) (n : ∀ v, o ≠ CellO b v) : isC cl fr b = false := by
  cases h : isC cl fr b with
  | false => rfl
  | true =>
    obtain ⟨w, z⟩ := C.at h
    rw [e] at z
    exact absurd (Option.some.inj z) (n _)
theorem tabs_drop {T : List (Addr × Str)} {cl : List (Str × Addr)} {fr : List Str} {ws : List V} {H : Hp} (C : HeldC cl fr ws H) (h : Tabs T H) : Tabs T (dropC cl fr H) := fun p hp => by
  obtain ⟨ps, e1, ok, k⟩ := h p hp
  refine ⟨ps, (drop_off (C.off e1 fun _ z => nomatch z)).trans e1, ok, fun pos cv hc => ?_⟩
  obtain ⟨c, rfl, e⟩ := k pos cv hc
  exact ⟨c, rfl, (drop_off (C.offE e fun _ => cell_code)).trans e⟩
/-- at f is a lambda; its cells hold ws -/
def LamAt (q : Str) (params : Arguments) (body : Expr) (scope : Scope) (fr : List Str) (ws : List V) (f : Addr) (H : Hp) : Prop :=
  ∃ (c : Addr) (cl : List (Str × Addr)), H f = some (LamO f ⟨q, params, body, scope, cl, c⟩) ∧ H c = some (CodeO c q) ∧ HeldC cl fr ws H
theorem LamAt.ext {q : Str} {params : Arguments} {body : Expr} {scope : Scope} {fr : List Str} {ws : List V} {f : Addr} {H H' : Hp} (L : LamAt q params body scope fr ws f H) (e : ExtN H H') : LamAt q params body scope fr ws f H' := by
  obtain ⟨c, cl, h1, h2, C⟩ := L
  exact ⟨c, cl, e _ _ h1 (fun _ z => nomatch z), e _ _ h2 codeO_ne, ⟨C.len, fun i y z => by
    obtain ⟨c, w, a1, a2, a3⟩ := C.has i y z
    exact ⟨c, w, a1, a2, e _ _ a3 (fun _ z => nomatch z)⟩, C.all, C.inj⟩⟩
/-- such a lambda is called -/
theorem L_clo {q : Str} {params : Arguments} {body : Expr} {scope : Scope} {fr : List Str} {i : Nat} {sp : List V → Hp → VK → Prop} {σ : L2.St} {H : Hp} {Q : VK} {f : Addr} {ws : List V} (L : LamAt q params body scope fr ws f H) (hs : σ[i]? = some (some (.ref f)))
    (k : ∀ Hd : Hp, (∀ b o, Hd b = some o → H b = some o) → (∀ b o, H b = some o → (∀ φ, o ≠ .ext φ) → Hd b = some o) → (∀ T, Tabs T H → Tabs T Hd) → sp ws Hd fun v H1 => ∀ H2 : Hp, Same H1 H2 → (ExtN Hd H1 → ExtN H H2) → Q v H2)
    (mono : ∀ H (Q Q' : VK), sp ws H Q → (∀ v H1, Q v H1 → Q' v H1) → sp ws H Q') : tClo q params body scope fr i sp σ H Q := by
  obtain ⟨c, cl, h1, h2, C⟩ := L
  refine ⟨f, c, cl, ws, hs, h1, h2, C.offE h1 fun _ => cell_lam, C.offE h2 fun _ => cell_code, C, ?_⟩
  refine mono _ _ _ (k (dropC cl fr H) (fun b o e => (drop_some e).2) (fun b o e n => (drop_off (C.off e n)).trans e) fun T => tabs_drop C) fun v H1 hv gone => hv _ (fun b o e => ?_) fun ex b o e n => ?_
  · cases hb : isC cl fr b with
    | true => rw [gone b hb] at e; cases e
    | false => exact (back_off hb).trans e
  · cases hb : isC cl fr b with
    | true => exact (back_on hb).trans e
    | false => exact (back_off hb).trans (ex b o ((drop_off hb).trans e) n)
theorem tClo_at {q : Str} {params : Arguments} {body : Expr} {scope : Scope} {fr : List Str} {i : Nat} {sp : List V → Hp → VK → Prop} {σ : L2.St} {H : Hp} {Q : VK} {f : Addr} (h : tClo q params body scope fr 0 sp [some (.ref f)] H Q) (hs : σ[i]? = some (some (.ref f))) : tClo q params body scope fr i sp σ H Q := by
  obtain ⟨g, c, cl, ws, e, r⟩ := h
  cases e
  exact ⟨f, c, cl, ws, hs, r⟩
theorem tabs_nil {cs : List (Addr × Addr)} {T : List (Addr × Str)} {H : Hp} (h : ∀ p ∈ cs, H p.2 = some (.tbl #[])) (hs : ∀ t ∈ T, ∃ p ∈ cs, p.2 = t.1) : Tabs T H := fun t ht => by
  obtain ⟨p, hp, e⟩ := hs t ht
  exact .nil (by rw [← e]; exact h p hp)
theorem ncx_K {CX : CXT} {P : Program} {w : World} {K : PySem.W.Frag} {mg : Str → Option Value} {base : Heap} {N : List Str} {F : NF} {f : Addr} {A : Around} {outer : List Env} {s : Shared} {H : Hp} {E : XK} : (ncx CX P w K mg base N F f A outer s H E).K = K := rfl
theorem ncx_mg {CX : CXT} {P : Program} {w : World} {K : PySem.W.Frag} {mg : Str → Option Value} {base : Heap} {N : List Str} {F : NF} {f : Addr} {A : Around} {outer : List Env} {s : Shared} {H : Hp} {E : XK} : (ncx CX P w K mg base N F f A outer s H E).mg = mg := rfl
/-! ### makers: defs that make lambdas -/
/-- the code object of the def that a name of the module holds; its table -/
def cF (K : PySem.W.Frag) (mg : Str → Option Value) (x : Str) : Addr := match mg x with
  | some (.ref f) => match K.lookup f with
    | some ⟨_, _, .func fd, _⟩ => match fd.code with
      | .ref c => c
      | _ => 0
    | _ => 0
  | _ => 0
def pK (K : PySem.W.Frag) (c : Addr) : Addr := match K.lookup c with
  | some ⟨_, _, .fields vs, _⟩ => match (vs[11]? : Option Value) with
    | some (.ref P) => P
    | _ => 0
  | _ => 0
abbrev pF (K : PySem.W.Frag) (mg : Str → Option Value) (x : Str) : Addr := pK K (cF K mg x)
structure DefC (K : PySem.W.Frag) (mg : Str → Option Value) (x : Str) (st : Stmt) (ps : List Str) : Prop where
  ex : ∃ (f : Addr) (oc : Value) (od : Option Addr) (kV doc pm : Value) (an : Option Addr) (ct : Value) (osl : Array (Option Value)),
    K.lookup f = some ⟨oc, od, .func (PySem.W.fnOf x x (defArgs st) (defBody st) (defScope st) .none kV doc pm an (.ref (cF K mg x)) ct), osl⟩ ∧ PySem.W.codeIn K (.ref (cF K mg x)) x = true ∧ PySem.W.keepIn K (.ref f) = true ∧ mg x = some (.ref f) ∧ Binds K (PySem.W.fnOf x x (defArgs st) (defBody st) (defScope st) .none kV doc pm an (.ref (cF K mg x)) ct) ps []
theorem cF_of {K : PySem.W.Frag} {mg : Str → Option Value} {x : Str} {f c : Addr} {oc : Value} {od : Option Addr} {fd : FuncData} {osl : Array (Option Value)} (hm : mg x = some (.ref f)) (hl : K.lookup f = some ⟨oc, od, .func fd, osl⟩) (hc : fd.code = .ref c) : cF K mg x = c := by
  unfold cF
  rw [hm]
  show (match K.lookup f with | some ⟨_, _, .func fd, _⟩ => (match fd.code with | .ref c => c | _ => 0) | _ => 0) = c
  rw [hl]
  show (match fd.code with | .ref c => c | _ => 0) = c
  rw [hc]
section
variable {P : Program} {w : World} {K : PySem.W.Frag} {mg : Str → Option Value} {base : Heap}
theorem DefC.calK {x : Str} {st : Stmt} {N ps : List Str} {k : Nat} {sp : Sp} {as : List (Str × Nat)} (d : DefC K mg x st ps) (S : FnScope N ps (defScope st)) (len : ∀ vs H Q E, sp vs H Q E → vs.length = ps.length) (hk : ∀ a ∈ as, (defScope st).names.lookup a.1 = some .cell ∧ N[a.2]? = some a.1)
    (hbody : ∀ (f : Addr) (A : Around) (outer : List Env) (s : Shared) (H : Hp) (vs : List V) (Q : VK) (E : XK), Room k (A.deeper (envOfC x (defScope st) s.heap.objs.size f (.ref (cF K mg x)))) → sp vs H Q E →
      ∃ t, PSR (cxOf CX0 P w K mg base N x (defScope st) f (.ref (cF K mg x)) A outer s H E) (defBody st) t ∧ t (Keeps (cellsFrom (s.heap.objs.size + 1) (defScope st).names []) as Q) (start N vs) H) : Cal P w K mg base (k + 1) x sp := by
  obtain ⟨f, oc, od, kV, doc, pm, an, ct, osl, lk, hcd, kp, hm, b⟩ := d.ex
  refine ⟨f, _, ps, ⟨len, fun A outer s H args us vs Q E hr e0 hb r hsp => ?_⟩, hm, kp, b⟩
  have inK : K.In s.heap := e0.mod.kin.keeps fun b o e => (e0.bs b o e).1
  have free : s.heap.NoLimit := e0.mod.nolimit.keeps fun b o e => (e0.bs b o e).1
  have kinds : ∀ y ∈ ps.zip us, (defScope st).names.lookup y.1 = some .local ∨ ((defScope st).names.lookup y.1 = some .cell ∧ ((cellsFrom (s.heap.objs.size + 1) (defScope st).names []).lookup y.1).isSome = true) := fun y hy => by
    obtain ⟨n, v⟩ := y
    exact (S.par n (List.of_mem_zip hy).1).imp id fun z => ⟨z, PySem.W.cellsFrom_some _ _ _ (.inl z)⟩
  refine codeAny_call_function hr.depth (inK _ _ lk) rfl S.co S.gen rfl (PySem.W.codeRec_of inK hcd) (hb _ _ _ _ ?_)
  refine wpAny_newFunctionEnv_cells S.kind kinds fun env he s1 y => ?_
  subst he
  refine ⟨free.keeps y.toInCall.keep, codeAny_func ?_⟩
  obtain ⟨t, ht, hq⟩ := hbody f A outer s H vs Q E (hr.deeper _) hsp
  have I : Inv (cxOf CX0 P w K mg base N x (defScope st) f (.ref (cF K mg x)) A outer s H E) [] (start N vs) H s1 := inv_start S hr.hd e0 (len _ _ _ _ hsp) r y
  refine wpAny_mono (ht.run [] s1 (start N vs) H _ I hq) (fun fl s2 hs => ?_) fun e s2 hs => hs
  cases fl with
  | ret u =>
    obtain ⟨v, σ', H', J, rv, as1, ws, sub, nd, hw, q⟩ := hs
    obtain ⟨H2, sm, _, at_, un, hok⟩ := keep_cells J (fun z c hz => J.ok.cab z c rfl hz) as1 ws (fun a ha => hk a (sub a ha)) nd hw
    exact ⟨v, H2, J.os, J.bare, un, hok, rv, q H2 (fun x y c e1 e2 => J.ok.inj x y c e1 e2) sm at_⟩
  | next => exact hs.elim
  | brk => exact hs.elim
  | cont => exact hs.elim
end
/-- where a recursion ends: nothing is promised -/
theorem DefC.calF {P : Program} {w : World} {K : PySem.W.Frag} {mg : Str → Option Value} {base : Heap} {x : Str} {st : Stmt} {ps : List Str} {k : Nat} (d : DefC K mg x st ps) : Cal P w K mg base k x (fun _ _ _ _ => False) := by
  obtain ⟨f, oc, od, kV, doc, pm, an, ct, osl, lk, hcd, kp, hm, b⟩ := d.ex
  exact ⟨f, _, ps, ⟨fun _ _ _ _ h => h.elim, fun _ _ _ _ _ _ _ _ _ _ _ _ _ h => h.elim⟩, hm, kp, b⟩
/-! ### a heap that grows, code tables too -/
structure Ev (T : List (Addr × Str)) (H H' : Hp) : Prop where
  ex : ExtN H H'
  tb : Tabs T H → Tabs T H'
theorem Ev.refl {T : List (Addr × Str)} {H : Hp} : Ev T H H := ⟨.refl _, id⟩
theorem Ev.trans {T : List (Addr × Str)} {H H1 H2 : Hp} (a : Ev T H H1) (b : Ev T H1 H2) : Ev T H H2 := ⟨a.ex.trans b.ex, fun t => b.tb (a.tb t)⟩
theorem Ev.same {T : List (Addr × Str)} {H H' : Hp} (s : Same H H') : Ev T H H' := ⟨.of s, fun t => t.ext s⟩
theorem Ev.made {T : List (Addr × Str)} {H H' : Hp} (a : ExtN H H') (b : Tabs T H') : Ev T H H' := ⟨a, fun _ => b⟩
theorem Ev.lst {T : List (Addr × Str)} {H H' : Hp} (e : Ev T H H') {a : Addr} {xs : List V} (h : H a = some (.lst xs)) : H' a = some (.lst xs) := e.ex _ _ h (fun _ z => nomatch z)
theorem Ev.tup {T : List (Addr × Str)} {H H' : Hp} (e : Ev T H H') {a : Addr} {xs : List V} (h : H a = some (.tup xs)) : H' a = some (.tup xs) := e.ex _ _ h (fun _ z => nomatch z)
theorem Ev.ins {T : List (Addr × Str)} {H H' : Hp} (e : Ev T H H') {a C d : Addr} {fs : List (Str × V)} (h : H a = some (.ins C d fs)) : H' a = some (.ins C d fs) := e.ex _ _ h (fun _ z => nomatch z)
theorem Ev.seqT {K : PySem.W.Frag} {T : List (Addr × Str)} {H H' : Hp} (e : Ev T H H') {a : Addr} {xs : List V} (h : SqT K H a xs) : SqT K H' a xs := by
  rcases h with (h | ⟨o, h⟩) | h
  · exact .inl (.inl (e.tup h))
  · exact .inl (.inr ⟨o, e.ex _ _ h (fun _ z => nomatch z)⟩)
  · exact .inr h
theorem Ev.seq {K : PySem.W.Frag} {T : List (Addr × Str)} {H H' : Hp} (e : Ev T H H') {a : Addr} {xs : List V} (h : SqL K H a xs) : SqL K H' a xs := by
  rcases h with (h | ⟨o, h⟩) | h
  · exact .inl (.inl (e.lst h))
  · exact .inl (.inr ⟨o, e.ex _ _ h (fun _ z => nomatch z)⟩)
  · exact .inr h
mutual
theorem Dp_sq {K : PySem.W.Frag} {H H' : Hp} (eL : ∀ a xs, SqL K H a xs → SqL K H' a xs) (eT : ∀ a xs, SqT K H a xs → SqT K H' a xs) : ∀ (d : PyData) {v : V}, Dp K H v d → Dp K H' v d
  | _, _, .int _ => .int _
  | _, _, .str _ => .str _
  | _, _, .bl _ => .bl _
  | _, _, .non => .non
  | _, _, .lst h a => .lst (eL _ _ h) (DpAll_sq eL eT _ a)
  | _, _, .tup h a => .tup (eT _ _ h) (DpAll_sq eL eT _ a)
theorem DpAll_sq {K : PySem.W.Frag} {H H' : Hp} (eL : ∀ a xs, SqL K H a xs → SqL K H' a xs) (eT : ∀ a xs, SqT K H a xs → SqT K H' a xs) : ∀ (ds : List PyData) {vs : List V}, DpAll K H vs ds → DpAll K H' vs ds
  | _, _, .nil => .nil
  | _, _, .cons h t => .cons (Dp_sq eL eT _ h) (DpAll_sq eL eT _ t)
end
theorem Ev.dp {K : PySem.W.Frag} {T : List (Addr × Str)} {H H' : Hp} (e : Ev T H H') {v : V} {d : PyData} (h : Dp K H v d) : Dp K H' v d := Dp_sq (fun _ _ => e.seq) (fun _ _ => e.seqT) d h
theorem Ev.dpA {K : PySem.W.Frag} {T : List (Addr × Str)} {H H' : Hp} (e : Ev T H H') {vs : List V} {ds : List PyData} (h : DpAll K H vs ds) : DpAll K H' vs ds := DpAll_sq (fun _ _ => e.seq) (fun _ _ => e.seqT) ds h
/-- a new thing that is changed -/
theorem Ev.mut {T : List (Addr × Str)} {H H1 : Hp} {D : Addr} {us : List V} {o : HO} (e : Ev T H H1) (n : H D = none) (h : H1 D = some (.lst us)) : Ev T H (upd H1 D o) := ⟨fun b o' hb ne => by
  rw [upd_ne (ne_of_none hb n)]
  exact e.ex _ _ hb ne, fun t => fun p hp => by
  obtain ⟨ps, e1, ok, k⟩ := e.tb t p hp
  have keep : ∀ b o', H1 b = some o' → (∀ l, o' ≠ .lst l) → upd H1 D o b = some o' := fun b o' hb ne => by
    rw [upd_ne fun z => by rw [z, h] at hb; exact ne _ (Option.some.inj hb).symm]
    exact hb
  refine ⟨ps, keep _ _ e1 (fun _ z => nomatch z), ok, fun pos cv hc => ?_⟩
  obtain ⟨c, rfl, hcc⟩ := k pos cv hc
  exact ⟨c, rfl, keep _ _ hcc (fun l z => by unfold CodeO at z; cases z)⟩⟩
/-- a comprehension of new things of some kind, where lambdas may be made -/
theorem lc_ev {α : Type} {T : List (Addr × Str)} (F : Hp → V → α → Prop) (st : ∀ H H' v a, Ev T H H' → F H v a → F H' v a) (up : ∀ H D us us' v a, H D = some (.lst us) → F H v a → F (upd H D (.lst us')) v a)
    {σ : L2.St} {H : Hp} {g : TG} {tt : TT} {te : TE} {J : It} {n : Nat} {G : Hp → Prop} {Y : Nat → Hp → V → Hp → Prop} (w : L2.Walk J n G Y) {vs : List Nat} {Qd : Addr → Hp → Prop} (l : List α) (hl : l.length = n) (hn : n ≤ 1000000) (hG : ∀ H', Ev T H H' → G H')
    (hs : ∀ i x H2 H' (R : V → Hp → Prop) (R' : Hp → Prop), i < n → Ev T H H2 → Y i H2 x H' → (∀ v p H4, l[i]? = some p → Ev T H2 H4 → F H4 v p → R v H4) →
      g x (wipe σ vs) H' fun σ2 H2 => wipe σ2 vs = wipe σ vs ∧ tt σ2 H2 fun b H3 => if b = true then te σ2 H3 R else R' H3)
    (q : ∀ p H' vs, H p = none → Ev T H H' → H' p = some (.lst vs) → Paired (F H') vs l → Qd p H') :
    ∀ D, H D = none → ∃ W : Nat → Nat → Hp → Prop, (∃ m, W 0 m (upd H D (.lst []))) ∧ ∀ i m H, W i m H →
      (J.stop i H ∧ Qd D H) ∨ (J.go i H ∧ ∃ Nx : Hp → Prop, (∀ H', Nx H' → ∃ m', m' < m ∧ W (i + 1) m' H') ∧ ∀ x H', J.yld i H x H' → g x (wipe σ vs) H' fun σ2 H2 => wipe σ2 vs = wipe σ vs ∧ tt σ2 H2 fun b H3 =>
        if b = true then te σ2 H3 fun y H4 => ∃ acc, H4 D = some (.lst acc) ∧ acc.length < sizeLine ∧ Nx (upd H4 D (.lst (acc ++ [y]))) else Nx H3) := by
  intro D hD
  refine lc_it w (fun i H2 => Ev T H H2 ∧ ∃ us, H2 D = some (.lst us) ∧ Paired (F H2) us (l.take i)) ⟨.same (same_new hD), [], upd_same, .nil⟩ (fun i H2 _ p => hG H2 p.1) ?_ (fun H2 ⟨p1, us, p2, p3⟩ => q D H2 us hD p1 p2 (by rwa [List.take_of_length_le (by omega)] at p3))
  rintro i x H2 H' hi ⟨p1, us, p2, p3⟩ y
  refine hs i x H2 H' _ _ hi p1 y (fun v p H4 e s et => ?_)
  have e4 := s.lst p2
  have ln := Paired.length p3
  rw [List.length_take] at ln
  refine ⟨us, e4, sz_lt (by omega), (p1.trans s).mut hD e4, _, upd_same, ?_⟩
  rw [List.take_succ, e]
  exact paired_app (paired_imp2 (fun v p h => up _ _ _ _ _ _ e4 (st _ _ _ _ s h)) p3) (.cons (up _ _ _ _ _ _ e4 et) .nil)
/-- a comprehension of new things of some kind, where lambdas may be made -/
theorem lc_ev2 {α : Type} {T : List (Addr × Str)} (F : Hp → V → α → Prop) (st : ∀ H H' v a, Ev T H H' → F H v a → F H' v a) {σ : L2.St} {H : Hp} (up : ∀ H1 D us us' v a, H D = none → H1 D = some (.lst us) → F H1 v a → F (upd H1 D (.lst us')) v a)
     {g : TG} {tt : TT} {te : TE} {J : It} {n : Nat} {G : Hp → Prop} {Y : Nat → Hp → V → Hp → Prop} (w : L2.Walk J n G Y) {vs : List Nat} {Qd : Addr → Hp → Prop} (l : List α) (hl : l.length = n) (hn : n ≤ 1000000) (hG : ∀ H', Ev T H H' → G H')
    (hs : ∀ i x H2 H' (R : V → Hp → Prop) (R' : Hp → Prop), i < n → Ev T H H2 → Y i H2 x H' → (∀ v p H4, l[i]? = some p → Ev T H2 H4 → F H4 v p → R v H4) →
      g x (wipe σ vs) H' fun σ2 H2 => wipe σ2 vs = wipe σ vs ∧ tt σ2 H2 fun b H3 => if b = true then te σ2 H3 R else R' H3)
    (q : ∀ p H' vs, H p = none → Ev T H H' → H' p = some (.lst vs) → Paired (F H') vs l → Qd p H') :
    ∀ D, H D = none → ∃ W : Nat → Nat → Hp → Prop, (∃ m, W 0 m (upd H D (.lst []))) ∧ ∀ i m H, W i m H →
      (J.stop i H ∧ Qd D H) ∨ (J.go i H ∧ ∃ Nx : Hp → Prop, (∀ H', Nx H' → ∃ m', m' < m ∧ W (i + 1) m' H') ∧ ∀ x H', J.yld i H x H' → g x (wipe σ vs) H' fun σ2 H2 => wipe σ2 vs = wipe σ vs ∧ tt σ2 H2 fun b H3 =>
        if b = true then te σ2 H3 fun y H4 => ∃ acc, H4 D = some (.lst acc) ∧ acc.length < sizeLine ∧ Nx (upd H4 D (.lst (acc ++ [y]))) else Nx H3) := by
  intro D hD
  refine lc_it w (fun i H2 => Ev T H H2 ∧ ∃ us, H2 D = some (.lst us) ∧ Paired (F H2) us (l.take i)) ⟨.same (same_new hD), [], upd_same, .nil⟩ (fun i H2 _ p => hG H2 p.1) ?_ (fun H2 ⟨p1, us, p2, p3⟩ => q D H2 us hD p1 p2 (by rwa [List.take_of_length_le (by omega)] at p3))
  rintro i x H2 H' hi ⟨p1, us, p2, p3⟩ y
  refine hs i x H2 H' _ _ hi p1 y (fun v p H4 e s et => ?_)
  have e4 := s.lst p2
  have ln := Paired.length p3
  rw [List.length_take] at ln
  refine ⟨us, e4, sz_lt (by omega), (p1.trans s).mut hD e4, _, upd_same, ?_⟩
  rw [List.take_succ, e]
  exact paired_app (paired_imp2 (fun v p h => up _ _ _ _ _ _ hD e4 (st _ _ _ _ s h)) p3) (.cons (up _ _ _ _ _ _ hD e4 et) .nil)
theorem same_made {H : Hp} {x dx C : Addr} (nx : H x = none) (nd : H dx = none) (ne : dx ≠ x) : Same H (upd (upd H dx (.own x)) x (.ins C dx [])) :=
  (same_new nd).trans (same_new (by rw [upd_ne ne.symm]; exact nx))
theorem paired_nth {α β : Type} {F : α → β → Prop} : ∀ {xs : List α} {ys : List β} {i : Nat} {x : α}, Paired F xs ys → xs[i]? = some x → ∃ y, ys[i]? = some y ∧ F x y
  | _, _, _, _, .nil, h => by simp at h
  | _, _, 0, _, .cons h _, e => by
    cases e
    exact ⟨_, rfl, h⟩
  | _, _, i + 1, _, .cons _ t, e => paired_nth t (i := i) e
theorem paired_of {α β : Type} {F : α → β → Prop} : ∀ {xs : List α} {ys : List β} {i : Nat} {y : β}, Paired F xs ys → ys[i]? = some y → ∃ x, xs[i]? = some x ∧ F x y
  | _, _, _, _, .nil, h => by simp at h
  | _, _, 0, _, .cons h _, e => by
    cases e
    exact ⟨_, rfl, h⟩
  | _, _, i + 1, _, .cons _ t, e => paired_of t (i := i) e
theorem paired_pick {α β γ : Type} {R : α → β → γ → Prop} : ∀ {us : List α} {ps : List β}, Paired (fun u p => ∃ w, R u p w) us ps → ∃ ws : List γ, ws.length = ps.length ∧ Paired (fun u (x : β × γ) => R u x.1 x.2) us (ps.zip ws)
  | _, [], h => by cases h; exact ⟨[], rfl, .nil⟩
  | _, p :: ps, h => by
    cases h with | cons h1 h2 =>
    obtain ⟨w, hw⟩ := h1
    obtain ⟨ws, hl, hp⟩ := paired_pick h2
    exact ⟨w :: ws, by simp [hl], .cons hw hp⟩
theorem paired_unzip {α β γ : Type} {F : α → β × γ → Prop} {G : α → β → Prop} : ∀ {us : List α} {ps : List β} {ws : List γ}, Paired F us (ps.zip ws) → ws.length = ps.length → (∀ u x, x ∈ ps.zip ws → F u x → G u x.1) → Paired G us ps
  | _, [], _, h, _, _ => by cases h; exact .nil
  | _, p :: ps, [], _, hl, _ => by simp at hl
  | _, p :: ps, w :: ws, h, hl, k => by
    cases h with | cons h1 h2 =>
    exact .cons (k _ _ (by simp) h1) (paired_unzip h2 (by simpa using hl) fun u x hx => k u x (List.mem_cons_of_mem _ hx))
theorem LamAt.up {q : Str} {params : Arguments} {body : Expr} {scope : Scope} {fr : List Str} {ws : List V} {f D : Addr} {H : Hp} {us : List V} {o : HO} (L : LamAt q params body scope fr ws f H) (e : H D = some (.lst us)) : LamAt q params body scope fr ws f (upd H D o) := by
  obtain ⟨c, cl, g1, g2, C⟩ := L
  have keep : ∀ b o', H b = some o' → (∀ l, o' ≠ .lst l) → upd H D o b = some o' := fun b o' hb n => by
    rw [upd_ne fun z => by rw [z, e] at hb; exact n _ (Option.some.inj hb).symm]
    exact hb
  exact ⟨c, cl, keep _ _ g1 (fun _ z => nomatch z), keep _ _ g2 (fun _ z => by unfold CodeO at z; cases z), ⟨C.len, fun i y z => by
    obtain ⟨c, w, a1, a2, a3⟩ := C.has i y z
    exact ⟨c, w, a1, a2, keep _ _ a3 (fun _ z => nomatch z)⟩, C.all, C.inj⟩⟩
/-- where a recursion ends: nothing is promised -/
theorem DefAt.calF {P : Program} {w : World} {K : PySem.W.Frag} {mg : Str → Option Value} {base : Heap} {x : Str} {st : Stmt} {ps : List Str} {k : Nat} (d : DefAt K mg x st ps) : Cal P w K mg base k x (fun _ _ _ _ => False) := by
  obtain ⟨f, fd, F, hm, b⟩ := d.ex
  exact ⟨f, fd, ps, ⟨fun _ _ _ _ h => h.elim, fun _ _ _ _ _ _ _ _ _ _ _ _ _ h => h.elim⟩, hm, F.kp, b⟩
/-- the tables at the start -/
structure TabsE (K : PySem.W.Frag) (cs : List (Addr × Addr)) (h : Heap) : Prop where
  e : ∀ p ∈ cs, h.get? p.2 = some { cls := .none, data := .fields #[] }
  n : ∀ p ∈ cs, K.lookup p.2 = none
  c : ∀ p ∈ cs, PySem.W.CodeHd h p.1 p.2
theorem TabsE.cons {K : PySem.W.Frag} {mg : Str → Option Value} {x : Str} {cc : Addr} {cs : List (Addr × Addr)} {h : Heap} {ts : List Addr} (X : K.In h) (e : cF K mg x = cc) (ch : PySem.W.codeHdIn K cc (pK K cc) = true) (nk : K.lookup (pK K cc) = none) (mt : ts.contains (pK K cc) = true) (Y : ∀ P ∈ ts, h.get? P = some (PySem.W.tabObj #[])) (r : TabsE K cs h) : TabsE K ((cF K mg x, pF K mg x) :: cs) h := by
  have e2 : pF K mg x = pK K cc := by
    show pK K (cF K mg x) = _
    rw [e]
  rw [e, e2]
  exact ⟨List.forall_mem_cons.mpr ⟨Y _ (by simpa using mt), r.e⟩, List.forall_mem_cons.mpr ⟨nk, r.n⟩, List.forall_mem_cons.mpr ⟨PySem.W.codeHd_of_K X ch, r.c⟩⟩
theorem TabsE.nil {K : PySem.W.Frag} {h : Heap} : TabsE K [] h := ⟨(fun _ h => nomatch h), (fun _ h => nomatch h), (fun _ h => nomatch h)⟩
theorem pF_ne {K : PySem.W.Frag} {mg : Str → Option Value} {x y : Str} {a b : Addr} (e1 : cF K mg x = a) (e2 : cF K mg y = b) (n : (pK K a == pK K b) = false) : pF K mg x ≠ pF K mg y := fun z => by
  have z2 : pK K (cF K mg x) = pK K (cF K mg y) := z
  rw [e1, e2] at z2
  rw [z2] at n
  simp at n
theorem defC_mk {K : PySem.W.Frag} {mg : Str → Option Value} {x : Str} {st : Stmt} {ps : List Str} {f cc : Addr} {oc : Value} {od : Option Addr} {kV doc pm : Value} {an : Option Addr} {ct : Value} {osl : Array (Option Value)} (e : cF K mg x = cc)
    (l : K.lookup f = some ⟨oc, od, .func (PySem.W.fnOf x x (defArgs st) (defBody st) (defScope st) .none kV doc pm an (.ref cc) ct), osl⟩) (c : PySem.W.codeIn K (.ref cc) x = true) (k : PySem.W.keepIn K (.ref f) = true) (hm : mg x = some (.ref f))
    (b : ∀ kV doc pm an cdv ct, ∀ us : List Value, us.length = ps.length → bindArgs (PySem.W.fnOf x x (defArgs st) (defBody st) (defScope st) .none kV doc pm an cdv ct) ⟨us, []⟩ = pure (ps.zip us)) : DefC K mg x st ps := by
  subst e
  exact ⟨f, oc, od, kV, doc, pm, an, ct, osl, l, c, k, hm, .all (b kV doc pm an _ ct)⟩
/-! ### where a lambda stands in a text -/
def stV : Stmt → Expr
  | .Assign _ v _ => v
  | .Return (some e) _ => e
  | _ => .Name "x" ⟨0, 0, 0, 0⟩
/-- the lambda itself, the second of a tuple, the second argument of a call -/
def lamE : Expr → Expr
  | .Tuple es _ _ => es.getD 1 (.Name "x" ⟨0, 0, 0, 0⟩)
  | .Call _ as _ _ => as.getD 1 (.Name "x" ⟨0, 0, 0, 0⟩)
  | e => e
def lamP (st : Stmt) : Expr → Arguments
  | .Lambda p _ _ _ => p
  | _ => defArgs st
def lamB : Expr → Expr
  | .Lambda _ b _ _ => b
  | e => e
def lamS (st : Stmt) : Expr → Scope
  | .Lambda _ _ sc _ => sc
  | _ => defScope st
def lamPos : Expr → Pos
  | .Lambda _ _ _ p => p
  | _ => ⟨0, 0, 0, 0⟩
/-- a comprehension's scope -/
def lcSc : Expr → Scope
  | .ListComp _ _ sc _ => sc
  | .Lambda _ _ sc _ => sc
  | _ => defScope (.Pass ⟨0, 0, 0, 0⟩)
theorem pe_lamE {X : Cx} {T : List (Addr × Str)} {c P : Addr} {q : Str} (st : Stmt) (e : Expr) (h : e = .Lambda (lamP st e) (lamB e) (lamS st e) (lamPos e)) (TB : TabB X.base X.mg c P) (hcode : X.env.code = .ref c) (hq : X.env.qual ++ "<lambda>" = q)
    (hm : (P, q) ∈ T) (hu : ∀ p ∈ T, p.1 = P → p.2 = q) (hdef : defaultsOf (lamP st e) X.env = ([], [])) (hfree : ∀ y ∈ (lamS st e).names, y.2 = .free → X.env.scope.names.lookup y.1 = some .cell ∨ X.env.scope.names.lookup y.1 = some .free) :
    PE X e (tLam T fun c' => ⟨q, lamP st e, lamB e, lamS st e, cloFrom X.env.cells (lamS st e).names [], c'⟩) := by
  rw [h]
  exact pe_lam TB hcode hq hm hu hdef hfree
/-- the free names of a lambda are cells of the def around -/
def freeIn (sc lsc : Scope) : Bool := lsc.names.all fun y => !decide (y.2 = .free) || decide (sc.names.lookup y.1 = some .cell) || decide (sc.names.lookup y.1 = some .free)
theorem freeIn_ok {sc lsc : Scope} (h : freeIn sc lsc = true) : ∀ y ∈ lsc.names, y.2 = .free → sc.names.lookup y.1 = some .cell ∨ sc.names.lookup y.1 = some .free := fun y hy e => by
  unfold freeIn at h
  have := List.all_eq_true.mp h y hy
  simp only [Bool.or_eq_true, Bool.not_eq_true', decide_eq_true_eq, decide_eq_false_iff_not] at this
  rcases this with (z | z) | z
  · exact absurd e z
  · exact .inl z
  · exact .inr z
end Kt

set_option Elab.async false
set_option linter.all false
set_option maxRecDepth 100000
set_option maxHeartbeats 4000000
/-! CntP: xs.count(t) of pairs of ints -/
namespace Kt
open PySem PySem.Spec PyProof.Rows L2
theorem rcAt_shaped {A : Around} {s : Shared} {a b : Value} {da db : PyData} {as bs : List Addr} (ra : Reads s.heap a da as) (rb : Reads s.heap b db bs) (ha : SeqAt.shaped da = true) (hb : SeqAt.shaped db = true) (hu : A.units + 64 < cLine) : SeqAt.RcAt A s a b (PyData.eqv da db) :=
  fun prog w E Q hq => SeqAt.compareEq_shaped ra rb ha hb hu hq
theorem eqAt_shaped {A : Around} {s : Shared} {a b : Addr} {da db : PyData} {as bs : List Addr} (ra : Reads s.heap (.ref a) da as) (rb : Reads s.heap (.ref b) db bs) (ha : SeqAt.shaped da = true) (hb : SeqAt.shaped db = true) (hu : A.units + 64 < cLine) (same : a = b → PyData.eqv da db = true) : SeqAt.EqAt A s (.ref a) (.ref b) (PyData.eqv da db) := by
  by_cases c : a = b
  · rw [same c]
    subst c
    exact SeqAt.EqAt.same _
  · exact .of_refs c (rcAt_shaped ra rb ha hb hu)
/-- the pair of ints that stands at an address -/
def pairAt (h : Heap) : Value → Option (Int × Int)
  | .ref a => match h.get? a with
    | some o => match o.data with
      | .seq its _ => match its.toList with
        | [.int i _, .int j _] => some (i, j)
        | _ => none
      | _ => none
    | none => none
  | _ => none
section
variable {X : Cx} {pins : List (Addr × Obj)} {σ : L2.St} {H : Hp} {s : Shared}
theorem pairAt_of (I : Inv X pins σ H s) {a : Addr} {i j : Int} (h : SqT X.K H a [.int i, .int j]) : pairAt s.heap (.ref a) = some (i, j) := by
  obtain ⟨its, rv, ⟨o, ho, hc, n, hd⟩, _⟩ := I.tuple h
  cases rv with | cons r1 t =>
  cases t with | cons r2 t2 =>
  cases t2
  obtain ⟨t1, rfl⟩ := r1
  obtain ⟨t2, rfl⟩ := r2
  unfold pairAt
  dsimp only
  rw [ho]
  dsimp only
  rw [hd]
def rCntP (K : PySem.W.Frag) : V → List V → Hp → VK → Prop := fun x xs H Q => ∃ (p t : Addr) (us : List V) (ps : List (Int × Int)) (i j : Int), x = .ref p ∧ xs = [.ref t] ∧ SqL K H p us ∧ DpAll K H us (ps.map d2) ∧ SqT K H t [.int i, .int j] ∧ Q (.int (ps.count (i, j) : Nat)) H
theorem eqv_d2 (a b : Int × Int) : PyData.eqv (d2 a) (d2 b) = decide (a = b) := by
  obtain ⟨i, j⟩ := a
  obtain ⟨k, l⟩ := b
  by_cases h1 : i = k <;> by_cases h2 : j = l <;> simp [d2, PyData.eqv, PyData.eqvAll, h1, h2]
theorem hr65 {k : Nat} {A : Around} (r : Room k A) : A.units + 65 < cLine := by
  have := r.un
  omega
theorem mt_cntP (hu : X.A.units + 65 < cLine) : MtR X "list.count" (rCntP X.K) := by
  intro pins s σ H x xs v us Q I rx rxs h
  obtain ⟨p, t, zs, ps, i, j, rfl, rfl, hs, hD, hT, q⟩ := h
  cases rx
  obtain ⟨u, rfl, ru⟩ := rxs.one
  cases ru
  obtain ⟨its, rv, ⟨⟨cls, dd, data, sl⟩, n, ho, hc, hdn, hd⟩, hlen⟩ := I.list hs
  simp only at hc hd
  subst hc hd
  have sh : ∀ a : Int × Int, SeqAt.shaped (d2 a) = true := fun a => (shp_tup (n := 0) (shp_cons shp_int (shp_cons shp_int shp_nil))).ok
  obtain ⟨bs, rT⟩ := Dp.reads I (d2 (i, j)) (.ref t) (.ref t) (.tup hT (.cons (.int _) (.cons (.int _) .nil))) rfl
  have key : ∀ (zs : List V) (its : List Value) (ps : List (Int × Int)), Vals zs its → DpAll X.K H zs (ps.map d2) → (∀ y ∈ its, SeqAt.EqAt X.A.in1 s y (.ref t) (decide (pairAt s.heap y = some (i, j)))) ∧ its.countP (fun y => decide (pairAt s.heap y = some (i, j))) = ps.count (i, j) := by
    intro zs its ps rv
    induction rv generalizing ps with
    | nil =>
      intro hD
      cases ps with
      | nil => exact ⟨(fun _ h => nomatch h), rfl⟩
      | cons a l => cases hD
    | cons r1 rt ih =>
      intro hD
      cases ps with
      | nil => cases hD
      | cons a l =>
        cases hD with | cons h1 h2 =>
        obtain ⟨k1, k2⟩ := ih _ h2
        obtain ⟨b, rfl, hb⟩ := of_d2 h1
        cases r1
        have pa := pairAt_of I hb
        obtain ⟨as, rA⟩ := Dp.reads I (d2 a) (.ref b) (.ref b) h1 rfl
        have e1 : PyData.eqv (d2 a) (d2 (i, j)) = decide (pairAt s.heap (.ref b) = some (i, j)) := by
          rw [eqv_d2, pa]
          by_cases c : a = (i, j)
          · rw [decide_eq_true c, c]
            simp
          · rw [decide_eq_false c, decide_eq_false fun z => c (Option.some.inj z)]
        refine ⟨fun y hy => ?_, ?_⟩
        · rcases List.mem_cons.mp hy with e | e
          · subst e
            have := eqAt_shaped (A := X.A.in1) rA rT (sh a) (sh (i, j)) (by show X.A.units + 1 + 64 < cLine; omega) (fun z => by
              subst z
              have pt := pairAt_of I hT
              rw [pa] at pt
              cases pt
              exact eqv_same (sh _))
            rw [e1] at this
            exact this
          · exact k1 y e
        · rw [List.countP_cons, List.count_cons, k2, pa]
          congr 1
          by_cases c : a = (i, j) <;> simp [c]
  obtain ⟨k1, k2⟩ := key zs its ps rv hD
  refine call_meets PySem.F.slot_list_count ⟨_, ho, rfl⟩ PySem.F.entry_list_count (PySem.F.args_list_count_2 _ _)
    (SeqAt.list_countAt p its.toArray n dd sl (.ref t) (fun y => decide (pairAt s.heap y = some (i, j)))) ⟨ho, fun y hy => k1 y (by simpa using hy), ?_⟩
  refine ⟨.int (ps.count (i, j) : Nat), H, I.tok _, ⟨s.toks, ?_⟩, q⟩
  show Value.int ((its.toArray.toList.countP _ : Nat) : Int) s.toks = Value.int ((ps.count (i, j) : Nat) : Int) s.toks
  rw [show its.toArray.toList = its from rfl, k2]
theorem L_cntP {K : PySem.W.Frag} {H : Hp} {Q : VK} {p t : Addr} {us : List V} {ps : List (Int × Int)} {i j : Int} (h1 : SqL K H p us) (h2 : DpAll K H us (ps.map d2)) (h3 : SqT K H t [.int i, .int j]) (q : Q (.int (ps.count (i, j) : Nat)) H) : rCntP K (.ref p) [.ref t] H Q := ⟨p, t, us, ps, i, j, rfl, rfl, h1, h2, h3, q⟩
end
end Kt

set_option Elab.async false
set_option linter.all false
set_option maxRecDepth 100000
set_option maxHeartbeats 4000000
/-! DtL: dicts with tuple keys: items walked, dict(list of pairs) -/
namespace Kt
open PySem PySem.Spec PyProof.Rows L2
/-- the items of the locked dict at d: each a new pair of the key's own tuple and the value -/
def Itit (d : Addr) (o : Obj) (kvs : List (List L2.Key × V)) : It :=
  ⟨fun i H => H d = some (.frz o (.dT kvs)) ∧ i < kvs.length, fun i H x H' => ∃ (T q : Addr) (k : List L2.Key) (v : V), kvs[i]? = some (k, v) ∧ x = .ref T ∧ H T = none ∧ H q = some (.tup (k.map kV)) ∧ H' = upd H T (.tup [.ref q, v]), fun i H => H d = some (.frz o (.dT kvs)) ∧ kvs.length ≤ i⟩
section
variable {X : Cx} {pins : List (Addr × Obj)} {σ : L2.St} {H : Hp} {s : Shared} {d : Addr} {o : Obj}
theorem frzT2 {kvs : List (List L2.Key × V)} (I : Inv X pins σ H s) (h : H d = some (.frz o (.dT kvs))) :
    (d == sysModules) = false ∧ ∃ (es : Array DictEntry) (ep : Nat), o.data = .dict es ep ∧ DT.Raw s.heap d es ep ∧ es.size = kvs.length ∧
      ∀ (i : Nat) (k : List L2.Key) (v : V), kvs[i]? = some (k, v) → ∃ (en : DictEntry) (q : Addr), es[i]? = some en ∧ en.key = .ref q ∧ RelV v en.val ∧ H q = some (.tup (k.map kV)) := by
  obtain ⟨hd, z, hs, xs, pr, o', es, ep, ho, hx, hdt, he, _⟩ := I.hok d _ h
  rw [hd] at ho
  cases ho
  refine ⟨hs, es, ep, hdt, ⟨o, hd, hx, hdt⟩, ?_, fun i k v e => ?_⟩
  · have l1 : es.size = xs.length := size_of_entries he
    have l2 : kvs.length = xs.length := Paired.length pr
    omega
  · obtain ⟨b, hb, e1, e2, e3⟩ := paired_get pr e
    have q := entry_at he i
    rw [hb] at q
    exact ⟨_, b.2.1, q, rfl, e3, e2⟩
end
section
variable {P : Program} {w : World} {K : PySem.W.Frag} {tg : Expr} {d : Addr} {o : Obj} {es : Array DictEntry} {ep : Nat}
theorem turn_itemsT {kvs : List (List L2.Key × V)} {elts : List Expr} {kk : Nat} {tpos : Pos} (it : Addr) (hod : o.data = .dict es ep) :
    Turn P w K (.Tuple elts kk tpos) (Itit d o kvs) [it] it (fun i h => ∃ ok ov, IsItemIter h it d i kvs.length ep ok ov) where
  mem := by simp
  obj := fun i h st b hb => by
    have e : b = it := by simpa using hb
    subst e
    obtain ⟨ok, ov, e⟩ := st
    exact ⟨_, e, fun v z => nomatch z⟩
  keep := fun i h h' st k => let ⟨ok, ov, e⟩ := st; ⟨ok, ov, k it (by simp) _ e⟩
  item := by
    intro X hP hw hK hc i pins s σ H E I hf st hg
    subst hP hw hK
    obtain ⟨hd, hi⟩ := hg
    obtain ⟨hs, es', ep', hdt, raw, hsz, ent⟩ := frzT2 I hd
    obtain ⟨rfl, rfl⟩ := dict_ep hod hdt
    obtain ⟨⟨k, v⟩, hkv⟩ : ∃ p, kvs[i]? = some p := ⟨kvs[i], List.getElem?_eq_getElem hi⟩
    obtain ⟨en, q, hen, hkey, hval, hq⟩ := ent i k v hkv
    have hi2 : i < es'.size := by omega
    have hen2 : es'[i] = en := by
      rw [Array.getElem?_eq_getElem hi2] at hen
      exact Option.some.inj hen
    obtain ⟨ok, ov, he⟩ := st
    rw [← hsz] at he
    have hlt : it < s.heap.objs.size := Heap.lt_size he
    refine DT.nextI he raw hi2 fun h' ho hT hz hk => ?_
    rw [hen2] at ho hT
    refine ⟨_, rfl, wpAny_letOwnedTupleGo_items (s := { s with heap := h' }) ho fun h'' he' sb => ?_⟩
    have hT2 : h''.get? s.heap.objs.size = some { cls := .type "tuple", data := .seq #[en.key, en.val] } := (sb.2 _ (Nat.ne_of_gt hlt)).trans hT
    have new : ObjOk X.prog X.w (upd H s.heap.objs.size (.tup [.ref q, v])) h'' s.heap.objs.size (.tup [.ref q, v]) :=
      ⟨by show 2 ≤ sizeLine; decide, [en.key, en.val], .cons hkey (.cons hval .nil), ⟨_, hT2, rfl, _, rfl⟩⟩
    have I1 : Inv X pins σ (upd H s.heap.objs.size (.tup [.ref q, v])) { s with heap := h'' } :=
      I.turnedNew (t' := s.toks) (ch := [it]) (fun b ob hb e => (sb.2 b (by simpa using hb)).trans (hk b ob (by simpa using hb) e)) hf (Nat.le_refl _) new
    refine ⟨.ref s.heap.objs.size, _, I1, rfl, ⟨_, q, k, v, hkv, rfl, I.hok.fresh (Nat.le_refl _), hq, rfl⟩, ⟨en.key, en.val, ?_⟩, fun b hb => ?_⟩
    · rw [← hsz]; exact he'
    · have e : b = it := by simpa using hb
      rw [e, upd_ne (Nat.ne_of_lt hlt)]
      exact (hf it (by simp)).1
  done := by
    intro X hP hw hK hc i pins s σ H E I hf st hg
    subst hP hw hK
    obtain ⟨hd, hi⟩ := hg
    obtain ⟨f0, f1, f2, f3, f4, f5⟩ := hf it (by simp)
    obtain ⟨hs, es', ep', hdt, raw, hsz, ent⟩ := frzT2 I hd
    obtain ⟨rfl, rfl⟩ := dict_ep hod hdt
    obtain ⟨ok, ov, he⟩ := st
    rw [← hsz] at he
    exact DT.endI (I.ok.hd hc) he raw (by omega) fun h' eb => ⟨rfl, I.turned (t' := s.toks) (fun b ob hb e => eb b ob hb e) f0 f1 f3 f4 f5⟩
  self := fun A i s Q E st h => let ⟨_, _, e⟩ := st; PySem.W.kcp_self e h
end
def iItemsT (td : TE) : TI := fun σ H R => td σ H fun x H1 => ∃ d o kvs, x = .ref d ∧ H1 d = some (.frz o (.dT kvs)) ∧ R (Itit d o kvs) H1
section
variable {X : Cx} {tg e : Expr} {td : TE} {apos cpos : Pos}
theorem pi_itemsT {elts : List Expr} {kk : Nat} {tpos : Pos} (he : PE X e td) (hbase : attributeBase e "items" X.env (eval e X.env) = eval e X.env := by rfl) (hline : (apos.endLine == cpos.line) = true := by rfl) :
    PI X (.Tuple elts kk tpos) (.Call (.Attribute e "items" apos) [] [] cpos) (iItemsT td) := by
  refine ⟨fun pins s σ H R I h => ?_⟩
  refine wpAny_Call_method (T := "dict") (id := "dict.items") hbase rfl hline F.plainAttrs_dict F.slot_dict_items F.type_dict_items (thn (he.run pins s σ H _ I h) fun u s1 ⟨x, H1, I1, rx, d, o, kvs, ex, hd, q⟩ => ?_)
  subst ex
  obtain rfl : u = Value.ref d := rx
  obtain ⟨hs, es, ep, hdt, raw, hsz, ent⟩ := frzT2 I1 hd
  refine ⟨raw.typeIs, (fun b hb => by cases hb; obtain ⟨o', ho', hx', _⟩ := raw; exact ⟨o', ho', hx'.2.1⟩), ?_⟩
  have I2 : Inv X pins σ H1 { s1 with heap := s1.heap.push { cls := .type "dict_items", data := .fields #[.ref d] } } := I1.kept (t' := s1.toks) fun b ob q => Heap.get?_push_of_some _ q
  have fin : wpAny (model X.prog X.w) X.A (pyIter (.ref s1.heap.objs.size)) (PIE X pins σ (.Tuple elts kk tpos) R) X.xe { s1 with heap := s1.heap.push { cls := .type "dict_items", data := .fields #[.ref d] } } := by
    refine DT.iterI (d := d) ⟨_, Heap.get?_push_size _ rfl, rfl, rfl⟩ (raw.push _) (pi_one (tk := s1.toks) I2 _ (turn_itemsT _ hdt) ⟨.none, .none, ?_⟩ q)
    rw [← hsz]
    exact Heap.get?_push_size _ rfl
  show wpAny _ _ (callWith cpos (.builtin "dict.items") [.ref d] [] []) _ X.xe s1
  exact method_meetsIn F.slot_dict_items F.entry_dict_items rfl (PySem.evalArgs_none ⟨rfl, raw.typeIs, F.args_dict_items_1 _, _, DT.meetsItems hs, ⟨raw, fin⟩⟩)
end
theorem walk_itemsT {d : Addr} {o : Obj} {kvs : List (List L2.Key × V)} : Walk (Itit d o kvs) kvs.length (fun H => H d = some (.frz o (.dT kvs)))
    (fun i H x H' => ∃ (T q : Addr) (k : List L2.Key) (v : V), kvs[i]? = some (k, v) ∧ x = .ref T ∧ H T = none ∧ H q = some (.tup (k.map kV)) ∧ H' = upd H T (.tup [.ref q, v])) :=
  ⟨fun _ _ hi q => ⟨q, hi⟩, fun _ q => ⟨q, Nat.le_refl _⟩, fun _ _ _ _ _ _ y => y⟩
theorem L_iItemsT {td : TE} {σ : L2.St} {H : Hp} {R : It → Hp → Prop} (h : td σ H fun x H1 => ∃ d o kvs, x = .ref d ∧ H1 d = some (.frz o (.dT kvs)) ∧ R (Itit d o kvs) H1) : iItemsT td σ H R := h
/-! ### dict(list of pairs), keys tuples -/
def allK (kvs : List (List L2.Key × V)) : List (List L2.Key × V) := kvs.foldl (fun acc p => putK acc p.1 p.2) []
def PairK (H : Hp) (u : V) (p : List L2.Key × V) : Prop := ∃ T q, u = .ref T ∧ H T = some (.tup [.ref q, p.2]) ∧ H q = some (.tup (p.1.map kV))
def rDictT : List V → Hp → VK → Prop := fun xs H Q => ∃ (a : Addr) (us : List V) (kvs : List (List L2.Key × V)), xs = [.ref a] ∧ H a = some (.lst us) ∧ Paired (PairK H) us kvs ∧ ∀ d, H d = none → Q (.ref d) (upd H d (.dT (allK kvs)))
theorem kt_all {H : Hp} : ∀ (kvs : List (List L2.Key × V)) (ps : List (List L2.Key × Addr × Value)) (acc : List (List L2.Key × V)) (xs : List (List L2.Key × Addr × Value)), KT H kvs ps → KT H acc xs → KT H (kvs.foldl (fun acc p => putK acc p.1 p.2) acc) (storedAllH xs ps)
  | _, _, acc, xs, .nil, h => h
  | _, _, acc, xs, .cons (a := p) (b := b) h1 t, h => by
    unfold storedAllH
    rw [List.foldl_cons, List.foldl_cons]
    have e : b.1 = p.1 := h1.1.symm
    have h2 := h.put p.1 (b := b.2.1) h1.2.1 h1.2.2
    rw [← e] at h2
    rw [← e]
    exact kt_all _ _ _ _ t h2
theorem putT_len {kvs : List (List L2.Key × V)} {k : List L2.Key} {v : V} : (putK kvs k v).length ≤ kvs.length + 1 := by
  unfold putK
  split
  · rw [List.length_map]
    omega
  · rw [List.length_append]
    exact Nat.le_refl _
theorem allK_len : ∀ (kvs acc : List (List L2.Key × V)), (kvs.foldl (fun acc p => putK acc p.1 p.2) acc).length ≤ acc.length + kvs.length
  | [], acc => Nat.le_refl _
  | p :: kvs, acc => by
    have h1 := allK_len kvs (putK acc p.1 p.2)
    have h2 := putT_len (kvs := acc) (k := p.1) (v := p.2)
    rw [List.foldl_cons, List.length_cons]
    omega
def adr : V → Addr
  | .ref T => T
  | _ => 0
theorem call_dictT {X : Cx} (calm : X.calm = true) (hu : X.A.units + 65 < cLine) : CallR X (.type "dict") rDictT := by
  intro pins s σ H xs us Q I r h
  obtain ⟨a, zs, kvs, rfl, ha, hp, q⟩ := h
  rw [Vals.ref1 r]
  obtain ⟨hl, its, n, rv, ho⟩ := (show ObjOk X.prog X.w H s.heap a (.lst zs) from I.hok a _ ha)
  -- the keys and the values as they stand
  have key : ∀ {zs : List V} {its : List Value} {kvs : List (List L2.Key × V)}, Vals zs its → Paired (PairK H) zs kvs → ∃ ps : List (List L2.Key × Addr × Value), KT H kvs ps ∧ its.length = ps.length ∧ ∀ (j : Nat) (k : List L2.Key) (b : Addr) (v : Value), ps[j]? = some (k, b, v) → ∃ T : Addr, zs[j]? = some (V.ref T) ∧ its[j]? = some (Value.ref T) ∧ IsTup s.heap T #[.ref b, v] := by
    intro zs its kvs rv hp
    induction hp generalizing its with
    | nil =>
      cases rv
      exact ⟨[], .nil, rfl, fun j k b v z => by simp at z⟩
    | @cons u p zs kvs h1 t ih =>
      cases rv with | @cons _ v0 _ its r1 r2 =>
      obtain ⟨ps, k1, k2, k3⟩ := ih r2
      obtain ⟨T, q0, rfl, e1, e2⟩ := h1
      cases (show v0 = Value.ref T from r1)
      obtain ⟨_, it2, rv2, o2, g1, g2, g3⟩ := (show ObjOk X.prog X.w H s.heap T (.tup [.ref q0, p.2]) from I.hok T _ e1)
      cases rv2 with | @cons _ w1 _ _ r3 r4 =>
      cases r4 with | @cons _ w2 _ _ r5 r6 =>
      cases r6
      cases (show w1 = Value.ref q0 from r3)
      refine ⟨(p.1, q0, w2) :: ps, .cons ⟨rfl, e2, r5⟩ k1, by rw [List.length_cons, List.length_cons, k2], fun j k b v z => ?_⟩
      cases j with
      | zero =>
        simp only [List.getElem?_cons_zero, Option.some.injEq, Prod.mk.injEq] at z
        obtain ⟨rfl, rfl, rfl⟩ := z
        exact ⟨T, rfl, rfl, o2, g1, g2, g3⟩
      | succ j =>
        simp only [List.getElem?_cons_succ] at z ⊢
        exact k3 j k b v z
  obtain ⟨ps, k1, k2, k3⟩ := key rv hp
  have lk : kvs.length = ps.length := Paired.length k1
  have lz : zs.length = kvs.length := Paired.length hp
  have lps : ps.length ≤ sizeLine := by omega
  refine call_dict_pairsH (knd := tupleKind (mixKind X.prog X.w)) (ps := ps) (PairArg.list a its.toArray (fun j => adr (zs[j]?.getD .non)) (ps.map fun p => (Value.ref p.2.1, p.2.2))) (I.ok.hd calm) (show X.A.units + 1 + 1 < cLine by omega) ⟨⟨_, n, ho, rfl, rfl, rfl⟩, by simp [k2], fun j k v hj => ?_⟩ ⟨(List.length_map _).symm, fun i key v hi => ?_⟩ (fun h' hk x hx => ?_) (by rw [List.length_map]; exact lps) fun h' tk hd hk => ?_
  · rw [List.getElem?_map] at hj
    obtain ⟨p, hp1, hp2⟩ := Option.map_eq_some_iff.mp hj
    cases hp2
    obtain ⟨T, z1, z2, z3⟩ := k3 j p.1 p.2.1 p.2.2 hp1
    have za : adr (zs[j]?.getD .non) = T := by rw [z1]; rfl
    show its.toArray[j]? = some (Value.ref (adr (zs[j]?.getD .non))) ∧ PairAt s.heap (adr (zs[j]?.getD .non)) _ _
    rw [za]
    exact ⟨by simpa using z2, .inl z3⟩
  · rw [PairRel, List.getElem?_map] at hi
    obtain ⟨p, hp1, hp2⟩ := Option.map_eq_some_iff.mp hi
    cases hp2
    exact ⟨p.1, p.2.1, hp1, rfl⟩
  · have all : ∀ {l : List (List L2.Key × V)} {m : List (List L2.Key × Addr × Value)}, KT H l m → ∀ x ∈ m, H x.2.1 = some (.tup (x.1.map kV)) := by
      intro l m q
      induction q with
      | nil => intro x hx; exact nomatch hx
      | @cons p q ps qs hq t ih =>
        intro x hx
        rcases List.mem_cons.mp hx with e | hx
        · subst e
          rw [← hq.1]
          exact hq.2.1
        · exact ih x hx
    have e := all k1 x hx
    obtain ⟨o, it, m, g1, g2, g3, g4⟩ := (show IsTupleKey (mixKind X.prog X.w) s.heap x.1 x.2.1 from key_of I.hok e)
    exact ⟨o, it, m, hk _ _ (fun z => by rw [z] at g1; exact absurd (Heap.lt_size g1) (Nat.lt_irrefl _)) (by simp) g1, g2, g3, g4⟩
  · have hn : H s.heap.objs.size = none := I.hok.fresh (Nat.le_refl _)
    have h1 := kt_all kvs ps [] [] k1 .nil
    have l1 := allK_len kvs []
    have hsys : (s.heap.objs.size == sysModules) = false := by
      have := I.big
      simpa using Nat.ne_of_gt this
    have h2 : KT (upd H s.heap.objs.size (.dT (allK kvs))) (allK kvs) (storedAllH [] ps) := KT.keeps h1 fun b ys e => by rw [upd_ne (ne_of_none e hn)]; exact e
    obtain ⟨o, es, ep, z1, z2, z3, z4, _, z5⟩ := hd
    exact ⟨.ref _, _, I.laid (o := .dT (allK kvs)) (t' := tk) (fun b u e => hk b u (by simp) e) (Nat.le_refl _) ⟨by
      show (allK kvs).length ≤ sizeLine
      unfold allK
      rw [List.length_nil] at l1
      omega, hsys, _, h2, o, es, ep, z1, z2, z3, z4, z5⟩, rfl, q _ hn⟩
/-! ### {(..): v, ..}: keys tuples -/
theorem dict_pairsHA {prog : Program} {w : World} {K : Type} [DecidableEq K] {knd : HeapKind prog w K} {A : Around} {E : Value → Shared → Prop} {s : Shared} {env : Env} {keys : List (Option Expr)} {values : List Expr} {pos : Pos} {pairs : List (Sem Value × Sem Value)} {Q : Value → Shared → Prop} (hu : knd.room A)
    (hshape : (evalEachOpt keys env).zip ((evalEach values env).map fun v => do let x ← v; standAt pos; pure x) = pairs.map fun p => (some p.1, p.2)) (h0 : pairs ≠ []) (hlen : pairs.length ≤ 15)
    (h : wpAny (model prog w) A (evalPairs pairs) (fun vs s₁ => ∃ ps, CarriesH knd s₁.heap vs ps ∧ s₁.heap.DictOfH knd s.heap.objs.size [] ∧
      ∀ h' tk, h'.DictOfH knd s.heap.objs.size (storedAllH [] ps) → Heap.SameBut s.heap.objs.size s₁.heap h' → Q (.ref s.heap.objs.size) { s₁ with heap := h', toks := tk }) E
      { s with heap := s.heap.push { cls := .type "dict", data := .dict #[] } }) :
    wpAny (model prog w) A (eval (.Dict keys values pos) env) Q E s := by
  rw [arm_eval_Dict, hshape, dictDisplay_pairs pairs h0 (by omega)]
  exact wpAny_bind (wpAny_standAt (wpAny_bind (wpAny_subDictH (knd := knd) (Q := fun d s' => wpAny (model prog w) A (pure (Value.ref d)) Q E s') hu hlen
    (wpAny_mono h (fun vs s₁ h₁ => by obtain ⟨ps, hc, hm, hq⟩ := h₁; exact ⟨ps, hc, hm, fun h' tk a b => wpAny_pure (hq h' tk a b)⟩) fun _ _ e => e))))
def tDispT (trs : List (TE × TE)) : TE := fun σ H Q => ∀ p, H p = none → tPairs trs σ (upd H p (.dT [])) fun ps H2 => H2 p = some (.dT []) ∧ ∃ kvs : List (List L2.Key × V), Paired (fun (q : V × V) (kv : List L2.Key × V) => ∃ b, q = (.ref b, kv.2) ∧ H2 b = some (.tup (kv.1.map kV))) ps kvs ∧ kvs.length ≤ 15 ∧ Q (.ref p) (upd H2 p (.dT (allK kvs)))
theorem carriesT {X : Cx} {pins : List (Addr × Obj)} {σ : L2.St} {H : Hp} {s : Shared} (I : Inv X pins σ H s) : ∀ {ps : List (V × V)} {kvs : List (List L2.Key × V)} {ws : List (Value × Value)}, VV ps ws → Paired (fun (q : V × V) (kv : List L2.Key × V) => ∃ b, q = (.ref b, kv.2) ∧ H b = some (.tup (kv.1.map kV))) ps kvs → ∃ rs, CarriesH (tupleKind (mixKind X.prog X.w)) s.heap ws rs ∧ KT H kvs rs
  | _, _, _, .nil, .nil => ⟨[], True.intro, .nil⟩
  | _, _, _, .cons (a := a) (b := b) r1 r2, .cons (b := kv) ⟨q, e, hq⟩ t => by
    obtain ⟨rs, c, k⟩ := carriesT I r2 t
    subst e
    obtain ⟨b1, b2⟩ := b
    obtain ⟨z1, z2⟩ := r1
    cases (show b1 = Value.ref q from z1)
    exact ⟨(kv.1, q, b2) :: rs, ⟨rfl, rfl, key_of I.hok hq, c⟩, .cons ⟨rfl, hq, z2⟩ k⟩
theorem pe_dispT {X : Cx} {pos : Pos} {keys : List (Option Expr)} {values : List Expr} {trs : List (TE × TE)} (hu : X.A.units + 1 < cLine) (h : PPs X pos keys values trs) (hall : keys.all (·.isSome) = true) (hl : keys.length = values.length) (h0 : keys ≠ [])
    (h15 : keys.length ≤ 15) : PE X (.Dict keys values pos) (tDispT trs) := by
  refine ⟨fun pins s σ H Q I q => ?_⟩
  have hn := I.hok.fresh (Nat.le_refl s.heap.objs.size)
  have I1 := I.laid (a := s.heap.objs.size) (o := .dT []) (h' := s.heap.push { cls := .type "dict", data := .dict #[] }) (t' := s.toks) (fun _ _ q => Heap.get?_push_of_some _ q) (Nat.le_refl _) (dt_empty s.heap I.big)
  have pl := pairTrees_length keys values X.env pos hall hl
  refine dict_pairsHA (knd := tupleKind (mixKind X.prog X.w)) (pairs := pairTrees keys values X.env pos) (show X.A.units < cLine by omega) (zip_pairTrees keys values X.env pos hall hl) (fun he => by
    rw [he] at pl
    exact h0 (List.length_eq_zero_iff.mp pl.symm)) (by rw [pl]; exact h15) (thn (h.run pins _ σ _ _ I1 (q _ hn)) fun ws s2 ⟨ps, H2, I2, rel, e, kvs, hp, lk, q2⟩ => ?_)
  obtain ⟨rs, c, rk⟩ := carriesT I2 rel hp
  obtain ⟨z, hd, vs0, r0, dd⟩ := dt_of I2.hok e
  cases r0
  refine ⟨rs, c, dd, fun h' tk dd' hs => ⟨.ref s.heap.objs.size, _, ?_, rfl, q2⟩⟩
  have hz := allK_len kvs []
  have he : ∃ q, h'.get? s.heap.objs.size = some q := let ⟨q, _, _, hq, _⟩ := dd'; ⟨q, hq⟩
  have h1 := kt_all kvs rs [] [] rk .nil
  obtain ⟨o, es, ep, z1, z2, z3, z4, _, z5⟩ := dd'
  exact d_write I2 (by rw [e]; exact True.intro) hs he (ob := .dT (allK kvs)) ⟨by
    show (allK kvs).length ≤ sizeLine
    unfold allK
    rw [sizeLine_eq]
    rw [List.length_nil] at hz
    omega, hd, _, KT.keeps h1 fun b ys eb => by rw [upd_ne (fun z => by rw [z, e] at eb; cases eb)]; exact eb, o, es, ep, z1, z2, z3, z4, z5⟩
/-! ### short words -/
section
variable {σ : L2.St} {H : Hp} {Q : VK} {td ty tx tv : TE} {a b : Addr} {kvs : List (List L2.Key × V)} {k : List L2.Key} {v : V} {y : V}
theorem L_isdT {R : Addr → Prop} (h : H a = some (.dT kvs)) (q : R a) : ∃ a', V.ref a = .ref a' ∧ IsD H a' ∧ R a' := ⟨a, rfl, .inr ⟨kvs, .inl h⟩, q⟩
theorem L_dgT {R : Option V → Prop} (h : H a = some (.dT kvs)) (hb : H b = some (.tup (k.map kV))) (q : R (valV kvs k)) : ∃ o, DGet H a (.ref b) o ∧ R o := ⟨_, DGet.t h hb, q⟩
theorem L_isdK {R : Addr → Prop} {kvs : List (L2.Key × V)} (h : H a = some (.dK kvs)) (q : R a) : ∃ a', V.ref a = .ref a' ∧ IsD H a' ∧ R a' := ⟨a, rfl, .inl ⟨kvs, .inl h⟩, q⟩
theorem L_dgK {R : Option V → Prop} {kvs : List (L2.Key × V)} {k : L2.Key} (e : y = kV k) (h : H a = some (.dK kvs)) (q : R (valV kvs k)) : ∃ o, DGet H a y o ∧ R o := ⟨_, by rw [e]; exact DGet.k h, q⟩
theorem L_dputT {R : Hp → Prop} (h : H a = some (.dT kvs)) (hb : H b = some (.tup (k.map kV))) (hl : kvs.length < 1000000) (q : R (upd H a (.dT (putK kvs k v)))) : ∃ a' H4, V.ref a = .ref a' ∧ DPut H a' (.ref b) v H4 ∧ R H4 := ⟨a, _, rfl, DPut.t h hb (sz_lt hl), q⟩
theorem L_dictT {us : List V} (h : H a = some (.lst us)) (hp : Paired (PairK H) us kvs) (q : ∀ d, H d = none → Q (.ref d) (upd H d (.dT (allK kvs)))) : rDictT [.ref a] H Q := ⟨a, us, kvs, rfl, h, hp, q⟩
end
theorem L_dispT1 {σ : L2.St} {H : Hp} {Q : VK} {tk tv : TE} (h : ∀ p, H p = none → tk σ (upd H p (.dT [])) fun x H1 => tv σ H1 fun y H2 => H2 p = some (.dT []) ∧ ∃ kvs : List (List L2.Key × V), Paired (fun (q : V × V) (kv : List L2.Key × V) => ∃ b, q = (.ref b, kv.2) ∧ H2 b = some (.tup (kv.1.map kV))) [(x, y)] kvs ∧ kvs.length ≤ 15 ∧ Q (.ref p) (upd H2 p (.dT (allK kvs)))) : tDispT [(tk, tv)] σ H Q := h
theorem allK_nd {kvs : List (List L2.Key × V)} (h : (kvs.map (·.1)).Nodup) : allK kvs = kvs := by
  have key : ∀ (kvs acc : List (List L2.Key × V)), ((acc ++ kvs).map (·.1)).Nodup → kvs.foldl (fun acc p => putK acc p.1 p.2) acc = acc ++ kvs := by
    intro kvs
    induction kvs with
    | nil => intro acc _; rw [List.append_nil]; rfl
    | cons p kvs ih =>
      intro acc n
      rw [List.foldl_cons]
      have e : putK acc p.1 p.2 = acc ++ [p] := by
        unfold putK
        rw [if_neg]
        intro z
        rw [List.any_eq_true] at z
        obtain ⟨q, hq, e⟩ := z
        rw [List.map_append, List.map_cons, List.nodup_append] at n
        exact n.2.2 q.1 (List.mem_map_of_mem hq) p.1 List.mem_cons_self (of_decide_eq_true e)
      rw [e, ih (acc ++ [p]) (by rw [List.append_assoc]; exact n), List.append_assoc]
      rfl
  exact key kvs [] h
theorem PairK.same {H H' : Hp} {u : V} {p : List L2.Key × V} (h : PairK H u p) (s : Same H H') : PairK H' u p := by
  obtain ⟨T, q, e, h1, h2⟩ := h
  exact ⟨T, q, e, s _ _ h1, s _ _ h2⟩
theorem PairK.mu {H : Hp} {u : V} {p : List L2.Key × V} {D : Addr} {us : List V} {o : HO} (h : PairK H u p) (e : H D = some (.lst us)) : PairK (upd H D o) u p := by
  obtain ⟨T, q, e1, h1, h2⟩ := h
  exact ⟨T, q, e1, by rw [upd_ne fun z => by rw [z, e] at h1; cases h1]; exact h1, by rw [upd_ne fun z => by rw [z, e] at h2; cases h2]; exact h2⟩
theorem L_disp2 {σ : L2.St} {H : Hp} {Q : VK} {ta tb tc td : TE} (h : ∀ p, H p = none → ta σ (upd H p (.dK [])) fun k H1 => tb σ H1 fun v H2 => tc σ H2 fun k2 H3 => td σ H3 fun v2 H4 => H4 p = some (.dK []) ∧ ∃ kvs : List (L2.Key × V), [(k, v), (k2, v2)] = kvs.map (fun kv => (kV kv.1, kv.2)) ∧ kvs.length ≤ 15 ∧ Q (.ref p) (upd H4 p (.dK (mergeK [] kvs)))) : tDisp [(ta, tb), (tc, td)] σ H Q := h
end Kt

set_option Elab.async false
set_option linter.all false
set_option maxRecDepth 100000
set_option maxHeartbeats 4000000
/-! Hotx: methods that raise exceptions without a context; one with its own __init__ raised from None in an except suite -/
namespace Kt
open PySem PySem.Spec PyProof.Rows L2
structure MetN (P : Program) (w : World) (K : PySem.W.Frag) (mg : Str → Option Value) (base : Heap) (k : Nat) (C : Addr) (m : Str) (sp : Sp) : Prop where
  ex : ∃ (f : Addr) (fd : FuncData) (ps : List Str), Cls K C ∧ Meth K C m f ∧ FnOk P w K mg base (L2N.CX P w) k f fd ps sp ∧ Binds K fd ps []
structure XMakH (P : Program) (w : World) (K : PySem.W.Frag) (mg : Str → Option Value) (base : Heap) (k : Nat) (x : Str) (C : Addr) (sp : Sp) : Prop where
  ex : ∃ (f : Addr) (fd : FuncData) (ps : List Str), L2H.FnH P w K mg base CX0 k f fd ps sp ∧ PySem.W.findIn K (.ref C) "__init__" = some (some (.ref f)) ∧ PySem.W.typeIn K (.ref f) = some (.type "function") ∧ mg x = some (.ref C) ∧ Binds K fd ps []
section
variable {P : Program} {w : World} {K : PySem.W.Frag} {mg : Str → Option Value} {base : Heap}
theorem MethAt.metN {C : Addr} {m qual : Str} {st : Stmt} {N ps : List Str} {k : Nat} {sp : Sp} (c : Cls K C) (d : MethAt K C m qual st ps) (S : FnScope N ps (defScope st)) (len : ∀ vs H Q E, sp vs H Q E → vs.length = ps.length)
    (hbody : ∀ (f : Addr) (cdv : Value) (A : Around) (outer : List Env) (s : Shared) (H : Hp) (vs : List V) (Q : VK) (E : XK), Room k (A.deeper (envOfC qual (defScope st) s.heap.objs.size f cdv)) → sp vs H Q E →
      ∃ t, PSs (cxOf (L2N.CX P w) P w K mg base N qual (defScope st) f cdv A outer s H E) (defBody st) t ∧ t { nx := fun _ H' => Q .non H', rt := Q } (start N vs) H) : MetN P w K mg base (k + 1) C m sp := by
  obtain ⟨f, fd, F, hm, b⟩ := d.ex
  refine ⟨f, fd, ps, c, hm, ?_, b⟩
  obtain ⟨oc, od, kV, dc, pm, an, cv, ct, sl, rfl, at_, code⟩ := F.ex
  exact fn_of at_ code S len (hbody f cv)
theorem XIniAt.xmakH {x : Str} {C : Addr} {qual : Str} {st : Stmt} {N ps : List Str} {k : Nat} {sp : Sp} (hx : mg x = some (.ref C)) (d : XIniAt K C qual st ps) (S : FnScope N ps (defScope st)) (len : ∀ vs H Q E, sp vs H Q E → vs.length = ps.length)
    (hbody : ∀ (f : Addr) (cdv : Value) (A : Around) (outer : List Env) (s : Shared) (H : Hp) (vs : List V) (Q : VK) (E : XK) (p : Addr × Obj), L2H.RoomH k (A.deeper (envOfC qual (defScope st) s.heap.objs.size f cdv)) → sp vs H Q E →
      ∃ t, PSs (L2H.cxH CX0 P w K mg base N qual (defScope st) f cdv A outer s H E p) (defBody st) t ∧ t { nx := fun _ H' => Q .non H', rt := Q } (start N vs) H) : XMakH P w K mg base (k + 1) x C sp := by
  obtain ⟨f, fd, F, h1, h2, b⟩ := d.ex
  refine ⟨f, fd, ps, ?_, h1, beq_iff_eq.mp h2, hx, b⟩
  obtain ⟨oc, od, kV, dc, pm, an, cv, ct, sl, rfl, at_, code⟩ := F.ex
  exact L2H.fn_ofH at_ code S len fun A outer s H vs Q E p _ hr h => hbody f cv A outer s H vs Q E p hr h
theorem cxH_K {N : List Str} {qual : Str} {scope : Scope} {f : Addr} {cd : Value} {A : Around} {outer : List Env} {s : Shared} {H : Hp} {E : XK} {p : Addr × Obj} : (L2H.cxH CX0 P w K mg base N qual scope f cd A outer s H E p).K = K := rfl
end
section
variable {X : Cx} {k j : Nat} {C : Addr} {x m : Str} {sp : Sp} {p pos apos : Pos} {e o : Expr} {es : List Expr} {ta : TE} {t : TA} {E : L2.St → XK}
theorem passNN {X : Cx} (σ : L2.St) : PassesAt (L2N.CX X.prog X.w) X σ ((fun _ => E0) σ) := fun _ _ _ _ _ _ c => by
  obtain ⟨_, _, _, _, _, _, _, _, _, _, _, _, z⟩ := c
  exact z.elim
theorem pe_nMt {pl : Sem Bool} (c : MetN X.prog X.w X.K X.mg X.base k C m sp) (hr : Room j X.A) (hk : k ≤ j) (hx : ∀ σ, PassesAt (L2N.CX X.prog X.w) X σ (E σ)) (he : PE X o ta) (ha : PA X (e :: es) t)
    (hst : starEach (e :: es) X.env = (false, eval e X.env) :: starEach es X.env := by rfl) (hpl : (backTo pos (starEach es X.env)).any (·.1) = false := by rfl)
    (ht : eval (.Call (.Attribute o m apos) (e :: es) [] pos) X.env = (do
      let ov ← eval o X.env
      standAt apos.atName
      let (f, first) ← holding [ov] (getMethod ov m pl)
      callWith pos f first (backTo pos (starEach (e :: es) X.env)) (backToKw pos (keywordEach [] X.env))) := by rfl) :
    PE X (.Call (.Attribute o m apos) (e :: es) [] pos) (tMethE C m sp E ta t) := by
  obtain ⟨f, fd, ps, hc, hm, F, hb⟩ := c.ex
  constructor
  intro pins s σ H Q I h
  refine PySem.W.methodCall_KW (pl := pl) (thn (he.run pins s σ H _ I h) ?_) ht
  rintro u s1 ⟨_, H1, I1, ru, a, dx, fs, rfl, ea, l, q⟩
  obtain rfl : u = Value.ref a := ru
  refine getmeth_ok I1 ea hc hm l ?_
  refine PySem.W.callWith_K (first := [.ref a]) (h₀ := X.base) I.ok.mod.kin hm.kp (thn (ha.run pos pins s1 σ H1 _ I1 q) ?_) hst hpl
  rintro us s2 ⟨vs, H2, I2, r, q2⟩
  exact ⟨I2.kIn, run_fnS (us := .ref a :: us) (vs := .ref a :: vs) F (hr.mono hk) hb (hx σ) I2 (.cons rfl r) q2⟩
end
section
variable {X : Cx} {k j : Nat} {C : Addr} {x : Str} {sp : Sp} {p pos : Pos} {e : Expr} {es : List Expr} {ta : TA}
/-- such an exception made where none is handled: it bears no context -/
theorem pmkN_x (c : XMak X.prog X.w X.K X.mg X.base k x C sp) (T : OexC X.K C) (hr : Room j X.A) (hk : k + 1 ≤ j) (hg : Gl X x) (ha : PA X (e :: es) ta)
    (hdb : (x == ("__debug__" : Str)) = false := by decide) (he : starEach (e :: es) X.env = (false, eval e X.env) :: starEach es X.env := by rfl) (hpl : (backTo pos (starEach es X.env)).any (·.1) = false := by rfl) :
    L2N.PMk X (.Call (.Name x p) (e :: es) [] pos) (tMkO C sp [] ta) := by
  obtain ⟨fi, fd, ps, F, find, ty, named, binds⟩ := c.ex
  intro pins s σ H Q I h
  obtain ⟨_, _, _, _, refs, _, _, _, _, _, _, _, _, _, _, clsAt, refsOk⟩ := T.cls
  refine wpAny_Call_Name_kw (ld_glob I hg named ?_ hdb)
  refine PySem.W.callWith_K (h₀ := X.base) I.ok.mod.kin T.kC (thn (ha.run pos pins s σ H _ I h) ?_) he hpl
  rintro us ⟨hp, gs, dr, tk, os⟩ ⟨vs, H1, I1, rv, few, asked⟩
  refine ⟨I1.kIn, ?_⟩
  show wpAny _ _ (call (.ref C) us) _ _ _
  have past : hp.objs.size ≤ hp.objs.size + 1 := Nat.le_succ _
  have asked := asked (hp.objs.size + 1) (I1.hok.fresh past)
  rw [List.append_nil] at asked
  have stays : ∀ b o, hp.get? b = some o → ((hp.push (PySem.W.kdv_tup us)).push (PySem.HandSPX.excO C hp.objs.size)).get? b = some o :=
    fun b o e => Heap.get?_push_of_some _ (Heap.get?_push_of_some _ e)
  have there : ((hp.push (PySem.W.kdv_tup us)).push (PySem.HandSPX.excO C hp.objs.size)).get? (hp.objs.size + 1) = some (PySem.HandSPX.excO C hp.objs.size) := by
    heap_get
  have J := I1.laid (t' := tk) (o := exo (hp.objs.size + 1) C none) stays past (exo_ok there)
  have args : Vals (V.ref (hp.objs.size + 1) :: vs) (Value.ref (hp.objs.size + 1) :: us) := .cons rfl rv
  have many : (Value.ref (hp.objs.size + 1) :: us).length = ps.length := args.length.symm.trans (F.len _ _ _ _ asked)
  have bound := binds _ (Value.ref (hp.objs.size + 1) :: us) J.kIn (by rw [List.append_nil]; exact many)
  rw [List.append_nil] at bound
  have fits : us.length ≤ sizeLine := by
    have := Paired.length rv
    have := sizeLine_eq
    omega
  have room : Room (k + 1) X.A := hr.mono hk
  refine wpAny_call (PySem.HandSPX.call_own PySem.F.excBase_ValueError (fun Y => PySem.HandSPX.refsVE_contains Y refs refsOk) (I1.kIn _ _ clsAt) (PySem.W.looks_findIn I1.kIn find) (fun self => PySem.W.bind_fn I1.kIn self ty) fits ?_)
  refine codeAny_mono (F.run _ X.stack _ _ ⟨Value.ref (hp.objs.size + 1) :: us, []⟩ _ _ _ (fun _ _ _ => False) (room.make C us []) (J.env0.make C us []) bound args asked) fun out s' ho => ?_
  match out, ho with
  | .error _, ho => exact ho.elim
  | .ok .next, ho => exact ho.elim
  | .ok .brk, ho => exact ho.elim
  | .ok .cont, ho => exact ho.elim
  | .ok (.ret u), ho =>
    obtain ⟨v, H2, os2, bare2, un2, hok2, ru, hv, d, fs, ea, ed, free, q⟩ := ho
    subst hv
    obtain ⟨h2, g2, d2, t2, os'⟩ := s'
    obtain ⟨t0, G, J2, sub, gone, obj, na⟩ := mk_end0 (d2 := d2) (t2 := t2) I1 past stays un2 hok2 os2 bare2 ea ed free
    exact ⟨ru, hp.objs.size + 1, _, _, ⟨G, g2, d2, t2, os'⟩, _, .ref C, some d, rfl, J2, sub, gone, obj, ⟨rfl, rfl, fun vs e => by cases e; rfl⟩, rfl, rfl, na, rfl, bare2, raises_own T.exC T.tyC, q⟩
/-- in an except suite -/
theorem pmk5_x (c : XMakH X.prog X.w X.K X.mg X.base k x C sp) (T : OexC X.K C) (hr : L2H.RoomH j X.A) (hk : k + 1 ≤ j) (hot : L2H.HotC X) (hg : Gl X x) (ha : PA X (e :: es) ta)
    (hdb : (x == ("__debug__" : Str)) = false := by decide) (he : starEach (e :: es) X.env = (false, eval e X.env) :: starEach es X.env := by rfl) (hpl : (backTo pos (starEach es X.env)).any (·.1) = false := by rfl) :
    L2H.PMk5 X (.Call (.Name x p) (e :: es) [] pos) (tMkO C sp [] ta) := by
  obtain ⟨fi, fd, ps, F, find, ty, named, binds⟩ := c.ex
  exact L2H.pmk5_oexH T find ty F (hr.mono hk) hot binds pass0 hg named ha hdb he hpl
end
end Kt

set_option Elab.async false
set_option linter.all false
set_option maxRecDepth 100000
set_option maxHeartbeats 4000000
/-! RevL: list(reversed(a list of ints or of whatever)) -/
namespace Kt
open PySem PySem.Spec PyProof.Rows L2
section
variable {prog : Program} {w : World} {A : Around} {E : Value → Shared → Prop} {s : Shared}
/-- the list at S takes what a reversed list still holds -/
theorem ext_rev {R : Result → Shared → Prop} {it l S : Addr} {its : Array Value} {c0 : Nat} {res : Value} (quiet : A.handled = none) (hi : s.heap.IsRevIter it l ((its.size : Int) - 1)) (hL : s.heap.IsList l its) (n1 : l ≠ it) (n2 : S ≠ it) (n3 : S ≠ l) (few : its.size ≤ sizeLine)
    (hS : s.heap.get? S = some { cls := .type "list", data := .seq #[] c0 })
    (q : ∀ g tk got c1, (∀ b o, b ≠ S → b ≠ it → s.heap.get? b = some o → g.get? b = some o) → g.get? S = some { cls := .type "list", dict := none, data := .seq got c1, slots := #[] } → ItemsOf (fun i v => its[its.size - 1 - i]? = some v) got its.size → R (.ok (.ret res)) { s with heap := g, toks := tk }) :
    wpAny (model prog w) A.in1 (Builtin.List.listExtendWith (.ref S) (.ref it) res) (fun fin s' => match fin with | .done f => R (.ok f) s' | .again c' => c'.quiet = true ∧ codeAny (model prog w) A c' R s') (fun e s' => R (.error e) s') s := by
  have walks := (Walks.listRev (prog := prog) (w := w) (A := A.in1) quiet it l n1 its).toS
  have off : S ∉ [it, l] := by
    simp only [List.mem_cons, List.not_mem_nil, or_false, not_or]
    exact ⟨n2, n3⟩
  have kind : s.TypeIs (.ref it) "list_reverseiterator" := hi.typeIs
  have other : Builtin.List.listSameRef (.ref S) (.ref it) = false := by simp [Builtin.List.listSameRef, n2]
  unfold Builtin.List.listExtendWith
  apply wpAny_bind
  apply wpAny_typeOf kind
  rw [if_neg (by rw [other]; decide)]
  apply wpAny_bind
  apply wpAny_pyIter_revIter hi
  apply wpAny_bind
  apply wpAny_holding
  unfold Builtin.List.listLengthHint
  apply wpAny_bind
  apply wpAny_specialOf kind RT.nolen_lri
  show wpAny _ A.in1 (specialOf (.ref it) "__length_hint__" >>= _) _ _ _
  apply wpAny_bind
  apply wpAny_specialOf kind RT.hint_lri
  generalize nm : ("list_reverseiterator.__length_hint__" : String) = idn
  wp_delta
  rw [show splitId idn = some ("list_reverseiterator", "__length_hint__") by subst nm; decide +kernel]
  subst nm
  refine wpAny_bind (wpAny_isInstance (b := true) kind (by rw [isSubtype_type]; kernel_rfl) (wpAny_pure ?_))
  rw [if_neg (by decide)]
  have z : ((its.size : Nat) : Int) - 1 - ((0 : Nat) : Int) = (its.size : Int) - 1 := by omega
  refine wpAny_pure ⟨plainId_quiet F.plain_extend_loop _, codeAny_extend_loopS walks few _ off _ its.size 0 _ _ _ rfl (Nat.zero_le _) ⟨Nat.zero_le _, by rw [z]; exact hi, hL⟩ hS (ItemsOf.nil _) fun s2 got c1 mv at2 all => ?_⟩
  rw [Moved.eq_with mv]
  refine q s2.heap s2.toks got c1 (fun b o m1 m2 e => mv.heap b o (fun mem => ?_) e) at2 all
  rcases List.mem_cons.mp mem with y | mem
  · exact m1 y
  · exact m2 (List.mem_singleton.mp mem)
theorem call_listRev {Q : Value → Shared → Prop} {it l : Addr} {its : Array Value} (quiet : A.handled = none) (hi : s.heap.IsRevIter it l ((its.size : Int) - 1)) (hL : s.heap.IsList l its) (n1 : l ≠ it) (few : its.size ≤ sizeLine)
    (q : ∀ g tk got c1, (∀ b o, b ≠ it → s.heap.get? b = some o → g.get? b = some o) → g.get? s.heap.objs.size = some { cls := .type "list", dict := none, data := .seq got c1, slots := #[] } → ItemsOf (fun i v => its[its.size - 1 - i]? = some v) got its.size → Q (.ref s.heap.objs.size) { s with heap := g, toks := tk }) :
    wpAny (model prog w) A (call (.type "list") [.ref it]) Q E s := by
  obtain ⟨oi, gi, _⟩ := id hi
  obtain ⟨ol, gl, _⟩ := id hL
  have n2 : s.heap.objs.size ≠ it := Nat.ne_of_gt (Heap.lt_size gi)
  have n3 : s.heap.objs.size ≠ l := Nat.ne_of_gt (Heap.lt_size gl)
  refine callType_codes (Q₁ := fun x t => x = .ref s.heap.objs.size ∧ t = { s with heap := s.heap.push { cls := .type "list", data := .seq #[] } }) F.called_list (F.typeCall_list_1 _) F.entry_list_init (code_list_new _ ⟨rfl, rfl⟩) fun x t ⟨ex, et⟩ => ?_
  subst ex et
  have new : (s.heap.push { cls := .type "list", data := .seq #[] }).get? s.heap.objs.size = some { cls := .type "list", data := .seq #[] } := Heap.get?_push_size _ rfl
  refine ⟨⟨_, new, rfl⟩, F.args_list_init_2 _ _, ?_⟩
  show wpAny _ _ (do let was ← Builtin.List.listItems (.ref s.heap.objs.size); Builtin.List.listUpdate (.ref s.heap.objs.size) (fun _ => #[]); letGo was.toList.reverse; Builtin.List.listExtendWith (.ref s.heap.objs.size) (.ref it) .none) _ _ _
  apply wpAny_bind
  unfold Builtin.List.listItems
  refine wpAny_bind (wpAny_seqItems new rfl (wpAny_pure ?_))
  show wpAny _ _ (updateSeq s.heap.objs.size (fun _ => #[]) >>= fun _ => letGo (#[] : Array Value).toList.reverse >>= fun _ => Builtin.List.listExtendWith (.ref s.heap.objs.size) (.ref it) .none) _ _ _
  refine wpAny_bind (wpAny_updateSeq new rfl ?_)
  have new2 := Heap.get?_update_self (Obj.mapSeq (fun _ => (#[] : Array Value))) new rfl
  have stays : ∀ b o, b ≠ s.heap.objs.size → s.heap.get? b = some o → ((s.heap.push { cls := .type "list", data := .seq #[] }).update s.heap.objs.size (Obj.mapSeq (fun _ => (#[] : Array Value)))).get? b = some o := fun b o m e => (Heap.get?_update_other _ _ (Ne.symm m)).trans (Heap.get?_push_of_some _ e)
  refine wpAny_bind (wpAny_letGo ?_)
  obtain ⟨ol2, gl2, rest⟩ := id hL
  refine ext_rev (A := A.in1) quiet (hi.at fun o e => stays _ _ (Ne.symm n2) e) ⟨ol2, stays _ _ (Ne.symm n3) gl2, rest⟩ n1 n2 n3 few new2 fun g tk got c1 k e all => ⟨rfl, ?_⟩
  exact q g tk got c1 (fun b o m e => k b o (Nat.ne_of_lt (Heap.lt_size e)) m (stays b o (Nat.ne_of_lt (Heap.lt_size e)) e)) e all
end
/-- list(reversed(x)), x a list: a new list -/
def tLstRev (K : PySem.W.Frag) (te : TE) : TE := fun σ H Q => te σ H fun v H1 => ∃ (a : Addr) (xs : List V), v = .ref a ∧ SqL K H1 a xs ∧ ∀ q, H1 q = none → Q (.ref q) (upd H1 q (.lst xs.reverse))
theorem pe_listRev {X : Cx} {e : Expr} {te : TE} {p p2 pos pos2 : Pos} (hc : X.calm = true) (hg : Gl X "list") (hm : X.mg "list" = none) (hg2 : Gl X "reversed") (hm2 : X.mg "reversed" = none) (he : PE X e te)
    (hs : starEach [e] X.env = (false, eval e X.env) :: starEach [] X.env := by rfl) (hs2 : starEach [.Call (.Name "reversed" p2) [e] [] pos2] X.env = (false, eval (.Call (.Name "reversed" p2) [e] [] pos2) X.env) :: starEach [] X.env := by rfl) :
    PE X (.Call (.Name "list" p) [.Call (.Name "reversed" p2) [e] [] pos2] [] pos) (tLstRev X.K te) := by
  constructor
  intro pins s σ H Q I h
  refine Call_ (ld_blt I hg hm boot_list (PyProof.Rows.callWith_type1 (args_cons (Call_ (ld_blt I hg2 hm2 PyProof.Rows.boot_reversed (PyProof.Rows.callWith_type1 (args_cons (thn (he.run pins s σ H _ I h) fun u t ⟨v, H1, J, r, a, xs, ev, hq, q⟩ => args_nil ?_) hs) hs rfl))) hs2) hs2 rfl))
  subst ev
  obtain rfl : u = Value.ref a := r
  obtain ⟨its, rv, pl, few⟩ := J.list hq
  refine call_reversed_list pl.isList (args_nil ?_)
  have J2 : Inv X pins σ H1 { t with heap := t.heap.push (revObj a ((its.toArray.size : Int) - 1)) } := J.kept (t' := t.toks) fun b o e => Heap.get?_push_of_some _ e
  obtain ⟨ol, gl, _⟩ := id pl.isList
  refine call_listRev (s := { t with heap := t.heap.push (revObj a ((its.toArray.size : Int) - 1)) }) (J.ok.hd hc) ⟨_, Heap.get?_push_size _ rfl, rfl, rfl⟩ (pl.isList.push _) (Nat.ne_of_lt (Heap.lt_size gl)) (by rw [List.size_toArray, ← rv.length]; exact few) fun g tk got c1 k e all => ?_
  have ok : ObjOk X.prog X.w (upd H1 (t.heap.push (revObj a ((its.toArray.size : Int) - 1))).objs.size (.lst xs.reverse)) g (t.heap.push (revObj a ((its.toArray.size : Int) - 1))).objs.size (.lst xs.reverse) := ⟨by rw [List.length_reverse]; exact few, got.toList, c1, RT.vals_rev rv all, by rw [Array.toArray_toList]; exact e⟩
  refine ⟨.ref _, _, J2.turnedNew (t' := tk) (ch := [t.heap.objs.size]) (fun b o m y => k b o (fun z => m (by rw [z]; exact List.mem_singleton.mpr rfl)) y) (fun b m => by rw [List.mem_singleton.mp m]; exact J.fpOk (Nat.le_refl _) (J.hok.fresh (Nat.le_refl _))) (Nat.le_refl _) ok, rfl, q _ (J2.hok.fresh (Nat.le_refl _))⟩
theorem L_lstRev {K : PySem.W.Frag} {te : TE} {σ : L2.St} {H : Hp} {Q : VK} (h : te σ H fun v H1 => ∃ (a : Addr) (xs : List V), v = .ref a ∧ SqL K H1 a xs ∧ ∀ q, H1 q = none → Q (.ref q) (upd H1 q (.lst xs.reverse))) : tLstRev K te σ H Q := h
end Kt

set_option Elab.async false
set_option linter.all false
set_option maxRecDepth 100000
set_option maxHeartbeats 4000000
/-! SetT: set(t) of a tuple of ints; len of a set of tuples -/
namespace Kt
open PySem PySem.Spec PyProof.Rows L2
def rSetTI (K : PySem.W.Frag) (w : World) : List V → Hp → VK → Prop := fun vs H Q => ∃ (p : Addr) (ms : List Int), vs = [.ref p] ∧ SqT K H p (ms.map V.int) ∧ ms.length < 1000 ∧ ∀ q n, H q = none → n ≤ ms.length → Q (.ref q) (upd H q (SetO w q (fun j => decide (j ∈ ms)) n))
theorem cr_setTI {X : Cx} (calm : X.calm = true) : CallR X (.type "set") (rSetTI X.K X.w) := by
  intro pins s σ H vs us Q I r h
  obtain ⟨p, ms, rfl, hL, few, q⟩ := h
  obtain ⟨its, rv, pl, _⟩ := I.tuple hL
  rw [Vals.ref1 r]
  refine call_set_tupI ms (I.ok.hd calm) (items := its.toArray) pl (by simpa using rv.ints) (by unfold scanBound; omega) fun g tk n R hn k => ?_
  exact ⟨.ref _, _, I.laid k (Nat.le_refl _) (setO_new R), rfl, q _ n (I.hok.fresh (Nat.le_refl _)) hn⟩
def rLenST (K : PySem.W.Frag) (P : Program) (w : World) : List V → Hp → VK → Prop := fun vs H Q => ∃ (a : Addr) (L : List (Addr × List Int)), vs = [.ref a] ∧ H a = some (SetTO P w a L) ∧ (∀ p ∈ L, SqT K H p.1 (p.2.map V.int)) ∧ ((L.map (·.2)).Nodup → Q (.int L.length) H)
theorem cr_lenST {X : Cx} : CallR X (.builtin "len") (rLenST X.K X.prog X.w) := by
  intro pins s σ H vs us Q I r h
  obtain ⟨a, L, rfl, ha, hk, q⟩ := h
  have R0 : SetT0 X.prog X.w s.heap a L := (I.hok a _ ha).1
  obtain ⟨es, ep, t, R⟩ := R0.full fun p hp => I.isT (hk p hp)
  rw [Vals.ref1 r]
  have hsz : es.size = L.length := by
    have e := congrArg List.length R.rows
    rw [Array.length_toList] at e
    rw [e]
    unfold rowsOf
    rw [List.length_map]
  obtain ⟨o, ho, hex, hd⟩ := R.ob
  have hf := R.few
  refine call_len_set ho hex hd R.fits (by omega) ?_
  rw [hsz]
  exact ⟨.int L.length, H, (I.tok _).tok _, ⟨_, rfl⟩, q R.nd⟩
end Kt

set_option Elab.async false
set_option linter.all false
set_option maxRecDepth 100000
set_option maxHeartbeats 4000000
/-! StepL: xs[lo::step] of a list -/
namespace Kt
open PySem PySem.Spec PyProof.Rows L2
/-- which places a slice with a step takes -/
def stepR (n : Nat) (lo k : Int) : List Nat := sliceRange (sliceBounds (some lo) none (some k) n).1 (sliceBounds (some lo) none (some k) n).2.1 (sliceBounds (some lo) none (some k) n).2.2
def pickS {α : Type} (xs : List α) (lo k : Int) : List α := (stepR xs.length lo k).filterMap (xs[·]?)
theorem vals_get : ∀ {xs : List V} {ys : List Value} (i : Nat), Vals xs ys → (xs[i]? = none ∧ ys[i]? = none) ∨ ∃ x y, xs[i]? = some x ∧ ys[i]? = some y ∧ RelV x y
  | _, _, i, .nil => .inl ⟨by simp, by simp⟩
  | _, _, 0, .cons h _ => .inr ⟨_, _, rfl, rfl, h⟩
  | _, _, i + 1, .cons _ t => vals_get i t
theorem vals_pick {xs : List V} {ys : List Value} (h : Vals xs ys) : ∀ R : List Nat, Vals (R.filterMap (xs[·]?)) (R.filterMap (ys[·]?))
  | [] => .nil
  | i :: R => by
    have ih := vals_pick h R
    rw [List.filterMap_cons, List.filterMap_cons]
    rcases vals_get i h with ⟨e1, e2⟩ | ⟨x, y, e1, e2, r⟩
    · rw [e1, e2]; exact ih
    · rw [e1, e2]; exact .cons r ih
theorem stepR_len (n : Nat) (lo k : Int) (hk : 0 < k) : (stepR n lo k).length ≤ n := by
  have e3 : (sliceBounds (some lo) none (some k) n).2.2 = k := rfl
  have e2 : (sliceBounds (some lo) none (some k) n).2.1 = n := by
    show (if k > 0 then (n : Int) else -1) = n
    rw [if_pos hk]
  have e1 : 0 ≤ (sliceBounds (some lo) none (some k) n).1 := by
    show 0 ≤ (if k > 0 then max 0 (min (if lo < 0 then lo + n else lo) (n : Int)) else _)
    rw [if_pos hk]
    omega
  unfold stepR
  exact sliceRange_length_le _ _ _ n (fun _ => ⟨e1, by rw [e2]; exact Int.le_refl _⟩) fun h => absurd (by rw [e3]; exact hk) h
theorem fm_le {α β : Type} (f : α → Option β) : ∀ l : List α, (l.filterMap f).length ≤ l.length
  | [] => Nat.le_refl _
  | a :: l => by
    rw [List.filterMap_cons]
    have := fm_le f l
    cases f a <;> simp <;> omega
theorem pickS_len {α : Type} (xs : List α) (lo k : Int) (hk : 0 < k) : (pickS xs lo k).length ≤ xs.length := Nat.le_trans (fm_le _ _) (stepR_len _ _ _ hk)
def rSlS (K : PySem.W.Frag) (x : V) (l u : Option Int) (H : Hp) (Q : VK) : Prop := ∃ a xs i k, x = .ref a ∧ l = some i ∧ u = some k ∧ SqL K H a xs ∧ 0 < k ∧ ∀ p, H p = none → Q (.ref p) (upd H p (.lst (pickS xs i k)))
def tSlS (K : PySem.W.Frag) (te tl ts : TE) : TE := fun σ H Q => te σ H fun x H1 => tPart tl σ H1 fun l H2 => tPart ts σ H2 fun u H3 => rSlS K x l u H3 Q
theorem L_slS {K : PySem.W.Frag} {te tl ts : TE} {σ : L2.St} {H : Hp} {Q : VK} (h : te σ H fun x H1 => tPart tl σ H1 fun l H2 => tPart ts σ H2 fun u H3 => rSlS K x l u H3 Q) : tSlS K te tl ts σ H Q := h
theorem L_rSlS {K : PySem.W.Frag} {H : Hp} {Q : VK} {a : Addr} {xs : List V} {i k : Int} (h : SqL K H a xs) (hk : 0 < k) (q : ∀ p, H p = none → Q (.ref p) (upd H p (.lst (pickS xs i k)))) : rSlS K (.ref a) (some i) (some k) H Q := ⟨a, xs, i, k, rfl, rfl, rfl, h, hk, q⟩
section
variable {X : Cx}
theorem pe_slS {e lo st : Expr} {te tl ts : TE} {p2 pos : Pos} (he : PE X e te) (hl : PE X lo tl) (hs : PE X st ts) : PE X (.Subscript e (.Slice (some lo) none (some st) p2) pos) (tSlS X.K te tl ts) := by
  refine ⟨fun pins s σ H Q I h => ?_⟩
  refine Subscript_ (thn (he.run pins s σ H _ I h) fun v s1 ⟨x, H1, I1, r1, q1⟩ => ?_)
  refine wpAny_Slice (thn ((po_some hl).run pins s1 σ H1 _ I1 q1) fun vl s2 ⟨l, H2, I2, pl, q2⟩ => ?_)
  refine thn (po_none.run pins s2 σ H2 (fun o H3 => o = none ∧ H3 = H2) I2 ⟨rfl, rfl⟩) fun vu s3 ⟨u, H3, I3, pu, eu, e3⟩ => ?_
  subst eu e3
  refine thn ((po_some hs).run pins s3 σ H3 _ I3 q2) fun vs s4 ⟨o, H4, I4, ps, q4⟩ => ?_
  obtain ⟨a, xs, i, k, rfl, rfl, rfl, hx, hk, q⟩ := q4
  cases r1
  have I5 : Inv X pins σ H4 { s4 with heap := s4.heap.push { cls := .type "slice", data := .fields #[vl, vu, vs] } } := I4.kept (t' := s4.toks) fun b ob q => Heap.get?_push_of_some _ q
  obtain ⟨its, r, ht, hz⟩ := I5.list hx
  have hlen := r.length
  show wpAny (model X.prog X.w) X.A (subscriptTail e (.Slice (some lo) none (some st) p2) (.ref a) (.ref s4.heap.objs.size)) (EP X pins σ Q) X.xe { s4 with heap := s4.heap.push { cls := .type "slice", data := .fields #[vl, vu, vs] } }
  refine tail_any (ops := [.ref a, .ref s4.heap.objs.size]) ht.isList.typeIs (PySem.slot_list_getitem.lookup) ?_ (by with_unfolding_all rfl)
  refine wpAny_getItem_list_slice ht.isList (Heap.IsSliceOf.new _ vl vu vs) pl pu ps (by intro z; cases z; omega) ?_ (by rw [List.size_toArray]; omega)
  refine ⟨.ref _, _, I5.laid (t' := s4.toks) (o := .lst (pickS xs i k)) (fun b ob q => Heap.get?_push_of_some _ q) (Nat.le_refl _) ?_, rfl, q _ (I5.hok.fresh (Nat.le_refl _))⟩
  refine ⟨Nat.le_trans (pickS_len xs i k hk) hz, _, 0, vals_pick r (stepR xs.length i k), ?_⟩
  have e : slicePick its.toArray (some i) none (some k) = ((stepR xs.length i k).filterMap (its[·]?)).toArray := by
    unfold slicePick stepR
    rw [List.size_toArray, hlen]
    simp
  rw [e]
  exact Heap.get?_push_size _ rfl
end
/-- each k-th from one on -/
def evy {α : Type} (xs : List α) (lo k : Nat) : List α := (List.range xs.length).filterMap fun j => if j % k = lo then xs[j]? else none
theorem nat_lt_perm : ∀ {l l' : List Nat}, l.Pairwise (· < ·) → l'.Pairwise (· < ·) → (∀ x, x ∈ l ↔ x ∈ l') → l = l'
  | [], [], _, _, _ => rfl
  | [], b :: l', _, _, h => absurd ((h b).mpr (List.mem_cons_self ..)) (by simp)
  | a :: l, [], _, _, h => absurd ((h a).mp (List.mem_cons_self ..)) (by simp)
  | a :: l, b :: l', h1, h2, h => by
    rw [List.pairwise_cons] at h1 h2
    have hab : a = b := by
      have ha := (h a).mp (List.mem_cons_self ..)
      have hb := (h b).mpr (List.mem_cons_self ..)
      rcases List.mem_cons.mp ha with e | e
      · exact e
      · rcases List.mem_cons.mp hb with e' | e'
        · exact e'.symm
        · have := h1.1 b e'
          have := h2.1 a e
          omega
    subst hab
    rw [nat_lt_perm h1.2 h2.2 fun x => ?_]
    constructor
    · intro hx
      have := h1.1 x hx
      rcases List.mem_cons.mp ((h x).mp (List.mem_cons_of_mem _ hx)) with e | e
      · omega
      · exact e
    · intro hx
      have := h2.1 x hx
      rcases List.mem_cons.mp ((h x).mpr (List.mem_cons_of_mem _ hx)) with e | e
      · omega
      · exact e
theorem range_lt (n : Nat) : (List.range n).Pairwise (· < ·) := List.pairwise_lt_range
theorem stepR_eq {n lo k : Nat} (hl : lo < k) : stepR n lo k = (List.range n).filter fun j => decide (j % k = lo) := by
  have hk : ((k : Int) > 0) := by omega
  have e3 : (sliceBounds (some (lo : Int)) none (some (k : Int)) n).2.2 = k := rfl
  have e2 : (sliceBounds (some (lo : Int)) none (some (k : Int)) n).2.1 = n := by
    show (if (k : Int) > 0 then (n : Int) else -1) = n
    rw [if_pos hk]
  have e1 : (sliceBounds (some (lo : Int)) none (some (k : Int)) n).1 = ((min lo n : Nat) : Int) := by
    show (if (k : Int) > 0 then max 0 (min (if (lo : Int) < 0 then (lo : Int) + n else lo) (n : Int)) else _) = _
    rw [if_pos hk, if_neg (by omega)]
    omega
  unfold stepR
  rw [e1, e2, e3]
  unfold sliceRange
  dsimp only
  rw [if_pos hk]
  have mem : ∀ m : Nat, ((m : Int) < (if ((min lo n : Nat) : Int) < (n : Int) then ((n : Int) - ((min lo n : Nat) : Int) + (k : Int) - 1) / (k : Int) else 0)) ↔ lo + k * m < n := fun m => by
    by_cases c : lo < n
    · rw [if_pos (by omega), show min lo n = lo by omega]
      have := Int.le_ediv_iff_mul_le (a := (m : Int) + 1) (b := (n : Int) - lo + k - 1) hk
      constructor
      · intro h
        have h2 := this.mp (by omega)
        rw [Int.add_mul, Int.one_mul, Int.mul_comm] at h2
        have : ((k * m : Nat) : Int) = (k : Int) * (m : Int) := Int.natCast_mul k m
        omega
      · intro h
        have h2 : ((m : Int) + 1) * (k : Int) ≤ (n : Int) - lo + k - 1 := by
          rw [Int.add_mul, Int.one_mul, Int.mul_comm]
          have : ((k * m : Nat) : Int) = (k : Int) * (m : Int) := Int.natCast_mul k m
          omega
        have := this.mpr h2
        omega
    · rw [if_neg (by omega)]
      constructor
      · intro h; omega
      · intro h
        have := Nat.zero_le (k * m)
        omega
  generalize (if ((min lo n : Nat) : Int) < (n : Int) then ((n : Int) - ((min lo n : Nat) : Int) + (k : Int) - 1) / (k : Int) else 0) = cnt at mem
  have em : ∀ j : Nat, j < cnt.toNat ↔ lo + k * j < n := fun j => by rw [← mem j]; omega
  have elt : ∀ j : Nat, j < cnt.toNat → (((min lo n : Nat) : Int) + (k : Int) * (j : Int)).toNat = lo + k * j := fun j hj => by
    have := (em j).mp hj
    have h2 : ((k * j : Nat) : Int) = (k : Int) * (j : Int) := Int.natCast_mul k j
    have := Nat.zero_le (k * j)
    omega
  have e : ((List.range cnt.toNat).map fun (j : Nat) => (((min lo n : Nat) : Int) + (k : Int) * (j : Int)).toNat) = (List.range cnt.toNat).map fun j => lo + k * j := List.map_congr_left fun j hj => elt j (List.mem_range.mp hj)
  rw [e]
  refine nat_lt_perm ?_ ((range_lt n).filter _) fun x => ?_
  · rw [List.pairwise_map]
    exact (range_lt _).imp fun {a b} h => by
      have := Nat.mul_lt_mul_of_pos_left h (show 0 < k by omega)
      omega
  · rw [List.mem_map, List.mem_filter, List.mem_range, decide_eq_true_eq]
    constructor
    · rintro ⟨j, hj, rfl⟩
      refine ⟨(em j).mp (List.mem_range.mp hj), ?_⟩
      rw [Nat.add_mul_mod_self_left, Nat.mod_eq_of_lt hl]
    · rintro ⟨h1, h2⟩
      have hd := Nat.mod_add_div x k
      exact ⟨x / k, List.mem_range.mpr ((em _).mpr (by omega)), by omega⟩
theorem fm_filter {α : Type} (c : Nat → Prop) [DecidablePred c] (g : Nat → Option α) : ∀ l : List Nat, (l.filter fun j => decide (c j)).filterMap g = l.filterMap fun j => if c j then g j else none
  | [] => rfl
  | a :: l => by
    by_cases h : c a
    · rw [List.filter_cons_of_pos (by exact decide_eq_true h), List.filterMap_cons, List.filterMap_cons, if_pos h, fm_filter c g l]
    · rw [List.filter_cons_of_neg (by simpa using h), List.filterMap_cons, if_neg h, fm_filter c g l]
theorem fm_cong {α β : Type} {f g : α → Option β} (h : ∀ a, f a = g a) : ∀ l : List α, l.filterMap f = l.filterMap g
  | [] => rfl
  | a :: l => by rw [List.filterMap_cons, List.filterMap_cons, h a, fm_cong h l]
theorem pickS_ev {α β : Type} (f : α → β) (xs : List α) {lo k : Nat} (hl : lo < k) : pickS (xs.map f) (lo : Int) (k : Int) = (evy xs lo k).map f := by
  unfold pickS evy
  rw [List.length_map, stepR_eq hl, fm_filter, List.map_filterMap]
  refine fm_cong (fun j => ?_) _
  by_cases h : j % k = lo
  · rw [if_pos h, if_pos h, List.getElem?_map]
  · rw [if_neg h, if_neg h]
    rfl
end Kt
set_option Elab.async false
set_option linter.all false
set_option maxRecDepth 100000
set_option maxHeartbeats 4000000
namespace My
open PySem PySem.Spec PyProof.Rows L2 Kt LamX NdefX
/-! one step of a reading; a look at the heap -/
local macro_rules | `(tactic| walk_at "hp") => `(tactic| first
  | assumption
  | exact upd_same
  | (with_reducible apply hp_from; assumption; walk_at "sm"))
local macro_rules | `(tactic| walk_at "hpL") => `(tactic| first | assumption | (with_reducible apply hpL; walk_at "hp"))
local macro_rules | `(tactic| walk_at "hpT") => `(tactic| first | assumption | (with_reducible apply hpT; walk_at "hp"))
local macro_rules | `(tactic| walk_at "st1") => `(tactic| with_reducible first
  | refine L_var rfl ?_
  | refine L_cons ?_
  | refine L_nil ?_
  | refine L_c ?_
  | refine L_op ?_
  | refine L_seq ?_
  | refine L_asg ?_
  | (refine G_gn ?_; refine L_gnameE (by dsimp only [L2.wipe, List.foldl, List.set] <;> rfl) ?_)
  | refine L_k ?_
  | refine L_I0 ?_
  | refine L_addI ?_
  | refine L_tTest ?_
  | refine L_ifS ?_
  | refine L_next ?_
  | refine L_call ?_
  | refine L_callS ?_
  | refine L_T ?_
  | refine L_F ?_
  | refine L_nT ?_
  | refine L_nF ?_
  | refine L_cb ?_
  | refine L_ret ?_
  | refine L_eqI ?_
  | refine L_neI ?_
  | refine L_leI ?_
  | refine L_ltI ?_
  | refine L_or ?_
  | refine L_and ?_
  | refine L_not ?_
  | refine L_tB ?_
  | refine L_drop ?_
  | refine L_bm ?_
  | refine L_tup ?_
  | refine L_lst ?_
  | refine L_fld ?_
  | refine L_chain ?_
  | refine L_chain3 ?_
  | refine L_gname ?_
  | refine L_eqS ?_
  | refine L_neS ?_
  | refine L_eqB ?_
  | refine L_leS ?_
  | refine L_isN ?_
  | refine L_notN ?_
  | refine L_inC ?_
  | refine L_notInC ?_
  | refine L_un ?_
  | refine L_rU ?_
  | refine L_andV ?_
  | refine L_orV ?_
  | refine L_notV ?_
  | refine L_par ?_
  | refine L_par3 ?_
  | refine L_vs2 ?_
  | refine L_vs3 ?_
  | refine L_aug rfl ?_
  | refine L_augS ?_
  | refine L_ipI ?_
  | refine L_retN ?_
  | refine L_brk ?_
  | refine L_cont ?_
  | refine L_tru ?_
  | refine L_truB ?_
  | refine L_truI ?_
  | refine L_abs ?_
  | refine L_max2 ?_
  | refine L_min2 ?_
  | refine L_int1 ?_
  | refine L_int1B ?_
  | refine L_for ?_
  | refine L_iRng1 ?_
  | refine L_iRng2 ?_
  | refine L_iList ?_
  | refine L_iTup ?_
  | refine L_yes ?_
  | refine L_iZip ?_
  | refine L_iEnum ?_
  | refine L_iStr ?_
  | refine L_iRng3 ?_
  | refine L_lc ?_
  | refine L_make ?_
  | refine L_nnT ?_
  | refine L_nnF ?_
  | refine L_disp1 ?_
  | refine L_rng2 ?_
  | refine L_bm0 ?_
  | refine L_neB ?_
  | refine L_dnew ?_
  | refine L_sl ?_
  | refine L_noPart ?_
  | refine L_part ?_
  | refine L_ki ?_
  | refine L_methE ?_
  | refine L_meth ?_
  | refine L_makeE ?_
  | refine L_gCons ?_
  | refine L_gNil ?_
  | refine L_sub ?_
  | refine L_sFld ?_
  | refine L_din ?_
  | refine L_dnin ?_
  | refine L_dget ?_
  | refine L_dput ?_
  | refine L_dget2 ?_
  | refine L_methD ?_
  | refine L_lock ?_
  | refine L_iKeys ?_)
local macro_rules | `(tactic| walk_at "st") => `(tactic| first | walk_at "st1" | walk_at "op" | with_reducible refine L_ifE ?_)
local macro_rules | `(tactic| walk_at "stn") => `(tactic| repeat first | walk_at "st1" | walk_at "op")
local macro_rules | `(tactic| walk_at "sts") => `(tactic| repeat walk_at "st")
/-! the same, and what is shown by itself: sizes, bounds, what stands in the heap -/
local macro_rules | `(tactic| walk_at "bd") => `(tactic| first | exact bd_mod (by decide) | exact bd_64 (by decide) | exact bd_64 (by omega))
local macro_rules | `(tactic| walk_at "sa1") => `(tactic| first
  | walk_at "st"
  | (with_reducible refine G_mod ?_; with_reducible refine L_I (show _ < _ by first | decide | omega) ?_)
  | (with_reducible refine G_mul ?_; with_reducible refine L_mulI (Bd.cmul (n := 64) (m := 64) (by walk_at "bd") (by walk_at "bd")) ?_)
  | (with_reducible refine G_div ?_; with_reducible refine L_I (cdiv_lit (by first | decide | omega)) ?_)
  | (with_reducible refine G_pow ?_; with_reducible first
    | refine L_powE (i := 10) (j := 9) (n := 1000000000) (cpow_lit (by decide)) (by decide) ?_
    | refine L_powE (i := 10) (j := 6) (n := 1000000) (cpow_lit (by decide)) (by decide) ?_
    | refine L_powE (i := 10) (j := 10) (n := 10000000000) (cpow_lit (by decide)) (by decide) ?_
    | refine L_powE (i := 10) (j := 12) (n := 1000000000000) (cpow_lit (by decide)) (by decide) ?_
    | refine L_powE (i := 10) (j := 13) (n := 10000000000000) (cpow_lit (by decide)) (by decide) ?_
    | refine L_powE (i := 10) (j := 20) (n := 100000000000000000000) (cpow_lit (by decide)) (by decide) ?_
    | refine L_powE (i := 10) (j := 29) (n := 100000000000000000000000000000) (cpow_lit (by decide)) (by decide) ?_
    | refine L_powE (i := 10) (j := 30) (n := 1000000000000000000000000000000) (cpow_lit (by decide)) (by decide) ?_
    | refine L_powE (i := 10) (j := 39) (n := 1000000000000000000000000000000000000000) (cpow_lit (by decide)) (by decide) ?_
    | refine L_powE (i := 10) (j := 40) (n := 10000000000000000000000000000000000000000) (cpow_lit (by decide)) (by decide) ?_
    | refine L_powE (i := 10) (j := 60) (n := 1000000000000000000000000000000000000000000000000000000000000) (cpow_lit (by decide)) (by decide) ?_
    | refine L_powE (i := 2) (j := 3) (n := 8) (cpow_lit (by decide)) (by decide) ?_
    | refine L_powE (i := 2) (j := 40) (n := 1099511627776) (cpow_lit (by decide)) (by decide) ?_)
  | (with_reducible refine G_ix ?_; with_reducible first | refine L_ixT (by walk_at "hpT") (by with_unfolding_all rfl) ?_ | refine L_ixL (by walk_at "hpL") (by with_unfolding_all rfl) ?_)
  | (with_reducible refine G_len ?_; with_reducible first | refine L_lenL (by walk_at "hpL") ?_ | refine L_lenT (by walk_at "hpT") ?_)
  | walk_at "fd"
  | (with_reducible refine G_meth ?_; with_reducible refine L_methv (by walk_at "hp") (by with_unfolding_all rfl) ?_)
  | (with_reducible refine G_isi ?_; with_reducible first | refine L_isi (.base (.int _)) (b := true) (by decide +kernel) ?_ | refine L_isi (.base (.int _)) (b := false) (by decide +kernel) ?_)
  | (with_reducible refine G_d ?_; with_reducible first | refine L_dT (by first | assumption | omega) ?_ | refine L_dF (by first | assumption | omega) ?_)
  | (with_reducible refine G_nd ?_; with_reducible first | refine L_ndT (by first | assumption | omega) ?_ | refine L_ndF (by first | assumption | omega) ?_))
local macro_rules | `(tactic| walk_at "sa") => `(tactic| repeat walk_at "sa1")
/-! what stood stands -/
local macro_rules | `(tactic| walk_at "sm") => `(tactic| first
  | assumption
  | exact Same.refl _
  | (with_reducible apply same_upd'; assumption; walk_at "sm")
  | (with_reducible apply same_mut'; assumption; walk_at "sm")
  | (with_reducible apply same_via; assumption; walk_at "sm"))
/-! a new list or tuple: its place p, hp : H p = none, the heap behind it Hn, that all stands, what stands at p -/
local macro_rules | `(tactic| walk_at "nw") => `(tactic| (
  (refine L_new (by first | decide | exact sz_dec (by simp)) ?_)
  (intro p hp)
  (generalize hg : upd _ p _ = Hn)
  (have sn := same_newE hg hp)
  (have en := upd_at hg)
  (clear hg)))
/-! plain things as data -/
local macro_rules | `(tactic| walk_at "dpa") => `(tactic| first
  | exact .nil
  | (refine .cons (by first | exact .int _ | exact .str _ | exact .bl _ | exact .non | assumption) ?_; walk_at "dpa"))
local macro_rules | `(tactic| walk_at "nwp") => `(tactic| (
  (intro p hp)
  (generalize hg : upd _ p _ = Hn)
  (have sn := same_newE hg hp)
  (have en := upd_at hg)
  (clear hg)))

def top (i : Nat) : Stmt := PySem.Challenge.pw_fewspeak_k25_whole_small_plans_walked.main.body.getD i (.Pass ⟨0, 0, 0, 0⟩)
abbrev s_is_whole : Stmt := top 13
abbrev s_divisor : Stmt := top 5
abbrev s_share : Stmt := top 6
abbrev s_NoPlan___init__ : Stmt := inClass (top 3) 0
abbrev s_Told___init__ : Stmt := inClass (top 10) 0
abbrev s_Told_is_told : Stmt := inClass (top 10) 1
abbrev s_Told_kept : Stmt := inClass (top 10) 2
abbrev s_Die___init__ : Stmt := inClass (top 11) 0
abbrev s_Die_is_told : Stmt := inClass (top 9) 0
abbrev s_few_node : Stmt := top 21
abbrev e_few_node_0 : Expr := lamE (stV ((defBody s_few_node).getD 2 s_few_node))
abbrev LamAt_few_node_l0 (ws : List V) (f : Addr) (H : Hp) : Prop := LamAt "few_node.<locals>.<lambda>" (lamP s_few_node e_few_node_0) (lamB e_few_node_0) (lamS s_few_node e_few_node_0) ["kept", "many", "places"] ws f H
abbrev e_few_node_1 : Expr := lamE (stV ((defBody s_few_node).getD 3 s_few_node))
abbrev LamAt_few_node_l1 (ws : List V) (f : Addr) (H : Hp) : Prop := LamAt "few_node.<locals>.<lambda>" (lamP s_few_node e_few_node_1) (lamB e_few_node_1) (lamS s_few_node e_few_node_1) ["kept", "many", "places"] ws f H
abbrev s_start_part : Stmt := top 23
abbrev e_start_part_0 : Expr := lamE (stV ((defBody s_start_part).getD 0 s_start_part))
abbrev LamAt_start_part_l0 (ws : List V) (f : Addr) (H : Hp) : Prop := LamAt "start_part.<locals>.<lambda>" (lamP s_start_part e_start_part_0) (lamB e_start_part_0) (lamS s_start_part e_start_part_0) ["at", "places", "step"] ws f H
abbrev s_loose_die : Stmt := top 25
abbrev e_loose_die_0 : Expr := lamE (stV ((defBody s_loose_die).getD 1 s_loose_die))
abbrev LamAt_loose_die_l0 (ws : List V) (f : Addr) (H : Hp) : Prop := LamAt "loose_die.<locals>.<lambda>" (lamP s_loose_die e_loose_die_0) (lamB e_loose_die_0) (lamS s_loose_die e_loose_die_0) ["kept", "places", "shares"] ws f H
abbrev e_loose_die_1 : Expr := lamE (stV ((defBody s_loose_die).getD 2 s_loose_die))
abbrev LamAt_loose_die_l1 (ws : List V) (f : Addr) (H : Hp) : Prop := LamAt "loose_die.<locals>.<lambda>" (lamP s_loose_die e_loose_die_1) (lamB e_loose_die_1) (lamS s_loose_die e_loose_die_1) ["kept", "places", "shares"] ws f H
abbrev s_loose_node : Stmt := top 26
abbrev s_Told_sides : Stmt := inClass (top 9) 2
abbrev s_Told_parts : Stmt := inClass (top 9) 3
abbrev s_Die_kept : Stmt := inClass (top 9) 1
abbrev s_Die_sides : Stmt := inClass (top 11) 1
abbrev s_places_of : Stmt := top 20
abbrev s__law_cell : Stmt := top 30
abbrev s__law_mix : Stmt := top 31
abbrev s__law_row : Stmt := top 32
abbrev s__law_whole : Stmt := top 33
abbrev s__law_crowd : Stmt := top 39
abbrev s_Few_node : Stmt := inClass (top 22) 1
abbrev s_Few_bounds : Stmt := inClass (top 22) 3
abbrev s_Few___init__ : Stmt := inClass (top 22) 0
abbrev s_Few_chance : Stmt := inClass (top 22) 2
abbrev s_Few_text : Stmt := inClass (top 22) 4
abbrev s_Few_matrix : Stmt := inClass (top 19) 1
abbrev s_Start_node : Stmt := inClass (top 24) 1
abbrev s_Start___init__ : Stmt := inClass (top 24) 0
abbrev s_Start_chance : Stmt := inClass (top 24) 2
abbrev s_Start_matrix : Stmt := inClass (top 19) 1
abbrev s_Start_bounds : Stmt := inClass (top 24) 3
abbrev s_Start_text : Stmt := inClass (top 24) 4
abbrev s_size_left : Stmt := top 17
abbrev s_wished : Stmt := top 18
abbrev s_wished_of : Stmt := top 27
abbrev s_Loose_node : Stmt := inClass (top 28) 1
abbrev s_Loose___init__ : Stmt := inClass (top 28) 0
abbrev s_Loose_text : Stmt := inClass (top 28) 4
abbrev s_times : Stmt := top 7
abbrev s_Loose_matrix : Stmt := inClass (top 28) 2
abbrev s_Loose_bounds : Stmt := inClass (top 28) 3
abbrev s__law_low : Stmt := top 34
abbrev s__law_fraction : Stmt := top 37
abbrev s__law_matrix : Stmt := top 38
abbrev s__law_plus : Stmt := top 35
abbrev s__law_times : Stmt := top 36
abbrev s_Die_parts : Stmt := inClass (top 11) 2
abbrev s__law_ways : Stmt := top 40
abbrev s__law_together : Stmt := top 41
abbrev s__law_good : Stmt := top 42
abbrev s__law_alike : Stmt := top 43
abbrev s_law : Stmt := top 44
def tabsL (K : PySem.W.Frag) (mg : Str → Option Value) : List (Addr × Str) := [(pF K mg "few_node", "few_node.<locals>.<lambda>"), (pF K mg "start_part", "start_part.<locals>.<lambda>"), (pF K mg "loose_die", "loose_die.<locals>.<lambda>")]
def csL (K : PySem.W.Frag) (mg : Str → Option Value) : List (Addr × Addr) := [(cF K mg "few_node", pF K mg "few_node"), (cF K mg "start_part", pF K mg "start_part"), (cF K mg "loose_die", pF K mg "loose_die")]
theorem sc_is_whole : FnScope ["thing", "low", "high"] ["thing", "low", "high"] (defScope s_is_whole) := ⟨rfl, rfl, rfl, by decide +kernel, rfl, by decide +kernel, by decide +kernel⟩
theorem sc_divisor : FnScope ["one", "other"] ["one", "other"] (defScope s_divisor) := ⟨rfl, rfl, rfl, by decide +kernel, rfl, by decide +kernel, by decide +kernel⟩
theorem sc_share : FnScope ["top", "bottom", "many"] ["top", "bottom"] (defScope s_share) := ⟨rfl, rfl, rfl, by decide +kernel, rfl, by decide +kernel, by decide +kernel⟩
theorem sc_NoPlan___init__ : FnScope ["self", "place"] ["self", "place"] (defScope s_NoPlan___init__) := ⟨rfl, rfl, rfl, by decide +kernel, rfl, by decide +kernel, by decide +kernel⟩
theorem sc_Told___init__ : FnScope ["self", "kept"] ["self", "kept"] (defScope s_Told___init__) := ⟨rfl, rfl, rfl, by decide +kernel, rfl, by decide +kernel, by decide +kernel⟩
theorem sc_Told_is_told : FnScope ["self"] ["self"] (defScope s_Told_is_told) := ⟨rfl, rfl, rfl, by decide +kernel, rfl, by decide +kernel, by decide +kernel⟩
theorem sc_Told_kept : FnScope ["self"] ["self"] (defScope s_Told_kept) := ⟨rfl, rfl, rfl, by decide +kernel, rfl, by decide +kernel, by decide +kernel⟩
theorem sc_Die___init__ : FnScope ["self", "parts"] ["self", "parts"] (defScope s_Die___init__) := ⟨rfl, rfl, rfl, by decide +kernel, rfl, by decide +kernel, by decide +kernel⟩
theorem sc_Die_is_told : FnScope ["self"] ["self"] (defScope s_Die_is_told) := ⟨rfl, rfl, rfl, by decide +kernel, rfl, by decide +kernel, by decide +kernel⟩
theorem sc_few_node : FnScope ["places", "many", "kept", "first", "second"] ["places", "many", "kept"] (defScope s_few_node) := ⟨rfl, rfl, rfl, by decide +kernel, rfl, by decide +kernel, by decide +kernel⟩
theorem sc_start_part : FnScope ["places", "step", "at"] ["places", "step", "at"] (defScope s_start_part) := ⟨rfl, rfl, rfl, by decide +kernel, rfl, by decide +kernel, by decide +kernel⟩
theorem sc_loose_die : FnScope ["places", "shares", "kept", "top", "bottom", "first", "second"] ["places", "shares", "kept"] (defScope s_loose_die) := ⟨rfl, rfl, rfl, by decide +kernel, rfl, by decide +kernel, by decide +kernel⟩
theorem sc_loose_node : FnScope ["places", "shares", "kept", "at"] ["places", "shares", "kept"] (defScope s_loose_node) := ⟨rfl, rfl, rfl, by decide +kernel, rfl, by decide +kernel, by decide +kernel⟩
theorem sc_Told_sides : FnScope ["self"] ["self"] (defScope s_Told_sides) := ⟨rfl, rfl, rfl, by decide +kernel, rfl, by decide +kernel, by decide +kernel⟩
theorem sc_Told_parts : FnScope ["self"] ["self"] (defScope s_Told_parts) := ⟨rfl, rfl, rfl, by decide +kernel, rfl, by decide +kernel, by decide +kernel⟩
theorem sc_Die_kept : FnScope ["self"] ["self"] (defScope s_Die_kept) := ⟨rfl, rfl, rfl, by decide +kernel, rfl, by decide +kernel, by decide +kernel⟩
theorem sc_Die_sides : FnScope ["self", "many", "make"] ["self"] (defScope s_Die_sides) := ⟨rfl, rfl, rfl, by decide +kernel, rfl, by decide +kernel, by decide +kernel⟩
theorem sc_places_of : FnScope ["crowd", "place", "size", "path"] ["crowd"] (defScope s_places_of) := ⟨rfl, rfl, rfl, by decide +kernel, rfl, by decide +kernel, by decide +kernel⟩
theorem sc__law_cell : FnScope ["_law_script", "_law_k"] ["_law_script", "_law_k"] (defScope s__law_cell) := ⟨rfl, rfl, rfl, by decide +kernel, rfl, by decide +kernel, by decide +kernel⟩
theorem sc__law_mix : FnScope ["_law_cell_here", "_law_k", "_law_number"] ["_law_cell_here", "_law_k"] (defScope s__law_mix) := ⟨rfl, rfl, rfl, by decide +kernel, rfl, by decide +kernel, by decide +kernel⟩
theorem sc__law_row : FnScope ["_law_cell_here", "_law_bit", "_law_many", "_law_most", "_law_row_here", "_law_k"] ["_law_cell_here", "_law_bit", "_law_many", "_law_most"] (defScope s__law_row) := ⟨rfl, rfl, rfl, by decide +kernel, rfl, by decide +kernel, by decide +kernel⟩
theorem sc__law_whole : FnScope ["_law_found"] ["_law_found"] (defScope s__law_whole) := ⟨rfl, rfl, rfl, by decide +kernel, rfl, by decide +kernel, by decide +kernel⟩
theorem sc__law_crowd : FnScope ["_law_script", "_law_start", "_law_most", "_law_many", "_law_bit", "_law_sizes", "_law_left", "_law_places", "_law_pick", "_law_path", "_law_k"] ["_law_script", "_law_start", "_law_most"] (defScope s__law_crowd) := ⟨rfl, rfl, rfl, by decide +kernel, rfl, by decide +kernel, by decide +kernel⟩
theorem sc_Few_node : FnScope ["self", "crowd"] ["self", "crowd"] (defScope s_Few_node) := ⟨rfl, rfl, rfl, by decide +kernel, rfl, by decide +kernel, by decide +kernel⟩
theorem sc_Few_bounds : FnScope ["self", "crowd", "drawn"] ["self", "crowd"] (defScope s_Few_bounds) := ⟨rfl, rfl, rfl, by decide +kernel, rfl, by decide +kernel, by decide +kernel⟩
theorem sc_Few___init__ : FnScope ["self", "many"] ["self", "many"] (defScope s_Few___init__) := ⟨rfl, rfl, rfl, by decide +kernel, rfl, by decide +kernel, by decide +kernel⟩
theorem sc_Few_chance : FnScope ["self", "crowd", "one", "other", "every", "drawn"] ["self", "crowd", "one", "other"] (defScope s_Few_chance) := ⟨rfl, rfl, rfl, by decide +kernel, rfl, by decide +kernel, by decide +kernel⟩
theorem sc_Few_text : FnScope ["self"] ["self"] (defScope s_Few_text) := ⟨rfl, rfl, rfl, by decide +kernel, rfl, by decide +kernel, by decide +kernel⟩
theorem sc_Few_matrix : FnScope ["self", "crowd", "one", "other"] ["self", "crowd"] (defScope s_Few_matrix) := ⟨rfl, rfl, rfl, by decide +kernel, rfl, by decide +kernel, by decide +kernel⟩
theorem sc_Start_node : FnScope ["self", "crowd", "places", "at"] ["self", "crowd"] (defScope s_Start_node) := ⟨rfl, rfl, rfl, by decide +kernel, rfl, by decide +kernel, by decide +kernel⟩
theorem sc_Start___init__ : FnScope ["self", "step"] ["self", "step"] (defScope s_Start___init__) := ⟨rfl, rfl, rfl, by decide +kernel, rfl, by decide +kernel, by decide +kernel⟩
theorem sc_Start_chance : FnScope ["self", "crowd", "one", "other"] ["self", "crowd", "one", "other"] (defScope s_Start_chance) := ⟨rfl, rfl, rfl, by decide +kernel, rfl, by decide +kernel, by decide +kernel⟩
theorem sc_Start_matrix : FnScope ["self", "crowd", "one", "other"] ["self", "crowd"] (defScope s_Start_matrix) := ⟨rfl, rfl, rfl, by decide +kernel, rfl, by decide +kernel, by decide +kernel⟩
theorem sc_Start_bounds : FnScope ["self", "crowd"] ["self", "crowd"] (defScope s_Start_bounds) := ⟨rfl, rfl, rfl, by decide +kernel, rfl, by decide +kernel, by decide +kernel⟩
theorem sc_Start_text : FnScope ["self"] ["self"] (defScope s_Start_text) := ⟨rfl, rfl, rfl, by decide +kernel, rfl, by decide +kernel, by decide +kernel⟩
theorem sc_size_left : FnScope ["sizes", "aside", "at", "size"] ["sizes", "aside"] (defScope s_size_left) := ⟨rfl, rfl, rfl, by decide +kernel, rfl, by decide +kernel, by decide +kernel⟩
theorem sc_wished : FnScope ["sizes", "many", "aside", "more", "total", "at", "found", "size"] ["sizes", "many"] (defScope s_wished) := ⟨rfl, rfl, rfl, by decide +kernel, rfl, by decide +kernel, by decide +kernel⟩
theorem sc_wished_of : FnScope ["crowd", "many", "place", "size", "path"] ["crowd", "many"] (defScope s_wished_of) := ⟨rfl, rfl, rfl, by decide +kernel, rfl, by decide +kernel, by decide +kernel⟩
theorem sc_Loose_node : FnScope ["self", "crowd"] ["self", "crowd"] (defScope s_Loose_node) := ⟨rfl, rfl, rfl, by decide +kernel, rfl, by decide +kernel, by decide +kernel⟩
theorem sc_Loose___init__ : FnScope ["self", "many"] ["self", "many"] (defScope s_Loose___init__) := ⟨rfl, rfl, rfl, by decide +kernel, rfl, by decide +kernel, by decide +kernel⟩
theorem sc_Loose_text : FnScope ["self"] ["self"] (defScope s_Loose_text) := ⟨rfl, rfl, rfl, by decide +kernel, rfl, by decide +kernel, by decide +kernel⟩
theorem sc_times : FnScope ["one", "other"] ["one", "other"] (defScope s_times) := ⟨rfl, rfl, rfl, by decide +kernel, rfl, by decide +kernel, by decide +kernel⟩
theorem sc_Loose_matrix : FnScope ["self", "crowd", "shares", "found", "at", "one", "row", "other"] ["self", "crowd"] (defScope s_Loose_matrix) := ⟨rfl, rfl, rfl, by decide +kernel, rfl, by decide +kernel, by decide +kernel⟩
theorem sc_Loose_bounds : FnScope ["self", "crowd", "shares", "one"] ["self", "crowd"] (defScope s_Loose_bounds) := ⟨rfl, rfl, rfl, by decide +kernel, rfl, by decide +kernel, by decide +kernel⟩
theorem sc__law_low : FnScope ["_law_top", "_law_bottom", "_law_one", "_law_other"] ["_law_top", "_law_bottom"] (defScope s__law_low) := ⟨rfl, rfl, rfl, by decide +kernel, rfl, by decide +kernel, by decide +kernel⟩
theorem sc__law_fraction : FnScope ["_law_found", "_law_due"] ["_law_found", "_law_due"] (defScope s__law_fraction) := ⟨rfl, rfl, rfl, by decide +kernel, rfl, by decide +kernel, by decide +kernel⟩
theorem sc__law_matrix : FnScope ["_law_found", "_law_due", "_law_row_here", "_law_others", "_law_one", "_law_other"] ["_law_found", "_law_due"] (defScope s__law_matrix) := ⟨rfl, rfl, rfl, by decide +kernel, rfl, by decide +kernel, by decide +kernel⟩
theorem sc__law_plus : FnScope ["_law_one", "_law_other"] ["_law_one", "_law_other"] (defScope s__law_plus) := ⟨rfl, rfl, rfl, by decide +kernel, rfl, by decide +kernel, by decide +kernel⟩
theorem sc__law_times : FnScope ["_law_one", "_law_other"] ["_law_one", "_law_other"] (defScope s__law_times) := ⟨rfl, rfl, rfl, by decide +kernel, rfl, by decide +kernel, by decide +kernel⟩
theorem sc_Die_parts : FnScope ["self", "many", "make"] ["self"] (defScope s_Die_parts) := ⟨rfl, rfl, rfl, by decide +kernel, rfl, by decide +kernel, by decide +kernel⟩
theorem sc__law_ways : FnScope ["_law_node", "_law_much", "_law_found", "_law_many", "_law_part"] ["_law_node", "_law_much"] (defScope s__law_ways) := ⟨rfl, rfl, rfl, by decide +kernel, rfl, by decide +kernel, by decide +kernel⟩
theorem sc__law_together : FnScope ["_law_ways_here", "_law_places", "_law_rows", "_law_kept", "_law_much", "_law_found", "_law_one", "_law_row_here", "_law_other", "_law_total"] ["_law_ways_here", "_law_places"] (defScope s__law_together) := ⟨rfl, rfl, rfl, by decide +kernel, rfl, by decide +kernel, by decide +kernel⟩
theorem sc__law_good : FnScope ["_law_plan", "_law_crowd_here", "_law_places", "_law_ways_here", "_law_kept", "_law_much", "_law_sizes_kept", "_law_total", "_law_row_here", "_law_place"] ["_law_plan", "_law_crowd_here"] (defScope s__law_good) := ⟨rfl, rfl, rfl, by decide +kernel, rfl, by decide +kernel, by decide +kernel⟩
theorem sc__law_alike : FnScope ["_law_plan", "_law_crowd_here", "_law_many", "_law_ways_here", "_law_sets", "_law_k", "_law_kept", "_law_much"] ["_law_plan", "_law_crowd_here", "_law_many"] (defScope s__law_alike) := ⟨rfl, rfl, rfl, by decide +kernel, rfl, by decide +kernel, by decide +kernel⟩
theorem sc_law : FnScope ["_law_script", "_law_crowd_here", "_law_many", "_law_plan"] ["_law_script"] (defScope s_law) := ⟨rfl, rfl, rfl, by decide +kernel, rfl, by decide +kernel, by decide +kernel⟩
/-- what the top has written -/
structure Txt (K : PySem.W.Frag) (mg : Str → Option Value) (base : Heap) : Prop where
  n_bool : mg "bool" = none
  n_int : mg "int" = none
  n_isinstance : mg "isinstance" = none
  n_abs : mg "abs" = none
  m_SpeakError : mg "SpeakError" = some (.ref (cA mg "SpeakError"))
  b_SpeakError : BaseI K (cA mg "SpeakError")
  m_NoPlan : mg "NoPlan" = some (.ref (cA mg "NoPlan"))
  o_NoPlan : OexC K (cA mg "NoPlan")
  na_NoPlan_place : PySem.W.findIn K (.ref (cA mg "NoPlan")) "place" = some none
  n_sorted : mg "sorted" = none
  n_tuple : mg "tuple" = none
  m_Told : mg "Told" = some (.ref (cA mg "Told"))
  k_Told : Cls K (cA mg "Told")
  na_Told_places : NoAttr K (cA mg "Told") "places"
  m_Die : mg "Die" = some (.ref (cA mg "Die"))
  k_Die : Cls K (cA mg "Die")
  na_Die_ways : NoAttr K (cA mg "Die") "ways"
  n_len : mg "len" = none
  n_sum : mg "sum" = none
  n_range : mg "range" = none
  n_list : mg "list" = none
  m_Few : mg "Few" = some (.ref (cA mg "Few"))
  k_Few : Cls K (cA mg "Few")
  na_Few_many : NoAttr K (cA mg "Few") "many"
  n_min : mg "min" = none
  g_MOST_DRAWN : ∃ u, mg "MOST_DRAWN" = some u ∧ RelV (.int 24) u
  n_str : mg "str" = none
  m_Start : mg "Start" = some (.ref (cA mg "Start"))
  k_Start : Cls K (cA mg "Start")
  na_Start_step : NoAttr K (cA mg "Start") "step"
  g_MOST_STEP : ∃ u, mg "MOST_STEP" = some u ∧ RelV (.int 100) u
  n_enumerate : mg "enumerate" = none
  m_Loose : mg "Loose" = some (.ref (cA mg "Loose"))
  k_Loose : Cls K (cA mg "Loose")
  na_Loose_many : NoAttr K (cA mg "Loose") "many"
  n_zip : mg "zip" = none
  n_max : mg "max" = none
  n_set : mg "set" = none
  d_is_whole : DefAt K mg "is_whole" s_is_whole ["thing", "low", "high"]
  d_divisor : DefAt K mg "divisor" s_divisor ["one", "other"]
  d_share : DefAt K mg "share" s_share ["top", "bottom"]
  xi_NoPlan : XIniAt K (cA mg "NoPlan") "NoPlan.__init__" s_NoPlan___init__ ["self", "place"]
  i_Told : InitAt K (cA mg "Told") "Told.__init__" s_Told___init__ ["self", "kept"]
  d_Told_is_told : MethAt K (cA mg "Told") "is_told" "Told.is_told" s_Told_is_told ["self"]
  d_Told_kept : MethAt K (cA mg "Told") "kept" "Told.kept" s_Told_kept ["self"]
  i_Die : InitAt K (cA mg "Die") "Die.__init__" s_Die___init__ ["self", "parts"]
  d_Die_is_told : MethAt K (cA mg "Die") "is_told" "Node.is_told" s_Die_is_told ["self"]
  d_few_node : DefC K mg "few_node" s_few_node ["places", "many", "kept"]
  tb_few_node : TabB base mg (cF K mg "few_node") (pF K mg "few_node")
  hu_few_node : ∀ p ∈ tabsL K mg, p.1 = pF K mg "few_node" → p.2 = "few_node.<locals>.<lambda>"
  d_start_part : DefC K mg "start_part" s_start_part ["places", "step", "at"]
  tb_start_part : TabB base mg (cF K mg "start_part") (pF K mg "start_part")
  hu_start_part : ∀ p ∈ tabsL K mg, p.1 = pF K mg "start_part" → p.2 = "start_part.<locals>.<lambda>"
  d_loose_die : DefC K mg "loose_die" s_loose_die ["places", "shares", "kept"]
  tb_loose_die : TabB base mg (cF K mg "loose_die") (pF K mg "loose_die")
  hu_loose_die : ∀ p ∈ tabsL K mg, p.1 = pF K mg "loose_die" → p.2 = "loose_die.<locals>.<lambda>"
  d_loose_node : DefAt K mg "loose_node" s_loose_node ["places", "shares", "kept"]
  d_Told_sides : MethAt K (cA mg "Told") "sides" "Node.sides" s_Told_sides ["self"]
  d_Told_parts : MethAt K (cA mg "Told") "parts" "Node.parts" s_Told_parts ["self"]
  d_Die_kept : MethAt K (cA mg "Die") "kept" "Node.kept" s_Die_kept ["self"]
  d_Die_sides : MethAt K (cA mg "Die") "sides" "Die.sides" s_Die_sides ["self"]
  d_places_of : DefAt K mg "places_of" s_places_of ["crowd"]
  d__law_cell : DefAt K mg "_law_cell" s__law_cell ["_law_script", "_law_k"]
  d__law_mix : DefAt K mg "_law_mix" s__law_mix ["_law_cell_here", "_law_k"]
  d__law_row : DefAt K mg "_law_row" s__law_row ["_law_cell_here", "_law_bit", "_law_many", "_law_most"]
  d__law_whole : DefAt K mg "_law_whole" s__law_whole ["_law_found"]
  d__law_crowd : DefAt K mg "_law_crowd" s__law_crowd ["_law_script", "_law_start", "_law_most"]
  d_Few_node : MethAt K (cA mg "Few") "node" "Few.node" s_Few_node ["self", "crowd"]
  d_Few_bounds : MethAt K (cA mg "Few") "bounds" "Few.bounds" s_Few_bounds ["self", "crowd"]
  i_Few : InitAt K (cA mg "Few") "Few.__init__" s_Few___init__ ["self", "many"]
  d_Few_chance : MethAt K (cA mg "Few") "chance" "Few.chance" s_Few_chance ["self", "crowd", "one", "other"]
  d_Few_text : MethAt K (cA mg "Few") "text" "Few.text" s_Few_text ["self"]
  d_Few_matrix : MethAt K (cA mg "Few") "matrix" "Plan.matrix" s_Few_matrix ["self", "crowd"]
  d_Start_node : MethAt K (cA mg "Start") "node" "Start.node" s_Start_node ["self", "crowd"]
  i_Start : InitAt K (cA mg "Start") "Start.__init__" s_Start___init__ ["self", "step"]
  d_Start_chance : MethAt K (cA mg "Start") "chance" "Start.chance" s_Start_chance ["self", "crowd", "one", "other"]
  d_Start_matrix : MethAt K (cA mg "Start") "matrix" "Plan.matrix" s_Start_matrix ["self", "crowd"]
  d_Start_bounds : MethAt K (cA mg "Start") "bounds" "Start.bounds" s_Start_bounds ["self", "crowd"]
  d_Start_text : MethAt K (cA mg "Start") "text" "Start.text" s_Start_text ["self"]
  d_size_left : DefAt K mg "size_left" s_size_left ["sizes", "aside"]
  d_wished : DefAt K mg "wished" s_wished ["sizes", "many"]
  d_wished_of : DefAt K mg "wished_of" s_wished_of ["crowd", "many"]
  d_Loose_node : MethAt K (cA mg "Loose") "node" "Loose.node" s_Loose_node ["self", "crowd"]
  i_Loose : InitAt K (cA mg "Loose") "Loose.__init__" s_Loose___init__ ["self", "many"]
  d_Loose_text : MethAt K (cA mg "Loose") "text" "Loose.text" s_Loose_text ["self"]
  d_times : DefAt K mg "times" s_times ["one", "other"]
  d_Loose_matrix : MethAt K (cA mg "Loose") "matrix" "Loose.matrix" s_Loose_matrix ["self", "crowd"]
  d_Loose_bounds : MethAt K (cA mg "Loose") "bounds" "Loose.bounds" s_Loose_bounds ["self", "crowd"]
  d__law_low : DefAt K mg "_law_low" s__law_low ["_law_top", "_law_bottom"]
  d__law_fraction : DefAt K mg "_law_fraction" s__law_fraction ["_law_found", "_law_due"]
  d__law_matrix : DefAt K mg "_law_matrix" s__law_matrix ["_law_found", "_law_due"]
  d__law_plus : DefAt K mg "_law_plus" s__law_plus ["_law_one", "_law_other"]
  d__law_times : DefAt K mg "_law_times" s__law_times ["_law_one", "_law_other"]
  d_Die_parts : MethAt K (cA mg "Die") "parts" "Die.parts" s_Die_parts ["self"]
  d__law_ways : DefAt K mg "_law_ways" s__law_ways ["_law_node", "_law_much"]
  d__law_together : DefAt K mg "_law_together" s__law_together ["_law_ways_here", "_law_places"]
  d__law_good : DefAt K mg "_law_good" s__law_good ["_law_plan", "_law_crowd_here"]
  d__law_alike : DefAt K mg "_law_alike" s__law_alike ["_law_plan", "_law_crowd_here", "_law_many"]
  d_law : DefAt K mg "law" s_law ["_law_script"]
section
variable {P : Program} {w : World} {K : PySem.W.Frag} {mg : Str → Option Value} {base : Heap}
theorem fd_Told_places (T : Txt K mg base) {H : Hp} {a dx : Addr} {fs : List (Str × V)} {v : V} {Q : V → Prop} (h : H a = some (.ins (cA mg "Told") dx fs)) (l : fs.lookup ("places" : Str) = some v) (q : Q v) : ∃ a1 C dx fs v, V.ref a = V.ref a1 ∧ H a1 = some (.ins C dx fs) ∧ Cls K C ∧ NoAttr K C "places" ∧ fs.lookup ("places" : Str) = some v ∧ Q v := L_fldv h T.k_Told T.na_Told_places l q
theorem fg_Told_places {H : Hp} {a : Addr} {Q : V → Prop} (h : ∃ a1 C dx fs v, V.ref a = V.ref a1 ∧ H a1 = some (.ins C dx fs) ∧ Cls K C ∧ NoAttr K C "places" ∧ fs.lookup ("places" : Str) = some v ∧ Q v) : ∃ a1 C dx fs v, V.ref a = V.ref a1 ∧ H a1 = some (.ins C dx fs) ∧ Cls K C ∧ NoAttr K C "places" ∧ fs.lookup ("places" : Str) = some v ∧ Q v := h
local macro_rules | `(tactic| walk_at "fd") => `(tactic| (with_reducible refine fg_Told_places ?_; with_reducible refine fd_Told_places (by assumption) (by walk_at "hp") (by with_unfolding_all rfl) ?_))
theorem fd_Die_ways (T : Txt K mg base) {H : Hp} {a dx : Addr} {fs : List (Str × V)} {v : V} {Q : V → Prop} (h : H a = some (.ins (cA mg "Die") dx fs)) (l : fs.lookup ("ways" : Str) = some v) (q : Q v) : ∃ a1 C dx fs v, V.ref a = V.ref a1 ∧ H a1 = some (.ins C dx fs) ∧ Cls K C ∧ NoAttr K C "ways" ∧ fs.lookup ("ways" : Str) = some v ∧ Q v := L_fldv h T.k_Die T.na_Die_ways l q
theorem fg_Die_ways {H : Hp} {a : Addr} {Q : V → Prop} (h : ∃ a1 C dx fs v, V.ref a = V.ref a1 ∧ H a1 = some (.ins C dx fs) ∧ Cls K C ∧ NoAttr K C "ways" ∧ fs.lookup ("ways" : Str) = some v ∧ Q v) : ∃ a1 C dx fs v, V.ref a = V.ref a1 ∧ H a1 = some (.ins C dx fs) ∧ Cls K C ∧ NoAttr K C "ways" ∧ fs.lookup ("ways" : Str) = some v ∧ Q v := h
local macro_rules | `(tactic| walk_at "fd") => `(tactic| (with_reducible refine fg_Die_ways ?_; with_reducible refine fd_Die_ways (by assumption) (by walk_at "hp") (by with_unfolding_all rfl) ?_))
theorem fd_Few_many (T : Txt K mg base) {H : Hp} {a dx : Addr} {fs : List (Str × V)} {v : V} {Q : V → Prop} (h : H a = some (.ins (cA mg "Few") dx fs)) (l : fs.lookup ("many" : Str) = some v) (q : Q v) : ∃ a1 C dx fs v, V.ref a = V.ref a1 ∧ H a1 = some (.ins C dx fs) ∧ Cls K C ∧ NoAttr K C "many" ∧ fs.lookup ("many" : Str) = some v ∧ Q v := L_fldv h T.k_Few T.na_Few_many l q
theorem fg_Few_many {H : Hp} {a : Addr} {Q : V → Prop} (h : ∃ a1 C dx fs v, V.ref a = V.ref a1 ∧ H a1 = some (.ins C dx fs) ∧ Cls K C ∧ NoAttr K C "many" ∧ fs.lookup ("many" : Str) = some v ∧ Q v) : ∃ a1 C dx fs v, V.ref a = V.ref a1 ∧ H a1 = some (.ins C dx fs) ∧ Cls K C ∧ NoAttr K C "many" ∧ fs.lookup ("many" : Str) = some v ∧ Q v := h
local macro_rules | `(tactic| walk_at "fd") => `(tactic| (with_reducible refine fg_Few_many ?_; with_reducible refine fd_Few_many (by assumption) (by walk_at "hp") (by with_unfolding_all rfl) ?_))
theorem fd_Start_step (T : Txt K mg base) {H : Hp} {a dx : Addr} {fs : List (Str × V)} {v : V} {Q : V → Prop} (h : H a = some (.ins (cA mg "Start") dx fs)) (l : fs.lookup ("step" : Str) = some v) (q : Q v) : ∃ a1 C dx fs v, V.ref a = V.ref a1 ∧ H a1 = some (.ins C dx fs) ∧ Cls K C ∧ NoAttr K C "step" ∧ fs.lookup ("step" : Str) = some v ∧ Q v := L_fldv h T.k_Start T.na_Start_step l q
theorem fg_Start_step {H : Hp} {a : Addr} {Q : V → Prop} (h : ∃ a1 C dx fs v, V.ref a = V.ref a1 ∧ H a1 = some (.ins C dx fs) ∧ Cls K C ∧ NoAttr K C "step" ∧ fs.lookup ("step" : Str) = some v ∧ Q v) : ∃ a1 C dx fs v, V.ref a = V.ref a1 ∧ H a1 = some (.ins C dx fs) ∧ Cls K C ∧ NoAttr K C "step" ∧ fs.lookup ("step" : Str) = some v ∧ Q v := h
local macro_rules | `(tactic| walk_at "fd") => `(tactic| (with_reducible refine fg_Start_step ?_; with_reducible refine fd_Start_step (by assumption) (by walk_at "hp") (by with_unfolding_all rfl) ?_))
theorem fd_Loose_many (T : Txt K mg base) {H : Hp} {a dx : Addr} {fs : List (Str × V)} {v : V} {Q : V → Prop} (h : H a = some (.ins (cA mg "Loose") dx fs)) (l : fs.lookup ("many" : Str) = some v) (q : Q v) : ∃ a1 C dx fs v, V.ref a = V.ref a1 ∧ H a1 = some (.ins C dx fs) ∧ Cls K C ∧ NoAttr K C "many" ∧ fs.lookup ("many" : Str) = some v ∧ Q v := L_fldv h T.k_Loose T.na_Loose_many l q
theorem fg_Loose_many {H : Hp} {a : Addr} {Q : V → Prop} (h : ∃ a1 C dx fs v, V.ref a = V.ref a1 ∧ H a1 = some (.ins C dx fs) ∧ Cls K C ∧ NoAttr K C "many" ∧ fs.lookup ("many" : Str) = some v ∧ Q v) : ∃ a1 C dx fs v, V.ref a = V.ref a1 ∧ H a1 = some (.ins C dx fs) ∧ Cls K C ∧ NoAttr K C "many" ∧ fs.lookup ("many" : Str) = some v ∧ Q v := h
local macro_rules | `(tactic| walk_at "fd") => `(tactic| (with_reducible refine fg_Loose_many ?_; with_reducible refine fd_Loose_many (by assumption) (by walk_at "hp") (by with_unfolding_all rfl) ?_))
def sp_is_whole (K : PySem.W.Frag) (mg : Str → Option Value) : Sp := fun vs H Q _ => match vs with | [v, .int lo, .int hi] => (∃ t, v = .int t ∧ Q (.bl (decide (lo ≤ t) && decide (t ≤ hi))) H) ∨ (NotW K H v ∧ Q (.bl false) H) | _ => False
theorem c_is_whole (T : Txt K mg base) : Cal P w K mg base 1 "is_whole" (sp_is_whole K mg) := by
  refine T.d_is_whole.cal (k := 0) sc_is_whole (by intro vs H Q E h; unfold sp_is_whole at h; split at h <;> first | rfl | exact h.elim) fun f cdv A outer s H vs Q E hr h => ?_
  refine ⟨_, (pss_cons (ps_if (PW.pt (pw_or (pt_not (pt_val (pe_callB call_isi (by rfl) T.n_isinstance (by decide +kernel) (pa_cons (pv 0) (pa_cons (pe_ty "int" (by rfl) T.n_int (by decide +kernel)) pa_nil))))) (pw_or1 (pt_val (pe_callB call_isi (by rfl) T.n_isinstance (by decide +kernel) (pa_cons (pv 0) (pa_cons (pe_ty "bool" (by rfl) T.n_bool (by decide +kernel)) pa_nil)))))))
    (pss_one (ps_ret pe_bl))
    pss_nil)
    (pss_one (ps_ret (pe_chain op_leA op_leA (pv 1) (pv 0) (pv 2))))), ?_⟩
  try simp only [cxOf_K, cxOf_K', cxOf_mg, cxOf_mg']
  unfold sp_is_whole at h
  split at h
  case h_2 => exact h.elim
  rename_i v lo hi
  rw [show L2.start ["thing", "low", "high"] [v, V.int lo, V.int hi] = [some (v), some (V.int lo), some (V.int hi)] from rfl]
  rcases h with ⟨t, rfl, q⟩ | ⟨⟨b, rfl⟩ | ⟨ty, h1, h2⟩, q⟩
  · walk_at "sa"
    refine L_d (fun c1 => ?_) (fun c1 => ?_)
    · rw [decide_eq_true c1, Bool.true_and] at q
      walk_at "sts"
      exact q
    · rw [decide_eq_false c1, Bool.false_and] at q
      exact q
  · walk_at "sts"
    refine L_isi (.base (.bl b)) (b := true) (by decide +kernel) ?_
    walk_at "sts"
    refine L_isi (.base (.bl b)) (b := true) (by decide +kernel) ?_
    walk_at "sts"
    exact q
  · walk_at "sts"
    refine L_isi h1 h2 ?_
    walk_at "sts"
    exact q
theorem q_whole {H : Hp} {Q : VK} {E : XK} {t lo hi : Int} (q : Q (.bl (decide (lo ≤ t) && decide (t ≤ hi))) H) : sp_is_whole K mg [.int t, .int lo, .int hi] H Q E := .inl ⟨t, rfl, q⟩
theorem q_wholeT {H : Hp} {Q : VK} {E : XK} {t lo hi : Int} (h : lo ≤ t ∧ t ≤ hi) (q : Q (.bl true) H) : sp_is_whole K mg [.int t, .int lo, .int hi] H Q E := q_whole (by rw [decide_eq_true h.1, decide_eq_true h.2]; exact q)
theorem q_wholeF {H : Hp} {Q : VK} {E : XK} {t lo hi : Int} (h : ¬ (lo ≤ t ∧ t ≤ hi)) (q : Q (.bl false) H) : sp_is_whole K mg [.int t, .int lo, .int hi] H Q E := q_whole (by
  rw [show (decide (lo ≤ t) && decide (t ≤ hi)) = false by simp only [Bool.and_eq_false_iff, decide_eq_false_iff_not]; omega]; exact q)
theorem q_wholeN {H : Hp} {Q : VK} {E : XK} {v : V} {lo hi : Int} (h : NotW K H v) (q : Q (.bl false) H) : sp_is_whole K mg [v, .int lo, .int hi] H Q E := .inr ⟨h, q⟩
theorem q_wholeB {H : Hp} {Q : VK} {E : XK} {v : V} {lo hi : Int} (h : BadW K H v lo hi) (q : Q (.bl false) H) : sp_is_whole K mg [v, .int lo, .int hi] H Q E := by
  rcases h with h | ⟨t, rfl, h⟩
  · exact q_wholeN h q
  · exact q_wholeF h q
theorem q_wholeG {H : Hp} {Q : VK} {E : XK} {t lo hi : Int} (h : sp_is_whole K mg [.int t, .int lo, .int hi] H Q E) : sp_is_whole K mg [.int t, .int lo, .int hi] H Q E := h
local macro_rules | `(tactic| walk_at "op") => `(tactic| with_reducible (refine q_wholeG ?_; first | refine q_wholeT (by omega) ?_ | refine q_wholeF (by omega) ?_ | refine q_whole ?_))
def gc (a b : Int) : Int := (Int.gcd a b : Nat)
theorem gc_step {a b : Int} (h : 0 < b) : gc b (a % b) = gc a b := by
  have e : Int.gcd (a % b) b = Int.gcd a b := by
    refine Int.gcd_left_eq_iff.mpr fun c hc => ?_
    have d : c ∣ b * (a / b) := Int.dvd_trans hc (Int.dvd_mul_right b (a / b))
    have e2 : a % b + b * (a / b) = a := Int.emod_add_mul_ediv a b
    constructor
    · intro h; rw [← e2]; exact Int.dvd_add h d
    · intro h
      have : a % b = a - b * (a / b) := by omega
      rw [this]; exact Int.dvd_sub h d
  unfold gc
  rw [Int.gcd_comm, e]
theorem gc_zero {a : Int} : (if a < 0 then -a else a) = gc a 0 := by
  unfold gc
  rw [Int.gcd_zero_right]
  omega
theorem gc_pos {a b : Int} (h : 0 < b) : 0 < gc a b := by
  unfold gc
  have : 0 < Int.gcd a b := Int.gcd_pos_of_ne_zero_right a (by omega)
  omega
theorem gc_le {a b : Int} (h : 0 < b) : gc a b ≤ b := Int.gcd_le_right a h
theorem gc_dl {a b : Int} : gc a b ∣ a := Int.gcd_dvd_left ..
theorem gc_dr {a b : Int} : gc a b ∣ b := Int.gcd_dvd_right ..
/-- lowest terms, for a bottom from 1 on -/
def low (t b : Int) : Int × Int := (t / gc t b, b / gc t b)
theorem low_pos {t b : Int} (h : 0 < b) : 1 ≤ (low t b).2 := by
  have g := gc_pos (a := t) h
  have := Int.ediv_pos_of_pos_of_dvd h (Int.le_of_lt g) (gc_dr (a := t) (b := b))
  show 1 ≤ b / gc t b
  omega
theorem low_gc {t b : Int} (h : 0 < b) : gc (low t b).1 (low t b).2 = 1 := by
  have g := gc_pos (a := t) h
  unfold low gc
  have hh : 0 < Int.gcd t b := Int.gcd_pos_of_ne_zero_right t (by omega)
  have := Int.gcd_ediv_gcd_ediv_gcd (i := t) (j := b) hh
  show ((Int.gcd (t / (Int.gcd t b : Nat)) (b / (Int.gcd t b : Nat)) : Nat) : Int) = 1
  rw [this]; rfl
theorem low_eq {t b : Int} (h : 0 < b) : (low t b).1 * b = t * (low t b).2 := by
  have g := gc_pos (a := t) h
  obtain ⟨u, hu⟩ := gc_dl (a := t) (b := b)
  obtain ⟨v, hv⟩ := gc_dr (a := t) (b := b)
  have e1 : t / gc t b = u := Int.ediv_eq_of_eq_mul_right (by omega) hu
  have e2 : b / gc t b = v := Int.ediv_eq_of_eq_mul_right (by omega) hv
  show t / gc t b * b = t * (b / gc t b)
  rw [e1, e2]
  calc u * b = u * (gc t b * v) := by rw [← hv]
    _ = (gc t b * u) * v := by rw [← Int.mul_assoc, Int.mul_comm u]
    _ = t * v := by rw [← hu]
theorem low_bd {n : Nat} {t b : Int} (h : 0 < b) (ht : Bd n t) (hb : Bd n b) : Bd n (low t b).1 ∧ Bd n (low t b).2 := by
  have g := gc_pos (a := t) h
  constructor
  · exact Nat.lt_of_le_of_lt (Int.natAbs_ediv_le_natAbs t _) ht
  · exact Nat.lt_of_le_of_lt (Int.natAbs_ediv_le_natAbs b _) hb
/-- what share tells -/
def shr (t b : Int) : Int × Int := if b < 0 then low (0 - t) (0 - b) else low t b
theorem shr_ok {t b : Int} (h : b ≠ 0) : 1 ≤ (shr t b).2 ∧ gc (shr t b).1 (shr t b).2 = 1 ∧ (shr t b).1 * b = t * (shr t b).2 := by
  unfold shr
  split
  · have hb : 0 < 0 - b := by omega
    refine ⟨low_pos hb, low_gc hb, ?_⟩
    have e := low_eq (t := 0 - t) hb
    rw [Int.mul_sub, Int.mul_zero, Int.sub_mul, Int.zero_mul] at e
    omega
  · have hb : 0 < b := by omega
    exact ⟨low_pos hb, low_gc hb, low_eq hb⟩
theorem shr_bd {n : Nat} {t b : Int} (h : b ≠ 0) (ht : Bd n t) (hb : Bd n b) : Bd n (shr t b).1 ∧ Bd n (shr t b).2 := by
  have e : ∀ z : Int, 0 - z = -z := fun z => by omega
  unfold shr
  split
  · rw [e, e]; exact low_bd (by omega) ht.neg hb.neg
  · exact low_bd (by omega) ht hb
theorem across {p q t b x y : Int} (hb : b ≠ 0) (e : p * b = t * q) (d : t * y = x * b) : p * y = x * q := by
  refine Int.eq_of_mul_eq_mul_right hb ?_
  calc p * y * b = (p * b) * y := by rw [Int.mul_assoc, Int.mul_comm y b, Int.mul_assoc]
    _ = (t * y) * q := by rw [e, Int.mul_assoc, Int.mul_comm q y, ← Int.mul_assoc]
    _ = x * q * b := by rw [d, Int.mul_assoc, Int.mul_comm b q, ← Int.mul_assoc]
def sp_divisor (K : PySem.W.Frag) (mg : Str → Option Value) : Sp := fun vs H Q _ => match vs with | [.int a, .int b] => 0 ≤ b ∧ Q (.int (gc a b)) H | _ => False
theorem q_divisor {H : Hp} {Q : VK} {E : XK} {a : Int} {b : Int} (q : 0 ≤ b ∧ Q (.int (gc a b)) H) : sp_divisor K mg [.int a, .int b] H Q E := q
local macro_rules | `(tactic| walk_at "op") => `(tactic| with_reducible refine q_divisor ?_)
theorem c_divisor (T : Txt K mg base) : Cal P w K mg base 1 "divisor" (sp_divisor K mg) := by
  refine T.d_divisor.cal (k := 0) sc_divisor (by intro vs H Q E h; unfold sp_divisor at h; split at h <;> first | rfl | exact h.elim) fun f cdv A outer s H vs Q E hr h => ?_
  refine ⟨_, (pss_cons (ps_while PassesOwn.never (pt_cmpR (op_neA hr) (pv 1) pe_int (nomark _))
    (pss_one (ps_par (i := 0) (j := 1) rfl sc_divisor.nd rfl rfl (by decide) rfl rfl (pa_cons (pv 1) (pa_cons (pe_op op_mod (pv 0) (pv 1)) pa_nil)) (by rfl))))
    (pss_one (ps_ret (pe_callB call_absA (by rfl) T.n_abs (by decide +kernel) (pa_cons (pv 0) pa_nil))))), ?_⟩
  try simp only [cxOf_K, cxOf_K', cxOf_mg, cxOf_mg']
  unfold sp_divisor at h
  split at h
  case h_2 => exact h.elim
  rename_i a b
  rw [show L2.start ["one", "other"] [V.int a, V.int b] = [some (V.int a), some (V.int b)] from rfl]
  obtain ⟨hb, q⟩ := h
  walk_at "sts"
  refine L_while (fun m σ' H' => ∃ x y : Int, σ' = [some (.int x), some (.int y)] ∧ 0 ≤ y ∧ gc x y = gc a b ∧ m = y.toNat ∧ H' = H) ⟨_, a, b, rfl, hb, rfl, rfl, rfl⟩ ?_
  rintro m σ' H' ⟨x, y, rfl, hy, e, rfl, rfl⟩
  walk_at "sts"
  refine L_nd (fun c => ?_) (fun c => ?_)
  · refine L_N ?_
    walk_at "sts"
    refine L_I (by omega) ?_
    walk_at "sts"
    have h1 := Int.emod_nonneg x c
    have h2 := Int.emod_lt_of_pos x (show 0 < y by omega)
    exact ⟨(x % y).toNat, by omega, y, x % y, rfl, h1, (gc_step (by omega)).trans e, rfl, rfl⟩
  · subst c
    walk_at "sts"
    rw [gc_zero, e]
    exact q
def sp_share (K : PySem.W.Frag) (mg : Str → Option Value) : Sp := fun vs H Q _ => match vs with | [.int t, .int b] => b ≠ 0 ∧ Bd 2000 b ∧ NewT H [.int (shr t b).1, .int (shr t b).2] Q | _ => False
theorem q_share {H : Hp} {Q : VK} {E : XK} {t : Int} {b : Int} (q : b ≠ 0 ∧ Bd 2000 b ∧ NewT H [.int (shr t b).1, .int (shr t b).2] Q) : sp_share K mg [.int t, .int b] H Q E := q
local macro_rules | `(tactic| walk_at "op") => `(tactic| with_reducible refine q_share ?_)
theorem c_share (T : Txt K mg base) : Cal P w K mg base 2 "share" (sp_share K mg) := by
  refine T.d_share.cal (k := 1) sc_share (by intro vs H Q E h; unfold sp_share at h; split at h <;> first | rfl | exact h.elim) fun f cdv A outer s H vs Q E hr h => ?_
  refine ⟨_, (pss_cons (ps_if (pt_cmpR op_ltA (pv 1) pe_int (nomark _))
    (pss_one (ps_par (i := 0) (j := 1) rfl sc_share.nd rfl rfl (by decide) rfl rfl (pa_cons (pe_op op_sub pe_int (pv 0)) (pa_cons (pe_op op_sub pe_int (pv 1)) pa_nil)) (by rfl)))
    pss_nil)
    (pss_cons (ps_set (i := 2) sc_share.nd rfl (.inl rfl) (pe_c (c_divisor T) hr (by decide) (by rfl) (pa_cons (pv 0) (pa_cons (pv 1) pa_nil))))
    (pss_one (ps_ret (pe_tup (pa_cons (pe_op op_fdivW (pv 0) (pv 2)) (pa_cons (pe_op op_fdivW (pv 1) (pv 2)) pa_nil))))))), ?_⟩
  try simp only [cxOf_K, cxOf_K', cxOf_mg, cxOf_mg']
  unfold sp_share at h
  split at h
  case h_2 => exact h.elim
  rename_i t b
  rw [show L2.start ["top", "bottom", "many"] [V.int t, V.int b] = [some (V.int t), some (V.int b), none] from rfl]
  obtain ⟨hb, hd, q⟩ := h
  have key : ∀ t' b' : Int, 0 < b' → Bd 2000 b' → low t' b' = shr t b → t / 1 = t → CDivW t' (gc t' b') := fun t' b' h0 h1 _ _ => by
    have g := gc_pos (a := t') h0
    have l := gc_le (a := t') h0
    refine Bd.cdiv (n := 2000) ?_ g
    unfold Bd at *
    omega
  walk_at "sts"
  refine L_d (fun c => ?_) (fun c => ?_)
  · walk_at "sts"
    have e : shr t b = low (0 - t) (0 - b) := if_pos c
    have hd' : Bd 2000 (0 - b) := by unfold Bd at *; omega
    refine ⟨by omega, ?_⟩
    walk_at "sts"
    refine L_I (key _ _ (by omega) hd' e.symm (by simp)) ?_
    walk_at "sts"
    refine L_I (key (0 - t) _ (by omega) hd' e.symm (by simp)) ?_
    walk_at "sts"
    rw [e] at q
    exact L_new (sz_dec (by show 2 ≤ 1000000; decide)) q.at
  · walk_at "sts"
    have e : shr t b = low t b := if_neg c
    refine ⟨by omega, ?_⟩
    walk_at "sts"
    refine L_I (key _ _ (by omega) hd e.symm (by simp)) ?_
    walk_at "sts"
    refine L_I (key t _ (by omega) hd e.symm (by simp)) ?_
    walk_at "sts"
    rw [e] at q
    exact L_new (sz_dec (by show 2 ≤ 1000000; decide)) q.at
/-- lowest terms are one -/
theorem cop_dvd {p q r s : Int} (g : gc p q = 1) (e : p * s = r * q) : q ∣ s := by
  have c1 : Int.gcd p q = 1 := Int.ofNat.inj g
  have h : q.natAbs ∣ p.natAbs * s.natAbs := by
    rw [← Int.natAbs_mul, e, Int.natAbs_mul]
    exact Nat.dvd_mul_left _ _
  have c : Nat.Coprime q.natAbs p.natAbs := by
    rw [Nat.coprime_comm]
    exact c1
  exact Int.natAbs_dvd_natAbs.mp (c.dvd_of_dvd_mul_left h)
theorem cop_uniq {p q r s : Int} (hq : 0 < q) (hs : 0 < s) (g1 : gc p q = 1) (g2 : gc r s = 1) (e : p * s = r * q) : p = r ∧ q = s := by
  have l1 := Int.le_of_dvd hs (cop_dvd g1 e)
  have l2 := Int.le_of_dvd hq (cop_dvd g2 e.symm)
  have : q = s := by omega
  subst this
  exact ⟨Int.eq_of_mul_eq_mul_right (by omega) e, rfl⟩
theorem low_uniq {a b c d : Int} (hb : 0 < b) (hd : 0 < d) (e : a * d = c * b) : low a b = low c d := by
  have p1 := low_pos (t := a) hb
  have p2 := low_pos (t := c) hd
  have e1 := low_eq (t := a) hb
  have e2 := low_eq (t := c) hd
  have key : (low a b).1 * (low c d).2 = (low c d).1 * (low a b).2 := by
    have hbd : b * d ≠ 0 := Int.mul_ne_zero (by omega) (by omega)
    refine Int.eq_of_mul_eq_mul_right hbd ?_
    calc (low a b).1 * (low c d).2 * (b * d) = ((low a b).1 * b) * ((low c d).2 * d) := by simp only [Int.mul_comm, Int.mul_left_comm, Int.mul_assoc]
      _ = (a * (low a b).2) * ((low c d).2 * d) := by rw [e1]
      _ = (a * d) * ((low a b).2 * (low c d).2) := by simp only [Int.mul_comm, Int.mul_left_comm, Int.mul_assoc]
      _ = (c * b) * ((low a b).2 * (low c d).2) := by rw [e]
      _ = (c * (low c d).2) * ((low a b).2 * b) := by simp only [Int.mul_comm, Int.mul_left_comm, Int.mul_assoc]
      _ = ((low c d).1 * d) * ((low a b).2 * b) := by rw [e2]
      _ = (low c d).1 * (low a b).2 * (b * d) := by simp only [Int.mul_comm, Int.mul_left_comm, Int.mul_assoc]
  obtain ⟨h1, h2⟩ := cop_uniq (by omega) (by omega) (low_gc hb) (low_gc hd) key
  exact Prod.ext h1 h2
theorem shr_low {t b : Int} (h : 0 < b) : shr t b = low t b := if_neg (by omega)
theorem low_at {x y a L : Int} (hL : 0 < L) (hy : 0 < y) (e : x * L = a * y) : low x y = low a L := low_uniq hy hL e
theorem low_add {a b L : Int} (hL : 0 < L) : shr ((low a L).1 * (low b L).2 + (low b L).1 * (low a L).2) ((low a L).2 * (low b L).2) = low (a + b) L := by
  have p1 := low_pos (t := a) hL
  have p2 := low_pos (t := b) hL
  have e1 := low_eq (t := a) hL
  have e2 := low_eq (t := b) hL
  have hp : 0 < (low a L).2 * (low b L).2 := Int.mul_pos (by omega) (by omega)
  rw [shr_low hp]
  refine low_uniq hp hL ?_
  rw [Int.add_mul, Int.add_mul, show (low a L).1 * (low b L).2 * L = ((low a L).1 * L) * (low b L).2 by simp only [Int.mul_comm, Int.mul_left_comm, Int.mul_assoc], e1, show (low b L).1 * (low a L).2 * L = ((low b L).1 * L) * (low a L).2 by simp only [Int.mul_comm, Int.mul_left_comm, Int.mul_assoc], e2]
  simp only [Int.mul_comm, Int.mul_left_comm, Int.mul_assoc]
theorem low_sub1 {a L : Int} (hL : 0 < L) : shr ((low a L).1 * 1 - 1 * (low a L).2) ((low a L).2 * 1) = low (a - L) L := by
  have p1 := low_pos (t := a) hL
  have e1 := low_eq (t := a) hL
  rw [Int.mul_one, Int.mul_one, Int.one_mul, shr_low (by omega)]
  refine low_uniq (by omega) hL ?_
  rw [Int.sub_mul, e1, Int.sub_mul, Int.mul_comm L]
theorem low_lt1 {a L : Int} (hL : 0 < L) : ((low a L).1 * 1 < 1 * (low a L).2) ↔ a < L := by
  have p1 := low_pos (t := a) hL
  have e1 := low_eq (t := a) hL
  rw [Int.mul_one, Int.one_mul]
  constructor
  · intro h
    have h2 : (low a L).1 * L < (low a L).2 * L := Int.mul_lt_mul_of_pos_right h hL
    rw [e1, Int.mul_comm] at h2
    exact Int.lt_of_mul_lt_mul_left h2 (by omega)
  · intro h
    have h2 : (low a L).2 * a < (low a L).2 * L := Int.mul_lt_mul_of_pos_left h (by omega)
    rw [Int.mul_comm, ← e1] at h2
    exact Int.lt_of_mul_lt_mul_right h2 (by omega)
theorem low_zero {a L : Int} (hL : 0 < L) : low a L = (0, 1) ↔ a = 0 := by
  constructor
  · intro h
    have e1 := low_eq (t := a) hL
    rw [h] at e1
    simpa using e1.symm
  · rintro rfl
    have e : low 0 L = low 0 1 := low_uniq hL (by decide) (by simp)
    rw [e]
    rfl
theorem low_one {a L : Int} (hL : 0 < L) : low a L = (1, 1) ↔ a = L := by
  constructor
  · intro h
    have e1 := low_eq (t := a) hL
    rw [h] at e1
    simpa using e1.symm
  · rintro rfl
    have e : low a a = low 1 1 := low_uniq hL (by decide) (by simp)
    rw [e]
    rfl
theorem low_opn {a L : Int} (hL : 0 < L) : (0 < (low a L).1 ∧ (low a L).1 < (low a L).2) ↔ (0 < a ∧ a < L) := by
  have p1 := low_pos (t := a) hL
  have e1 := low_eq (t := a) hL
  have h2 := low_lt1 (a := a) hL
  rw [Int.mul_one, Int.one_mul] at h2
  rw [h2]
  have : 0 < (low a L).1 ↔ 0 < a := by
    constructor
    · intro h
      have h3 : 0 < (low a L).1 * L := Int.mul_pos h hL
      rw [e1] at h3
      exact Int.pos_of_mul_pos_left h3 (by omega)
    · intro h
      have h3 : 0 < a * (low a L).2 := Int.mul_pos h (by omega)
      rw [← e1] at h3
      exact Int.pos_of_mul_pos_left h3 (by omega)
  rw [this]
theorem low_dvd {a L : Int} (hL : 0 < L) : (low a L).2 ≤ L := by
  have g := gc_pos (a := a) hL
  show L / gc a L ≤ L
  exact Int.ediv_le_self _ (by omega)
theorem low_bL {a L : Int} (hL : 0 < L) (h : L ≤ 1000000000) (ha : -1000000000000 ≤ a ∧ a ≤ 1000000000000) : 1 ≤ (low a L).2 ∧ Bd 64 (low a L).1 ∧ Bd 64 (low a L).2 := ⟨low_pos hL, low_bd hL (bd_64 (by omega)) (bd_64 (by omega))⟩
def sp_NoPlan___init__ (K : PySem.W.Frag) (mg : Str → Option Value) : Sp := fun vs H Q _ => match vs with | [.ref a, v] => XIni1 (cA mg "NoPlan") "place" a v H Q | _ => False
theorem q_NoPlan___init__ {H : Hp} {Q : VK} {E : XK} {a : Addr} {v : V} (q : XIni1 (cA mg "NoPlan") "place" a v H Q) : sp_NoPlan___init__ K mg [.ref a, v] H Q E := q
local macro_rules | `(tactic| walk_at "op") => `(tactic| with_reducible refine q_NoPlan___init__ ?_)
theorem x_NoPlan (T : Txt K mg base) : XMak P w K mg base 1 "NoPlan" (cA mg "NoPlan") (sp_NoPlan___init__ K mg) := by
  refine XIniAt.xmak T.m_NoPlan T.xi_NoPlan (k := 0) sc_NoPlan___init__ (by intro vs H Q E h; unfold sp_NoPlan___init__ at h; split at h <;> first | rfl | exact h.elim) fun f cdv A outer s H vs Q E hr h => ?_
  refine ⟨_, (pss_cons (ps_expr (pe_baseI (by rfl) T.m_SpeakError T.b_SpeakError (pa_cons (pv 0) (pa_cons pe_str pa_nil))))
    (pss_one (ps_ost (pv 0) (pv 1) rfl))), ?_⟩
  try simp only [cxOf_K, cxOf_K', cxOf_mg, cxOf_mg']
  unfold sp_NoPlan___init__ at h
  split at h
  case h_2 => exact h.elim
  rename_i a v
  rw [show L2.start ["self", "place"] [V.ref a, v] = [some (V.ref a), some (v)] from rfl]
  obtain ⟨ha, q⟩ := h
  walk_at "sts"
  refine L_tveI ?_
  walk_at "sts"
  refine L_veI T.o_NoPlan ha (by rw [List.length_singleton]; decide) ?_
  walk_at "sts"
  refine L_ost ?_
  walk_at "sts"
  refine L_ost1 T.o_NoPlan T.na_NoPlan_place ha fun dx nx ne => ?_
  exact q dx nx ne
def srtI (l : List Int) : List Int := l.mergeSort fun a b => decide (a ≤ b)
theorem srtI_eq {l m : List Int} (h1 : m.Perm l) (h2 : m.Pairwise (· ≤ ·)) : m = srtI l := by
  have e1 : (srtI l).Perm l := List.mergeSort_perm l _
  have e2 : (srtI l).Pairwise (· ≤ ·) := (List.pairwise_mergeSort (le := fun a b : Int => decide (a ≤ b)) (fun a b c h1 h2 => by simp only [decide_eq_true_eq] at *; omega) (fun a b => by simp only [Bool.or_eq_true, decide_eq_true_eq]; omega) l).imp fun h => by simpa using h
  exact List.Perm.eq_of_pairwise (le := (· ≤ ·)) (fun a b _ _ h3 h4 => Int.le_antisymm h3 h4) h2 e2 (h1.trans e1.symm)
theorem srtI_len (l : List Int) : (srtI l).length = l.length := (List.mergeSort_perm l _).length_eq
def sp_Told___init__ (K : PySem.W.Frag) (mg : Str → Option Value) : Sp := fun vs H Q _ => match vs with | [.ref x, .ref k] => ∃ dx ks, H x = some (.ins (cA mg "Told") dx []) ∧ SqL K H k (ks.map V.int) ∧ ks.length < 64 ∧ ∀ p H', (∀ b o, H b = some o → b ≠ x → H' b = some o) → H' x = some (.ins (cA mg "Told") dx [("places", .ref p)]) → H' p = some (.tup ((srtI ks).map V.int)) → Q .non H' | _ => False
theorem q_Told___init__ {H : Hp} {Q : VK} {E : XK} {x : Addr} {k : Addr} (q : ∃ dx ks, H x = some (.ins (cA mg "Told") dx []) ∧ SqL K H k (ks.map V.int) ∧ ks.length < 64 ∧ ∀ p H', (∀ b o, H b = some o → b ≠ x → H' b = some o) → H' x = some (.ins (cA mg "Told") dx [("places", .ref p)]) → H' p = some (.tup ((srtI ks).map V.int)) → Q .non H') : sp_Told___init__ K mg [.ref x, .ref k] H Q E := q
local macro_rules | `(tactic| walk_at "op") => `(tactic| with_reducible refine q_Told___init__ ?_)
theorem m_Told (T : Txt K mg base) : Mak P w K mg base 1 "Told" (cA mg "Told") (sp_Told___init__ K mg) := by
  refine InitAt.mak T.m_Told T.i_Told (k := 0) sc_Told___init__ (by intro vs H Q E h; unfold sp_Told___init__ at h; split at h <;> first | rfl | exact h.elim) fun f cdv A outer s H vs Q E hr h => ?_
  refine ⟨_, (pss_one (ps_fld (pv 0) (pe_callTy call_tuple1A (by rfl) T.n_tuple (by decide +kernel) (pa_cons (pe_callB cr_sorted (by rfl) T.n_sorted (by decide +kernel) (pa_cons (pv 1) pa_nil)) pa_nil)) rfl)), ?_⟩
  try simp only [cxOf_K, cxOf_K', cxOf_mg, cxOf_mg']
  unfold sp_Told___init__ at h
  split at h
  case h_2 => exact h.elim
  rename_i x k
  rw [show L2.start ["self", "kept"] [V.ref x, V.ref k] = [some (V.ref x), some (V.ref k)] from rfl]
  obtain ⟨dx, ks, hx, hS, hl, q⟩ := h
  walk_at "sts"
  refine ⟨k, ks, rfl, hS, hl, fun ns p hp hs hn => ?_⟩
  cases srtI_eq hp hs
  walk_at "sts"
  refine L_tuple1 (.of upd_same) fun l hl => ?_
  have s1 := same_new (o := .lst ((srtI ks).map V.int)) hn
  have s2 := s1.trans (same_new (o := .tup ((srtI ks).map V.int)) hl)
  walk_at "sts"
  refine L_sFldv (s2 _ _ hx) T.k_Told T.na_Told_places (by decide) ?_
  have nl : l ≠ x := fun z => by rw [z] at hl; rw [s1 _ _ hx] at hl; cases hl
  exact q l _ (fun b o hb ne => by rw [upd_ne ne]; exact s2 _ _ hb) upd_same (by rw [upd_ne nl]; exact upd_same)
def sp_Told_is_told (K : PySem.W.Frag) (mg : Str → Option Value) : Sp := fun vs H Q _ => match vs with | [.ref a] => Q (.bl true) H | _ => False
theorem q_Told_is_told {H : Hp} {Q : VK} {E : XK} {a : Addr} (q : Q (.bl true) H) : sp_Told_is_told K mg [.ref a] H Q E := q
local macro_rules | `(tactic| walk_at "op") => `(tactic| with_reducible refine q_Told_is_told ?_)
theorem c_Told_is_told (T : Txt K mg base) : Met P w K mg base 1 (cA mg "Told") "is_told" (sp_Told_is_told K mg) := by
  refine MethAt.met T.k_Told T.d_Told_is_told (k := 0) sc_Told_is_told (by intro vs H Q E h; unfold sp_Told_is_told at h; split at h <;> first | rfl | exact h.elim) fun f cdv A outer s H vs Q E hr h => ?_
  refine ⟨_, (pss_one (ps_ret pe_bl)), ?_⟩
  try simp only [cxOf_K, cxOf_K', cxOf_mg, cxOf_mg']
  unfold sp_Told_is_told at h
  split at h
  case h_2 => exact h.elim
  rename_i a
  rw [show L2.start ["self"] [V.ref a] = [some (V.ref a)] from rfl]
  walk_at "sts"
  exact h
def sp_Told_kept (K : PySem.W.Frag) (mg : Str → Option Value) : Sp := fun vs H Q _ => match vs with | [.ref a] => ∃ dx p, H a = some (.ins (cA mg "Told") dx [("places", .ref p)]) ∧ Q (.ref p) H | _ => False
theorem q_Told_kept {H : Hp} {Q : VK} {E : XK} {a : Addr} (q : ∃ dx p, H a = some (.ins (cA mg "Told") dx [("places", .ref p)]) ∧ Q (.ref p) H) : sp_Told_kept K mg [.ref a] H Q E := q
local macro_rules | `(tactic| walk_at "op") => `(tactic| with_reducible refine q_Told_kept ?_)
theorem c_Told_kept (T : Txt K mg base) : Met P w K mg base 1 (cA mg "Told") "kept" (sp_Told_kept K mg) := by
  refine MethAt.met T.k_Told T.d_Told_kept (k := 0) sc_Told_kept (by intro vs H Q E h; unfold sp_Told_kept at h; split at h <;> first | rfl | exact h.elim) fun f cdv A outer s H vs Q E hr h => ?_
  refine ⟨_, (pss_one (ps_ret (pe_fld (pv 0) rfl))), ?_⟩
  try simp only [cxOf_K, cxOf_K', cxOf_mg, cxOf_mg']
  unfold sp_Told_kept at h
  split at h
  case h_2 => exact h.elim
  rename_i a
  rw [show L2.start ["self"] [V.ref a] = [some (V.ref a)] from rfl]
  obtain ⟨dx, p, ha, q⟩ := h
  walk_at "sts"
  refine L_fldv ha T.k_Told T.na_Told_places rfl ?_
  exact q
def sp_Die___init__ (K : PySem.W.Frag) (mg : Str → Option Value) : Sp := fun vs H Q _ => match vs with | [.ref x, .ref k] => ∃ dx xs, H x = some (.ins (cA mg "Die") dx []) ∧ SqL K H k xs ∧ ∀ p H', (∀ b o, H b = some o → b ≠ x → H' b = some o) → H' x = some (.ins (cA mg "Die") dx [("ways", .ref p)]) → H' p = some (.tup xs) → Q .non H' | _ => False
theorem q_Die___init__ {H : Hp} {Q : VK} {E : XK} {x : Addr} {k : Addr} (q : ∃ dx xs, H x = some (.ins (cA mg "Die") dx []) ∧ SqL K H k xs ∧ ∀ p H', (∀ b o, H b = some o → b ≠ x → H' b = some o) → H' x = some (.ins (cA mg "Die") dx [("ways", .ref p)]) → H' p = some (.tup xs) → Q .non H') : sp_Die___init__ K mg [.ref x, .ref k] H Q E := q
local macro_rules | `(tactic| walk_at "op") => `(tactic| with_reducible refine q_Die___init__ ?_)
theorem m_Die (T : Txt K mg base) : Mak P w K mg base 1 "Die" (cA mg "Die") (sp_Die___init__ K mg) := by
  refine InitAt.mak T.m_Die T.i_Die (k := 0) sc_Die___init__ (by intro vs H Q E h; unfold sp_Die___init__ at h; split at h <;> first | rfl | exact h.elim) fun f cdv A outer s H vs Q E hr h => ?_
  refine ⟨_, (pss_one (ps_fld (pv 0) (pe_callTy call_tuple1A (by rfl) T.n_tuple (by decide +kernel) (pa_cons (pv 1) pa_nil)) rfl)), ?_⟩
  try simp only [cxOf_K, cxOf_K', cxOf_mg, cxOf_mg']
  unfold sp_Die___init__ at h
  split at h
  case h_2 => exact h.elim
  rename_i x k
  rw [show L2.start ["self", "parts"] [V.ref x, V.ref k] = [some (V.ref x), some (V.ref k)] from rfl]
  obtain ⟨dx, xs, hx, hS, q⟩ := h
  walk_at "sts"
  refine L_tuple1 hS fun l hl => ?_
  have s2 := same_new (o := .tup xs) hl
  walk_at "sts"
  refine L_sFldv (s2 _ _ hx) T.k_Die T.na_Die_ways (by decide) ?_
  have nl : l ≠ x := fun z => by rw [z, hx] at hl; cases hl
  exact q l _ (fun b o hb ne => by rw [upd_ne ne]; exact s2 _ _ hb) upd_same (by rw [upd_ne nl]; exact upd_same)
def sp_Die_is_told (K : PySem.W.Frag) (mg : Str → Option Value) : Sp := fun vs H Q _ => match vs with | [.ref a] => Q (.bl false) H | _ => False
theorem q_Die_is_told {H : Hp} {Q : VK} {E : XK} {a : Addr} (q : Q (.bl false) H) : sp_Die_is_told K mg [.ref a] H Q E := q
local macro_rules | `(tactic| walk_at "op") => `(tactic| with_reducible refine q_Die_is_told ?_)
theorem c_Die_is_told (T : Txt K mg base) : Met P w K mg base 1 (cA mg "Die") "is_told" (sp_Die_is_told K mg) := by
  refine MethAt.met T.k_Die T.d_Die_is_told (k := 0) sc_Die_is_told (by intro vs H Q E h; unfold sp_Die_is_told at h; split at h <;> first | rfl | exact h.elim) fun f cdv A outer s H vs Q E hr h => ?_
  refine ⟨_, (pss_one (ps_ret pe_bl)), ?_⟩
  try simp only [cxOf_K, cxOf_K', cxOf_mg, cxOf_mg']
  unfold sp_Die_is_told at h
  split at h
  case h_2 => exact h.elim
  rename_i a
  rw [show L2.start ["self"] [V.ref a] = [some (V.ref a)] from rfl]
  walk_at "sts"
  exact h
/-! dice, generic: P tells which lists a node may hold (those that are changed later are not among them) -/
/-- what is no list is allowed -/
def NL (P : Addr → Prop) (H : Hp) : Prop := ∀ b, (∀ xs, H b ≠ some (.lst xs)) → P b
theorem NL.ev {P : Addr → Prop} {T : List (Addr × Str)} {H H' : Hp} (n : NL P H) (e : Ev T H H') : NL P H' := fun b h => n b fun xs z => h xs (e.lst z)
theorem NL.one {H : Hp} {h : Addr} {xs : List V} (e : H h = some (.lst xs)) : NL (· ≠ h) H := fun b k z => k xs (by rw [z]; exact e)
theorem NL.mu {P : Addr → Prop} {H : Hp} {h : Addr} {ys : List V} (n : NL P H) : NL P (upd H h (.lst ys)) := fun b k => n b fun xs z => by
  by_cases c : b = h
  · rw [c] at k
    exact k ys upd_same
  · exact k xs (by rw [upd_ne c]; exact z)
theorem NL.drop {P : Addr → Prop} {H Hd : Hp} (n : NL P H) (k : ∀ b o, H b = some o → (∀ φ, o ≠ .ext φ) → Hd b = some o) : NL P Hd := fun b h => n b fun xs z => h xs (k _ _ z fun _ z => nomatch z)
theorem NL.new {P : Addr → Prop} {H : Hp} {p : Addr} (n : NL P H) (h : H p = none) : P p := n p fun xs z => by rw [h] at z; cases z
theorem NL.all {H : Hp} : NL (fun _ => True) H := fun _ _ => True.intro
/-- a list is changed: tables stay -/
theorem tabs_mut {T : List (Addr × Str)} {H : Hp} {D : Addr} {us : List V} {o : HO} (t : Tabs T H) (h : H D = some (.lst us)) : Tabs T (upd H D o) := fun p hp => by
  obtain ⟨ps, e1, ok, k⟩ := t p hp
  have keep : ∀ b o', H b = some o' → (∀ l, o' ≠ .lst l) → upd H D o b = some o' := fun b o' hb ne => by
    rw [upd_ne fun z => by rw [z, h] at hb; exact ne _ (Option.some.inj hb).symm]
    exact hb
  refine ⟨ps, keep _ _ e1 (fun _ z => nomatch z), ok, fun pos cv hc => ?_⟩
  obtain ⟨c, rfl, hcc⟩ := k pos cv hc
  exact ⟨c, rfl, keep _ _ hcc (fun l z => by unfold CodeO at z; cases z)⟩
theorem upd_keep {H : Hp} {D b : Addr} {us : List V} {o o' : HO} (h : H D = some (.lst us)) (hb : H b = some o') (ne : ∀ l, o' ≠ .lst l) : upd H D o b = some o' := by
  rw [upd_ne fun z => by rw [z, h] at hb; exact ne _ (Option.some.inj hb).symm]
  exact hb
theorem ev_mutO {T : List (Addr × Str)} {H H1 : Hp} {D : Addr} {us : List V} {o : HO} (e : Ev T H H1) (n : ∀ u, H D = some u → ∃ qs, u = .tbl qs) (h : H1 D = some (.lst us)) : Ev T H (L2.upd H1 D o) := ⟨fun b o' hb ne => by
  rw [upd_ne fun z => by
    rw [z] at hb
    obtain ⟨qs, e⟩ := n _ hb
    exact ne qs e]
  exact e.ex _ _ hb ne, fun t => tabs_mut (e.tb t) h⟩
/-- a Told with these places -/
def TolA (mg : Str → Option Value) (ks : List Int) (v : V) (H : Hp) : Prop := ∃ a dx p, v = .ref a ∧ H a = some (.ins (cA mg "Told") dx [("places", .ref p)]) ∧ H p = some (.tup (ks.map V.int))
theorem TolA.ev {mg : Str → Option Value} {T : List (Addr × Str)} {H H' : Hp} {ks : List Int} {v : V} (h : TolA mg ks v H) (e : Ev T H H') : TolA mg ks v H' := by
  obtain ⟨a, dx, p, rfl, h1, h2⟩ := h
  exact ⟨a, dx, p, rfl, e.ins h1, e.tup h2⟩
theorem TolA.mu {mg : Str → Option Value} {H : Hp} {ks : List Int} {v : V} {D : Addr} {us : List V} {o : HO} (h : TolA mg ks v H) (e : H D = some (.lst us)) : TolA mg ks v (upd H D o) := by
  obtain ⟨a, dx, p, rfl, h1, h2⟩ := h
  exact ⟨a, dx, p, rfl, upd_keep e h1 (fun _ z => nomatch z), upd_keep e h2 (fun _ z => nomatch z)⟩
/-! fractions as rationals -/
def qt (r : Rat) : Int × Int := (r.num, (r.den : Int))
theorem q_nd (r : Rat) : (r.num : Rat) / ((r.den : Int) : Rat) = r := by rw [← Rat.divInt_eq_div, Rat.num_divInt_den]
theorem q_dp (r : Rat) : 0 < (r.den : Int) := by have := r.den_pos; omega
theorem i_ne {b : Int} (h : b ≠ 0) : (b : Rat) ≠ 0 := fun z => h (Rat.intCast_inj.mp (by simpa using z))
theorem q_eq {r : Rat} {t b : Int} (hb : b ≠ 0) (h : r = (t : Rat) / b) : r.num * b = t * (r.den : Int) := by
  have e := q_nd r
  have hd : (((r.den : Int)) : Rat) ≠ 0 := i_ne (by have := q_dp r; omega)
  have hb' : (b : Rat) ≠ 0 := i_ne hb
  have : (r.num : Rat) * b = t * ((r.den : Int) : Rat) := by
    generalize (r.num : Rat) = x at e ⊢
    generalize ((r.den : Int) : Rat) = y at e hd ⊢
    grind
  have h3 : ((r.num * b : Int) : Rat) = ((t * (r.den : Int) : Int) : Rat) := by
    rw [Rat.intCast_mul, Rat.intCast_mul]
    exact this
  exact Rat.intCast_inj.mp h3
theorem q_gc (r : Rat) : gc r.num (r.den : Int) = 1 := by
  have := r.reduced
  unfold gc
  rw [show Int.gcd r.num (r.den : Int) = 1 from this]
  rfl
theorem shr_qt {t b : Int} {r : Rat} (hb : b ≠ 0) (h : r = (t : Rat) / b) : shr t b = qt r := by
  obtain ⟨h1, h2, h3⟩ := shr_ok (t := t) hb
  have e := q_eq hb h
  have dp := q_dp r
  have key : (shr t b).1 * (r.den : Int) = r.num * (shr t b).2 := by
    refine Int.eq_of_mul_eq_mul_right hb ?_
    generalize (r.den : Int) = d at *
    generalize r.num = n at *
    generalize (shr t b).1 = x at *
    generalize (shr t b).2 = y at *
    grind
  obtain ⟨h4, h5⟩ := cop_uniq (by omega) dp h2 (q_gc r) key
  exact Prod.ext h4 h5
theorem low_qt {t b : Int} {r : Rat} (hb : 0 < b) (h : r = (t : Rat) / b) : low t b = qt r := by rw [← shr_low hb]; exact shr_qt (by omega) h
theorem qt_inj {a b : Rat} : qt a = qt b ↔ a = b := by
  constructor
  · intro h
    have h1 := congrArg Prod.fst h
    have h2 := congrArg Prod.snd h
    exact Rat.ext h1 (Int.ofNat.inj h2)
  · rintro rfl
    rfl
theorem qt_0 : qt 0 = (0, 1) := rfl
theorem qt_1 : qt 1 = (1, 1) := rfl
theorem d_ne (r : Rat) : (((r.den : Int)) : Rat) ≠ 0 := i_ne (by have := q_dp r; omega)
theorem q_add (a b : Rat) : shr ((qt a).1 * (qt b).2 + (qt b).1 * (qt a).2) ((qt a).2 * (qt b).2) = qt (a + b) := by
  refine shr_qt (Int.mul_ne_zero (by have := q_dp a; show (a.den : Int) ≠ 0; omega) (by have := q_dp b; show (b.den : Int) ≠ 0; omega)) ?_
  have e1 := q_nd a
  have e2 := q_nd b
  have d1 := d_ne a
  have d2 := d_ne b
  show a + b = ((a.num * (b.den : Int) + b.num * (a.den : Int) : Int) : Rat) / (((a.den : Int) * (b.den : Int) : Int) : Rat)
  rw [Rat.intCast_add, Rat.intCast_mul, Rat.intCast_mul, Rat.intCast_mul]
  generalize (a.num : Rat) = x at *
  generalize ((a.den : Int) : Rat) = y at *
  generalize (b.num : Rat) = u at *
  generalize ((b.den : Int) : Rat) = v at *
  grind
theorem q_sub (a b : Rat) : shr ((qt a).1 * (qt b).2 - (qt b).1 * (qt a).2) ((qt a).2 * (qt b).2) = qt (a - b) := by
  refine shr_qt (Int.mul_ne_zero (by have := q_dp a; show (a.den : Int) ≠ 0; omega) (by have := q_dp b; show (b.den : Int) ≠ 0; omega)) ?_
  have e1 := q_nd a
  have e2 := q_nd b
  have d1 := d_ne a
  have d2 := d_ne b
  show a - b = ((a.num * (b.den : Int) - b.num * (a.den : Int) : Int) : Rat) / (((a.den : Int) * (b.den : Int) : Int) : Rat)
  rw [Rat.intCast_sub, Rat.intCast_mul, Rat.intCast_mul, Rat.intCast_mul]
  generalize (a.num : Rat) = x at *
  generalize ((a.den : Int) : Rat) = y at *
  generalize (b.num : Rat) = u at *
  generalize ((b.den : Int) : Rat) = v at *
  grind
theorem q_mul (a b : Rat) : shr ((qt a).1 * (qt b).1) ((qt a).2 * (qt b).2) = qt (a * b) := by
  refine shr_qt (Int.mul_ne_zero (by have := q_dp a; show (a.den : Int) ≠ 0; omega) (by have := q_dp b; show (b.den : Int) ≠ 0; omega)) ?_
  have e1 := q_nd a
  have e2 := q_nd b
  have d1 := d_ne a
  have d2 := d_ne b
  show a * b = ((a.num * b.num : Int) : Rat) / (((a.den : Int) * (b.den : Int) : Int) : Rat)
  rw [Rat.intCast_mul, Rat.intCast_mul]
  generalize (a.num : Rat) = x at *
  generalize ((a.den : Int) : Rat) = y at *
  generalize (b.num : Rat) = u at *
  generalize ((b.den : Int) : Rat) = v at *
  grind
theorem q_num0 {a : Rat} (h : a ≠ 0) : (qt a).1 ≠ 0 := fun z => h (by
  have e := q_nd a
  rw [show a.num = 0 from z] at e
  rw [← e]
  have d := d_ne a
  generalize ((a.den : Int) : Rat) = y at *
  grind)
theorem q_div (a b : Rat) (h : b ≠ 0) : shr ((qt a).1 * (qt b).2) ((qt a).2 * (qt b).1) = qt (a / b) := by
  have hn := q_num0 h
  refine shr_qt (Int.mul_ne_zero (by have := q_dp a; show (a.den : Int) ≠ 0; omega) hn) ?_
  have e1 := q_nd a
  have e2 := q_nd b
  have d1 := d_ne a
  have d2 := d_ne b
  have n2 : (b.num : Rat) ≠ 0 := i_ne hn
  show a / b = ((a.num * (b.den : Int) : Int) : Rat) / (((a.den : Int) * b.num : Int) : Rat)
  rw [Rat.intCast_mul, Rat.intCast_mul]
  generalize (a.num : Rat) = x at *
  generalize ((a.den : Int) : Rat) = y at *
  generalize (b.num : Rat) = u at *
  generalize ((b.den : Int) : Rat) = v at *
  grind
theorem q_lt (a b : Rat) : ((qt a).1 * (qt b).2 < (qt b).1 * (qt a).2) ↔ a < b := by
  rw [Rat.lt_iff]
  exact Iff.rfl
/-- bounded -/
def BdQ (n : Nat) (r : Rat) : Prop := Bd n (qt r).1 ∧ Bd n (qt r).2
theorem bdq_of {n : Nat} {t b : Int} {r : Rat} (hb : b ≠ 0) (h : r = (t : Rat) / b) (h1 : Bd n t) (h2 : Bd n b) : BdQ n r := by
  have := shr_bd hb h1 h2
  rw [shr_qt hb h] at this
  exact this
theorem BdQ.mono {n m : Nat} {r : Rat} (h : BdQ n r) (hm : n ≤ m) : BdQ m r := ⟨h.1.mono hm, h.2.mono hm⟩
theorem q_pos {r : Rat} : 0 < (qt r).1 ↔ 0 < r := by
  have := q_lt 0 r
  rw [← this]
  show _ ↔ (0 * (r.den : Int) < r.num * 1)
  rw [Int.zero_mul, Int.mul_one]
  exact Iff.rfl
theorem q_lt1 {r : Rat} : (qt r).1 < (qt r).2 ↔ r < 1 := by
  have := q_lt r 1
  rw [← this]
  show _ ↔ (r.num * 1 < 1 * (r.den : Int))
  rw [Int.one_mul, Int.mul_one]
  exact Iff.rfl
/-! few_node: places left, how many are wanted, those kept -/
abbrev NdF := List Int × Int × List Int
def OkF (n : NdF) : Prop := 0 ≤ n.2.1 ∧ n.1.length + n.2.2.length ≤ 24
def toldF (n : NdF) : Option (List Int) := if n.2.1 = 0 then some (srtI n.2.2) else if (n.1.length : Int) ≤ n.2.1 then some (srtI (n.2.2 ++ n.1)) else none
def first (n : NdF) : NdF := (n.1.drop 1, n.2.1 - 1, n.2.2 ++ n.1.take 1)
def second (n : NdF) : NdF := (n.1.drop 1, n.2.1, n.2.2)
/-- the two lambdas of a node -/
def LamF0 (P : Addr → Prop) (n : NdF) (f : Addr) (H : Hp) : Prop := ∃ pa ka, LamAt_few_node_l0 [.ref ka, .int n.2.1, .ref pa] f H ∧ H pa = some (.lst (n.1.map V.int)) ∧ H ka = some (.lst (n.2.2.map V.int)) ∧ P pa ∧ P ka
def LamF1 (P : Addr → Prop) (n : NdF) (f : Addr) (H : Hp) : Prop := ∃ pa ka, LamAt_few_node_l1 [.ref ka, .int n.2.1, .ref pa] f H ∧ H pa = some (.lst (n.1.map V.int)) ∧ H ka = some (.lst (n.2.2.map V.int)) ∧ P pa ∧ P ka
theorem LamF0.ev {P : Addr → Prop} {T : List (Addr × Str)} {n : NdF} {f : Addr} {H H' : Hp} (h : LamF0 P n f H) (e : Ev T H H') : LamF0 P n f H' := by
  obtain ⟨pa, ka, h1, h2, h3, h4⟩ := h
  exact ⟨pa, ka, h1.ext e.ex, e.lst h2, e.lst h3, h4⟩
theorem LamF1.ev {P : Addr → Prop} {T : List (Addr × Str)} {n : NdF} {f : Addr} {H H' : Hp} (h : LamF1 P n f H) (e : Ev T H H') : LamF1 P n f H' := by
  obtain ⟨pa, ka, h1, h2, h3, h4⟩ := h
  exact ⟨pa, ka, h1.ext e.ex, e.lst h2, e.lst h3, h4⟩
theorem LamF0.mu {P : Addr → Prop} {n : NdF} {f D : Addr} {H : Hp} {us : List V} {o : HO} (h : LamF0 P n f H) (e : H D = some (.lst us)) (nD : ¬ P D) : LamF0 P n f (upd H D o) := by
  obtain ⟨pa, ka, h1, h2, h3, h4, h5⟩ := h
  exact ⟨pa, ka, h1.up e, by rw [upd_ne fun z => nD (by rw [← z]; exact h4)]; exact h2, by rw [upd_ne fun z => nD (by rw [← z]; exact h5)]; exact h3, h4, h5⟩
theorem LamF1.mu {P : Addr → Prop} {n : NdF} {f D : Addr} {H : Hp} {us : List V} {o : HO} (h : LamF1 P n f H) (e : H D = some (.lst us)) (nD : ¬ P D) : LamF1 P n f (upd H D o) := by
  obtain ⟨pa, ka, h1, h2, h3, h4, h5⟩ := h
  exact ⟨pa, ka, h1.up e, by rw [upd_ne fun z => nD (by rw [← z]; exact h4)]; exact h2, by rw [upd_ne fun z => nD (by rw [← z]; exact h5)]; exact h3, h4, h5⟩
/-- v is the node -/
def AtF (mg : Str → Option Value) (P : Addr → Prop) (n : NdF) (v : V) (H : Hp) : Prop := OkF n ∧ match toldF n with
  | some l => TolA mg l v H
  | none => ∃ a dx p q0 q1 f0 f1, v = .ref a ∧ H a = some (.ins (cA mg "Die") dx [("ways", .ref p)]) ∧ H p = some (.tup [.ref q0, .ref q1]) ∧ H q0 = some (.tup [.int n.2.1, .ref f0]) ∧ H q1 = some (.tup [.int (n.1.length - n.2.1), .ref f1]) ∧ LamF0 P n f0 H ∧ LamF1 P n f1 H
theorem AtF.ev {mg : Str → Option Value} {P : Addr → Prop} {T : List (Addr × Str)} {H H' : Hp} {n : NdF} {v : V} (h : AtF mg P n v H) (e : Ev T H H') : AtF mg P n v H' := by
  refine ⟨h.1, ?_⟩
  have h2 := h.2
  cases ht : toldF n with
  | some l =>
    rw [ht] at h2
    exact TolA.ev h2 e
  | none =>
    rw [ht] at h2
    obtain ⟨a, dx, p, q0, q1, f0, f1, rfl, h1, h2, h3, h4, h5, h6⟩ := h2
    exact ⟨a, dx, p, q0, q1, f0, f1, rfl, e.ins h1, e.tup h2, e.tup h3, e.tup h4, h5.ev e, h6.ev e⟩
theorem AtF.mu {mg : Str → Option Value} {P : Addr → Prop} {H : Hp} {n : NdF} {v : V} {D : Addr} {us : List V} {o : HO} (h : AtF mg P n v H) (e : H D = some (.lst us)) (nD : ¬ P D) : AtF mg P n v (upd H D o) := by
  refine ⟨h.1, ?_⟩
  have h2 := h.2
  cases ht : toldF n with
  | some l =>
    rw [ht] at h2
    exact TolA.mu h2 e
  | none =>
    rw [ht] at h2
    obtain ⟨a, dx, p, q0, q1, f0, f1, rfl, h1, h2, h3, h4, h5, h6⟩ := h2
    have kt : ∀ b xs, H b = some (.tup xs) → upd H D o b = some (.tup xs) := fun b xs hb => upd_keep e hb (fun _ z => nomatch z)
    exact ⟨a, dx, p, q0, q1, f0, f1, rfl, upd_keep e h1 (fun _ z => nomatch z), kt _ _ h2, kt _ _ h3, kt _ _ h4, h5.mu e nD, h6.mu e nD⟩
/-- what few_node promises of a node -/
def FewQ (K : PySem.W.Frag) (mg : Str → Option Value) (P : Addr → Prop) (n : NdF) (H : Hp) (Q : VK) : Prop := ∀ x H', Ev (tabsL K mg) H H' → AtF mg P n x H' → Q x H'
def sp_few_node (K : PySem.W.Frag) (mg : Str → Option Value) : Sp := fun vs H Q _ => match vs with | [.ref pa, .int m, .ref ka] => ∃ (P : Addr → Prop) (ps ks : List Int), H pa = some (.lst (ps.map V.int)) ∧ H ka = some (.lst (ks.map V.int)) ∧ P pa ∧ P ka ∧ NL P H ∧ OkF (ps, m, ks) ∧ Tabs (tabsL K mg) H ∧ FewQ K mg P (ps, m, ks) H Q | _ => False
theorem q_few_node {H : Hp} {Q : VK} {E : XK} {pa : Addr} {m : Int} {ka : Addr} (q : ∃ (P : Addr → Prop) (ps ks : List Int), H pa = some (.lst (ps.map V.int)) ∧ H ka = some (.lst (ks.map V.int)) ∧ P pa ∧ P ka ∧ NL P H ∧ OkF (ps, m, ks) ∧ Tabs (tabsL K mg) H ∧ FewQ K mg P (ps, m, ks) H Q) : sp_few_node K mg [.ref pa, .int m, .ref ka] H Q E := q
local macro_rules | `(tactic| walk_at "op") => `(tactic| with_reducible refine q_few_node ?_)
theorem c_few_node (T : Txt K mg base) : Cal P w K mg base 3 "few_node" (sp_few_node K mg) := by
  refine T.d_few_node.calK (as := [("places", 0), ("many", 1), ("kept", 2)]) (k := 2) sc_few_node (by intro vs H Q E h; unfold sp_few_node at h; split at h <;> first | rfl | exact h.elim) (by decide +kernel) fun f A outer s H vs Q E hr h => ?_
  refine ⟨_, (psr_if (pt_cmpR (op_eqA hr) (pv 1) pe_int (nomark _))
    (psr_ret (pe_mk (m_Told T) hr (by decide) (by rfl) (pa_cons (pv 2) pa_nil)))
    (psr_if (pt_cmpR op_ge (pv 1) (pe_callB call_lenA (by rfl) T.n_len (by decide +kernel) (pa_cons (pv 0) pa_nil)) (nomark _))
    (psr_ret (pe_mk (m_Told T) hr (by decide) (by rfl) (pa_cons (pe_op op_addA (pv 2) (pv 0)) pa_nil)))
    (psr_cons (ps_set (i := 3) sc_few_node.nd rfl (.inl rfl) (pe_tup (pa_cons (pv 1) (pa_cons (pe_lamE (T := tabsL K mg) (q := "few_node.<locals>.<lambda>") s_few_node e_few_node_0 (by rfl) T.tb_few_node rfl (show ("few_node" : Str) ++ ".<locals>." ++ "<lambda>" = ("few_node.<locals>.<lambda>" : Str) from by decide +kernel) (by unfold tabsL; simp) T.hu_few_node (by rfl) (freeIn_ok (sc := defScope s_few_node) (lsc := lamS s_few_node e_few_node_0) (by decide +kernel))) pa_nil))))
    (psr_cons (ps_set (i := 4) sc_few_node.nd rfl (.inl rfl) (pe_tup (pa_cons (pe_op op_sub (pe_callB call_lenA (by rfl) T.n_len (by decide +kernel) (pa_cons (pv 0) pa_nil)) (pv 1)) (pa_cons (pe_lamE (T := tabsL K mg) (q := "few_node.<locals>.<lambda>") s_few_node e_few_node_1 (by rfl) T.tb_few_node rfl (show ("few_node" : Str) ++ ".<locals>." ++ "<lambda>" = ("few_node.<locals>.<lambda>" : Str) from by decide +kernel) (by unfold tabsL; simp) T.hu_few_node (by rfl) (freeIn_ok (sc := defScope s_few_node) (lsc := lamS s_few_node e_few_node_1) (by decide +kernel))) pa_nil))))
    (psr_ret (pe_mk (m_Die T) hr (by decide) (by rfl) (pa_cons (pe_lst (pa_cons (pv 3) (pa_cons (pv 4) pa_nil))) pa_nil))))))), ?_⟩
  try simp only [cxOf_K, cxOf_K', cxOf_mg, cxOf_mg']
  unfold sp_few_node at h
  split at h
  case h_2 => exact h.elim
  rename_i pa m ka
  rw [show L2.start ["places", "many", "kept", "first", "second"] [V.ref pa, V.int m, V.ref ka] = [some (V.ref pa), some (V.int m), some (V.ref ka), none, none] from rfl]
  obtain ⟨P, ps, ks, hp, hk, hPp, hPk, hNL, hok, hT, q⟩ := h
  obtain ⟨m0, hlen⟩ := hok
  replace m0 : 0 ≤ m := m0
  replace hlen : ps.length + ks.length ≤ 24 := hlen
  walk_at "sts"
  refine L_d (fun c => ?_) (fun c => ?_)
  · walk_at "sts"
    refine fun x dx nx nd ne => ?_
    have s1 := same_made (C := cA mg "Told") nx nd ne
    refine ⟨dx, ks, upd_same, .of (s1 _ _ hk), by omega, fun p H' keep hx' hp' => ⟨rfl, ?_⟩⟩
    have s2 : Same H H' := fun b o hb => keep b o (s1 _ _ hb) (ne_of_none hb nx)
    refine ⟨[], [], by simp, by simp, rfl, fun H2 _ sm _ => q _ _ (.same (s2.trans sm)) ⟨⟨m0, hlen⟩, ?_⟩⟩
    rw [show toldF (ps, m, ks) = some (srtI ks) from if_pos c]
    exact ⟨x, dx, p, rfl, sm _ _ hx', sm _ _ hp'⟩
  walk_at "sts"
  refine L_lenL (.of hp) ?_
  walk_at "sts"
  rw [List.length_map]
  refine L_d (fun c2 => ?_) (fun c2 => ?_)
  · walk_at "sts"
    refine L_addL hk hp (sz_dec (by simp; omega)) ?_
    walk_at "nwp"
    rename_i p1 hp1 H1 s1 e1
    have e1' : H1 p1 = some (.lst ((ks ++ ps).map V.int)) := by rw [e1, List.map_append]
    walk_at "sts"
    refine fun x dx nx nd ne => ?_
    have s2 := same_made (C := cA mg "Told") nx nd ne
    refine ⟨dx, ks ++ ps, upd_same, .of (s2 _ _ e1'), by rw [List.length_append]; omega, fun p H' keep hx' hp' => ⟨rfl, ?_⟩⟩
    have s3 : Same H1 H' := fun b o hb => keep b o (s2 _ _ hb) (ne_of_none hb nx)
    refine ⟨[], [], by simp, by simp, rfl, fun H2 _ sm _ => q _ _ (.same (s1.trans (s3.trans sm))) ⟨⟨m0, hlen⟩, ?_⟩⟩
    rw [show toldF (ps, m, ks) = some (srtI (ks ++ ps)) from (if_neg c).trans (if_pos (show (ps.length : Int) ≤ m by omega))]
    exact ⟨x, dx, p, rfl, sm _ _ hx', sm _ _ hp'⟩
  walk_at "sts"
  refine ⟨hT, fun f0 c0 H1 ex1 T1 hf1 l1 k1 => ?_⟩
  walk_at "sts"
  walk_at "nw"
  rename_i q0 hq0 H2 s2 e2
  walk_at "sts"
  refine L_lenL (.of ((Ev.made ex1 T1).trans (.same s2) |>.lst hp)) ?_
  walk_at "sts"
  refine ⟨T1.ext s2, fun f1 c1 H3 ex3 T3 hf3 l3 k3 => ?_⟩
  walk_at "sts"
  walk_at "nw"
  rename_i q1 hq1 H4 s4 e4
  walk_at "sts"
  walk_at "nw"
  rename_i p5 hp5 H5 s5 e5
  walk_at "sts"
  refine fun x dx nx nd ne => ?_
  have s6 := same_made (C := cA mg "Die") nx nd ne
  refine ⟨dx, [.ref q0, .ref q1], upd_same, .of (s6 _ _ e5), fun p H6 keep hx6 hp6 => ⟨rfl, ?_⟩⟩
  have s56 : Same H5 H6 := fun b o hb => keep b o (s6 _ _ hb) (ne_of_none hb nx)
  have ev12 : Ev (tabsL K mg) H1 H3 := (Ev.same s2).trans (.made ex3 T3)
  have ev36 : Ev (tabsL K mg) H3 H6 := .same (s4.trans (s5.trans s56))
  have evH : Ev (tabsL K mg) H H6 := (Ev.made ex1 T1).trans (ev12.trans ev36)
  refine ⟨[("places", 0), ("many", 1), ("kept", 2)], [.ref pa, .int m, .ref ka], by simp, by decide +kernel, rfl, fun H7 inj sm hat => ?_⟩
  have ev7 : Ev (tabsL K mg) H6 H7 := .same sm
  obtain ⟨a0, g0, _, g1⟩ := hat 0 _ _ rfl rfl
  obtain ⟨a1, g2, _, g3⟩ := hat 1 _ _ rfl rfl
  obtain ⟨a2, g4, _, g5⟩ := hat 2 _ _ rfl rfl
  have cells : ∀ (i : Nat) y w, ([("kept" : Str), "many", "places"] : List Str)[i]? = some y → ([V.ref ka, V.int m, V.ref pa] : List V)[i]? = some w → ∃ c, (cellsFrom (s.heap.objs.size + 1) (defScope s_few_node).names []).lookup y = some c ∧ H7 c = some (CellO c w) := fun i y w hi hw => by
    match i, hi, hw with
    | 0, hi, hw => cases hi; cases hw; exact ⟨a2, g4, g5⟩
    | 1, hi, hw => cases hi; cases hw; exact ⟨a1, g2, g3⟩
    | 2, hi, hw => cases hi; cases hw; exact ⟨a0, g0, g1⟩
  refine q _ _ (evH.trans ev7) ⟨⟨m0, hlen⟩, ?_⟩
  rw [show toldF (ps, m, ks) = none from (if_neg c).trans (if_neg (show ¬ (ps.length : Int) ≤ m by omega))]
  have ev17 := ev12.trans (ev36.trans ev7)
  have ev37 := ev36.trans ev7
  have L0 : LamAt_few_node_l0 [.ref ka, .int m, .ref pa] f0 H7 := ⟨c0, _, ev17.ex _ _ l1 (fun _ z => nomatch z), ev17.ex _ _ k1 codeO_ne, heldC_of inj (frIs_ok (by decide +kernel)) rfl cells⟩
  have L1 : LamAt_few_node_l1 [.ref ka, .int m, .ref pa] f1 H7 := ⟨c1, _, ev37.ex _ _ l3 (fun _ z => nomatch z), ev37.ex _ _ k3 codeO_ne, heldC_of inj (frIs_ok (by decide +kernel)) rfl cells⟩
  have hpH := (evH.trans ev7).lst hp
  have hkH := (evH.trans ev7).lst hk
  refine ⟨x, dx, p, q0, q1, f0, f1, rfl, ev7.ins hx6, ev7.tup hp6, ((Ev.made ex3 T3).trans ev37).tup e2, ?_, ⟨pa, ka, L0, hpH, hkH, hPp, hPk⟩, ⟨pa, ka, L1, hpH, hkH, hPp, hPk⟩⟩
  have e4' := ((Ev.same (s5.trans s56) : Ev (tabsL K mg) _ _).trans ev7).tup e4
  rw [List.length_map] at e4'
  exact e4'
def sp_few_node_l0 (K : PySem.W.Frag) (mg : Str → Option Value) : List V → Hp → VK → Prop := fun ws H Q => match ws with | [.ref ka, .int m, .ref pa] => ∃ (P : Addr → Prop) (ps ks : List Int), H pa = some (.lst (ps.map V.int)) ∧ H ka = some (.lst (ks.map V.int)) ∧ P pa ∧ P ka ∧ NL P H ∧ OkF (ps, m, ks) ∧ 1 ≤ m ∧ ps ≠ [] ∧ Tabs (tabsL K mg) H ∧ FewQ K mg P (first (ps, m, ks)) H Q | _ => False
/-- the lambda called -/
abbrev tClo_few_node_l0 (K : PySem.W.Frag) (mg : Str → Option Value) (i : Nat) : TE := tClo "few_node.<locals>.<lambda>" (lamP s_few_node e_few_node_0) (lamB e_few_node_0) (lamS s_few_node e_few_node_0) ["kept", "many", "places"] i (sp_few_node_l0 K mg)
theorem c_few_node_l0 (T : Txt K mg base) : LOk P w K mg base 4 "few_node.<locals>.<lambda>" (lamP s_few_node e_few_node_0) (lamB e_few_node_0) (lamS s_few_node e_few_node_0) ["kept", "many", "places"] (sp_few_node_l0 K mg) := by
  refine lok_of (N := ["kept", "many", "places"]) (k := 3) (nscope_by (by decide +kernel)) (fun _ _ _ _ => rfl) fun f c cl A outer s H ws Q hr len h => ?_
  refine ⟨_, (pe_c (c_few_node T) hr (by decide) (by rfl) (pa_cons (pe_slice sl_list (pv 2) (po_some pe_int) po_none) (pa_cons (pe_op op_sub (pv 1) pe_int) (pa_cons (pe_op op_addA (pv 0) (pe_slice sl_list (pv 2) po_none (po_some pe_int))) pa_nil)))), ?_⟩
  try simp only [ncx_K, ncx_mg]
  unfold sp_few_node_l0 at h
  split at h
  case h_2 => exact h.elim
  rename_i ka m pa
  rw [show startF ["kept", "many", "places"] [] ([V.ref ka, V.int m, V.ref pa].map some) = [some (V.ref ka), some (V.int m), some (V.ref pa)] from rfl]
  obtain ⟨P, ps, ks, hp, hk, hPp, hPk, hNL, ⟨m0, hlen⟩, m1, hne, hT, q⟩ := h
  replace hlen : ps.length + ks.length ≤ 24 := hlen
  walk_at "sts"
  refine L_slL (.of hp) fun p1 hp1 => ?_
  rw [cutV_map, show cutG ps (some 1) none = ps.drop 1 from cutG_drop ps 1]
  have s1 := same_new (o := .lst ((ps.drop 1).map V.int)) hp1
  have e1 : upd H p1 (.lst ((ps.drop 1).map V.int)) p1 = some (.lst ((ps.drop 1).map V.int)) := upd_same
  generalize upd H p1 (.lst ((ps.drop 1).map V.int)) = H1 at s1 e1 ⊢
  walk_at "sts"
  refine L_slL (.of (s1 _ _ hp)) fun p2 hp2 => ?_
  rw [cutV_map, show cutG ps none (some 1) = ps.take 1 from cutG_take ps 1]
  have s2 := same_new (o := .lst ((ps.take 1).map V.int)) hp2
  have e2 : upd H1 p2 (.lst ((ps.take 1).map V.int)) p2 = some (.lst ((ps.take 1).map V.int)) := upd_same
  generalize upd H1 p2 (.lst ((ps.take 1).map V.int)) = H2 at s2 e2 ⊢
  walk_at "sts"
  refine L_addL (s2 _ _ (s1 _ _ hk)) e2 (sz_dec (by simp; omega)) ?_
  walk_at "nwp"
  rename_i p3 hp3 H3 s3 e3
  have s03 : Ev (tabsL K mg) H H3 := .same (s1.trans (s2.trans s3))
  have hpos : 0 < ps.length := List.length_pos_iff.mpr hne
  refine ⟨P, ps.drop 1, ks ++ ps.take 1, s3 _ _ (s2 _ _ e1), by rw [e3, List.map_append], hNL.new hp1, hNL.new ((s1.trans s2).free hp3), hNL.ev s03, ⟨by show 0 ≤ m - 1; omega, by show (ps.drop 1).length + (ks ++ ps.take 1).length ≤ 24; simp; omega⟩, s03.tb hT, fun x H' ev at1 => q x H' (s03.trans ev) at1⟩
def sp_few_node_l1 (K : PySem.W.Frag) (mg : Str → Option Value) : List V → Hp → VK → Prop := fun ws H Q => match ws with | [.ref ka, .int m, .ref pa] => ∃ (P : Addr → Prop) (ps ks : List Int), H pa = some (.lst (ps.map V.int)) ∧ H ka = some (.lst (ks.map V.int)) ∧ P pa ∧ P ka ∧ NL P H ∧ OkF (ps, m, ks) ∧ Tabs (tabsL K mg) H ∧ FewQ K mg P (second (ps, m, ks)) H Q | _ => False
/-- the lambda called -/
abbrev tClo_few_node_l1 (K : PySem.W.Frag) (mg : Str → Option Value) (i : Nat) : TE := tClo "few_node.<locals>.<lambda>" (lamP s_few_node e_few_node_1) (lamB e_few_node_1) (lamS s_few_node e_few_node_1) ["kept", "many", "places"] i (sp_few_node_l1 K mg)
theorem c_few_node_l1 (T : Txt K mg base) : LOk P w K mg base 4 "few_node.<locals>.<lambda>" (lamP s_few_node e_few_node_1) (lamB e_few_node_1) (lamS s_few_node e_few_node_1) ["kept", "many", "places"] (sp_few_node_l1 K mg) := by
  refine lok_of (N := ["kept", "many", "places"]) (k := 3) (nscope_by (by decide +kernel)) (fun _ _ _ _ => rfl) fun f c cl A outer s H ws Q hr len h => ?_
  refine ⟨_, (pe_c (c_few_node T) hr (by decide) (by rfl) (pa_cons (pe_slice sl_list (pv 2) (po_some pe_int) po_none) (pa_cons (pv 1) (pa_cons (pv 0) pa_nil)))), ?_⟩
  try simp only [ncx_K, ncx_mg]
  unfold sp_few_node_l1 at h
  split at h
  case h_2 => exact h.elim
  rename_i ka m pa
  rw [show startF ["kept", "many", "places"] [] ([V.ref ka, V.int m, V.ref pa].map some) = [some (V.ref ka), some (V.int m), some (V.ref pa)] from rfl]
  obtain ⟨P, ps, ks, hp, hk, hPp, hPk, hNL, ⟨m0, hlen⟩, hT, q⟩ := h
  replace hlen : ps.length + ks.length ≤ 24 := hlen
  walk_at "sts"
  refine L_slL (.of hp) fun p1 hp1 => ?_
  rw [cutV_map, show cutG ps (some 1) none = ps.drop 1 from cutG_drop ps 1]
  have s1 := same_new (o := .lst ((ps.drop 1).map V.int)) hp1
  have e1 : upd H p1 (.lst ((ps.drop 1).map V.int)) p1 = some (.lst ((ps.drop 1).map V.int)) := upd_same
  generalize upd H p1 (.lst ((ps.drop 1).map V.int)) = H1 at s1 e1 ⊢
  walk_at "sts"
  have s03 : Ev (tabsL K mg) H H1 := .same s1
  refine ⟨P, ps.drop 1, ks, e1, s1 _ _ hk, hNL.new hp1, hPk, hNL.ev s03, ⟨m0, by show (ps.drop 1).length + ks.length ≤ 24; simp; omega⟩, s03.tb hT, fun x H' ev at1 => q x H' (s03.trans ev) at1⟩
/-- the lambda at f runs -/
def RuF (K : PySem.W.Frag) (mg : Str → Option Value) (f : Addr) (H : Hp) (Q : VK) : Prop := tClo_few_node_l0 K mg 0 [some (.ref f)] H Q ∨ tClo_few_node_l1 K mg 0 [some (.ref f)] H Q
theorem ruF_at {f : Addr} {H : Hp} {Q : VK} {σ : L2.St} {i : Nat} (h : RuF K mg f H Q) (hs : σ[i]? = some (some (.ref f))) : tOrE (tClo_few_node_l0 K mg i) (tClo_few_node_l1 K mg i) σ H Q := h.imp (fun h => tClo_at h hs) fun h => tClo_at h hs
theorem ru_first {P : Addr → Prop} {n : NdF} {f : Addr} {H : Hp} {Q : VK} (hf : LamF0 P n f H) (hok : OkF n) (m1 : 1 ≤ n.2.1) (hne : n.1 ≠ []) (hb : Tabs (tabsL K mg) H) (hn : NL P H) (q : FewQ K mg P (first n) H Q) : RuF K mg f H Q := by
  obtain ⟨pa, ka, L, hp, hk, h4, h5⟩ := hf
  refine .inl (L_clo L rfl (fun Hd sub keep tb => ⟨P, n.1, n.2.2, keep _ _ hp (fun _ z => nomatch z), keep _ _ hk (fun _ z => nomatch z), h4, h5, hn.drop keep, hok, m1, hne, tb _ hb, fun x H1 e1 at1 H2 s12 exx => ?_⟩) fun H Q Q' h m => ?_)
  · exact q x H2 (Ev.made (exx e1.ex) ((e1.tb (tb _ hb)).ext s12)) (at1.ev (.same s12 : Ev (tabsL K mg) H1 H2))
  · obtain ⟨P, ps, ks, h1, h2, h3, h4, h5, h6, h7, h8, h9, h10⟩ := h
    exact ⟨P, ps, ks, h1, h2, h3, h4, h5, h6, h7, h8, h9, fun x H' e a => m _ _ (h10 x H' e a)⟩
theorem ru_second {P : Addr → Prop} {n : NdF} {f : Addr} {H : Hp} {Q : VK} (hf : LamF1 P n f H) (hok : OkF n) (hb : Tabs (tabsL K mg) H) (hn : NL P H) (q : FewQ K mg P (second n) H Q) : RuF K mg f H Q := by
  obtain ⟨pa, ka, L, hp, hk, h4, h5⟩ := hf
  refine .inr (L_clo L rfl (fun Hd sub keep tb => ⟨P, n.1, n.2.2, keep _ _ hp (fun _ z => nomatch z), keep _ _ hk (fun _ z => nomatch z), h4, h5, hn.drop keep, hok, tb _ hb, fun x H1 e1 at1 H2 s12 exx => ?_⟩) fun H Q Q' h m => ?_)
  · exact q x H2 (Ev.made (exx e1.ex) ((e1.tb (tb _ hb)).ext s12)) (at1.ev (.same s12 : Ev (tabsL K mg) H1 H2))
  · obtain ⟨P, ps, ks, h1, h2, h3, h4, h5, h6, h7, h8⟩ := h
    exact ⟨P, ps, ks, h1, h2, h3, h4, h5, h6, h7, fun x H' e a => m _ _ (h8 x H' e a)⟩
/-- a plan Start at x -/
def StaA (mg : Str → Option Value) (x : Addr) (k : Int) (H : Hp) : Prop := ∃ dx, H x = some (.ins (cA mg "Start") dx [("step", .int k)])
/-- the lambda of a side -/
def LamS (P : Addr → Prop) (ps : List Int) (k a : Nat) (f : Addr) (H : Hp) : Prop := ∃ pa, LamAt_start_part_l0 [.int a, .ref pa, .int k] f H ∧ H pa = some (.lst (ps.map V.int)) ∧ P pa
theorem LamS.ev {P : Addr → Prop} {T : List (Addr × Str)} {ps : List Int} {k a : Nat} {f : Addr} {H H' : Hp} (h : LamS P ps k a f H) (e : Ev T H H') : LamS P ps k a f H' := by
  obtain ⟨pa, h1, h2, h4⟩ := h
  exact ⟨pa, h1.ext e.ex, e.lst h2, h4⟩
theorem LamS.mu {P : Addr → Prop} {ps : List Int} {k a : Nat} {f D : Addr} {H : Hp} {us : List V} {o : HO} (h : LamS P ps k a f H) (e : H D = some (.lst us)) (nD : ¬ P D) : LamS P ps k a f (upd H D o) := by
  obtain ⟨pa, h1, h2, h4⟩ := h
  exact ⟨pa, h1.up e, by rw [upd_ne fun z => nD (by rw [← z]; exact h4)]; exact h2, h4⟩
def SideA (P : Addr → Prop) (ps : List Int) (k : Nat) (H : Hp) (u : V) (a : Nat) : Prop := ∃ q f, u = .ref q ∧ H q = some (.tup [.int 1, .ref f]) ∧ LamS P ps k a f H
/-- Start's die -/
def AtS (mg : Str → Option Value) (P : Addr → Prop) (ps : List Int) (k : Nat) (v : V) (H : Hp) : Prop := k ≤ 100 ∧ ps.length ≤ 24 ∧ ∃ a dx p us, v = .ref a ∧ H a = some (.ins (cA mg "Die") dx [("ways", .ref p)]) ∧ H p = some (.tup us) ∧ Paired (SideA P ps k H) us (List.range k)
theorem SideA.ev {P : Addr → Prop} {T : List (Addr × Str)} {ps : List Int} {k a : Nat} {u : V} {H H' : Hp} (h : SideA P ps k H u a) (e : Ev T H H') : SideA P ps k H' u a := by
  obtain ⟨q, f, rfl, h1, h2⟩ := h
  exact ⟨q, f, rfl, e.tup h1, h2.ev e⟩
theorem AtS.ev {mg : Str → Option Value} {P : Addr → Prop} {T : List (Addr × Str)} {H H' : Hp} {ps : List Int} {k : Nat} {v : V} (h : AtS mg P ps k v H) (e : Ev T H H') : AtS mg P ps k v H' := by
  obtain ⟨h1, h2, a, dx, p, us, rfl, h3, h4, h5⟩ := h
  exact ⟨h1, h2, a, dx, p, us, rfl, e.ins h3, e.tup h4, paired_imp2 (fun _ _ h => SideA.ev h e) h5⟩
theorem AtS.mu {mg : Str → Option Value} {P : Addr → Prop} {H : Hp} {ps : List Int} {k : Nat} {v : V} {D : Addr} {us : List V} {o : HO} (h : AtS mg P ps k v H) (e : H D = some (.lst us)) (nD : ¬ P D) : AtS mg P ps k v (upd H D o) := by
  obtain ⟨h1, h2, a, dx, p, us, rfl, h3, h4, h5⟩ := h
  exact ⟨h1, h2, a, dx, p, us, rfl, upd_keep e h3 (fun _ z => nomatch z), upd_keep e h4 (fun _ z => nomatch z), paired_imp2 (fun _ _ ⟨q, f, e1, h6, h7⟩ => ⟨q, f, e1, upd_keep e h6 (fun _ z => nomatch z), h7.mu e nD⟩) h5⟩
def sp_start_part (K : PySem.W.Frag) (mg : Str → Option Value) : Sp := fun vs H Q _ => match vs with | [.ref pa, .int k0, .int a0] => ∃ (P : Addr → Prop) (ps : List Int) (k a : Nat), k0 = (k : Int) ∧ a0 = (a : Int) ∧ H pa = some (.lst (ps.map V.int)) ∧ P pa ∧ Tabs (tabsL K mg) H ∧ ∀ q f H', Ev (tabsL K mg) H H' → H' q = some (.tup [.int 1, .ref f]) → LamS P ps k a f H' → Q (.ref q) H' | _ => False
theorem q_start_part {H : Hp} {Q : VK} {E : XK} {pa : Addr} {k0 : Int} {a0 : Int} (q : ∃ (P : Addr → Prop) (ps : List Int) (k a : Nat), k0 = (k : Int) ∧ a0 = (a : Int) ∧ H pa = some (.lst (ps.map V.int)) ∧ P pa ∧ Tabs (tabsL K mg) H ∧ ∀ q f H', Ev (tabsL K mg) H H' → H' q = some (.tup [.int 1, .ref f]) → LamS P ps k a f H' → Q (.ref q) H') : sp_start_part K mg [.ref pa, .int k0, .int a0] H Q E := q
local macro_rules | `(tactic| walk_at "op") => `(tactic| with_reducible refine q_start_part ?_)
theorem c_start_part (T : Txt K mg base) : Cal P w K mg base 1 "start_part" (sp_start_part K mg) := by
  refine T.d_start_part.calK (as := [("places", 0), ("step", 1), ("at", 2)]) (k := 0) sc_start_part (by intro vs H Q E h; unfold sp_start_part at h; split at h <;> first | rfl | exact h.elim) (by decide +kernel) fun f A outer s H vs Q E hr h => ?_
  refine ⟨_, (psr_ret (pe_tup (pa_cons pe_int (pa_cons (pe_lamE (T := tabsL K mg) (q := "start_part.<locals>.<lambda>") s_start_part e_start_part_0 (by rfl) T.tb_start_part rfl (show ("start_part" : Str) ++ ".<locals>." ++ "<lambda>" = ("start_part.<locals>.<lambda>" : Str) from by decide +kernel) (by unfold tabsL; simp) T.hu_start_part (by rfl) (freeIn_ok (sc := defScope s_start_part) (lsc := lamS s_start_part e_start_part_0) (by decide +kernel))) pa_nil)))), ?_⟩
  try simp only [cxOf_K, cxOf_K', cxOf_mg, cxOf_mg']
  unfold sp_start_part at h
  split at h
  case h_2 => exact h.elim
  rename_i pa k a
  rw [show L2.start ["places", "step", "at"] [V.ref pa, V.int k, V.int a] = [some (V.ref pa), some (V.int k), some (V.int a)] from rfl]
  obtain ⟨P, ps, k, a, rfl, rfl, hp, hPp, hT, q⟩ := h
  walk_at "sts"
  refine ⟨hT, fun f0 c0 H1 ex1 T1 hf1 l1 k1 => ?_⟩
  walk_at "sts"
  walk_at "nw"
  rename_i q0 hq0 H2 s2 e2
  walk_at "sts"
  have ev12 : Ev (tabsL K mg) H1 H2 := .same s2
  refine ⟨[("places", 0), ("step", 1), ("at", 2)], [.ref pa, .int k, .int a], by simp, by decide +kernel, rfl, fun H7 inj sm hat => ?_⟩
  have ev7 : Ev (tabsL K mg) H2 H7 := .same sm
  obtain ⟨a0, g0, _, g1⟩ := hat 0 _ _ rfl rfl
  obtain ⟨a1, g2, _, g3⟩ := hat 1 _ _ rfl rfl
  obtain ⟨a2, g4, _, g5⟩ := hat 2 _ _ rfl rfl
  have cells : ∀ (i : Nat) y w, ([("at" : Str), "places", "step"] : List Str)[i]? = some y → ([V.int a, V.ref pa, V.int k] : List V)[i]? = some w → ∃ c, (cellsFrom (s.heap.objs.size + 1) (defScope s_start_part).names []).lookup y = some c ∧ H7 c = some (CellO c w) := fun i y w hi hw => by
    match i, hi, hw with
    | 0, hi, hw => cases hi; cases hw; exact ⟨a2, g4, g5⟩
    | 1, hi, hw => cases hi; cases hw; exact ⟨a0, g0, g1⟩
    | 2, hi, hw => cases hi; cases hw; exact ⟨a1, g2, g3⟩
  have ev17 := ev12.trans ev7
  have evH := (Ev.made ex1 T1).trans ev17
  have L0 : LamAt_start_part_l0 [.int a, .ref pa, .int k] f0 H7 := ⟨c0, _, ev17.ex _ _ l1 (fun _ z => nomatch z), ev17.ex _ _ k1 codeO_ne, heldC_of inj (frIs_ok (by decide +kernel)) rfl cells⟩
  exact q _ f0 _ evH (ev7.tup e2) ⟨pa, L0, evH.lst hp, hPp⟩
def sp_start_part_l0 (K : PySem.W.Frag) (mg : Str → Option Value) : List V → Hp → VK → Prop := fun ws H Q => match ws with | [.int a0, .ref pa, .int k0] => ∃ (ps : List Int) (k a : Nat), k0 = (k : Int) ∧ a0 = (a : Int) ∧ a < k ∧ ps.length ≤ 24 ∧ H pa = some (.lst (ps.map V.int)) ∧ ∀ v H', Same H H' → TolA mg (srtI (evy ps a k)) v H' → Q v H' | _ => False
/-- the lambda called -/
abbrev tClo_start_part_l0 (K : PySem.W.Frag) (mg : Str → Option Value) (i : Nat) : TE := tClo "start_part.<locals>.<lambda>" (lamP s_start_part e_start_part_0) (lamB e_start_part_0) (lamS s_start_part e_start_part_0) ["at", "places", "step"] i (sp_start_part_l0 K mg)
theorem c_start_part_l0 (T : Txt K mg base) : LOk P w K mg base 3 "start_part.<locals>.<lambda>" (lamP s_start_part e_start_part_0) (lamB e_start_part_0) (lamS s_start_part e_start_part_0) ["at", "places", "step"] (sp_start_part_l0 K mg) := by
  refine lok_of (N := ["at", "places", "step"]) (k := 2) (nscope_by (by decide +kernel)) (fun _ _ _ _ => rfl) fun f c cl A outer s H ws Q hr len h => ?_
  refine ⟨_, (pe_mk (m_Told T) hr (by decide) (by rfl) (pa_cons (pe_slS (pv 1) (pv 0) (pv 2)) pa_nil)), ?_⟩
  try simp only [ncx_K, ncx_mg]
  unfold sp_start_part_l0 at h
  split at h
  case h_2 => exact h.elim
  rename_i a pa k
  rw [show startF ["at", "places", "step"] [] ([V.int a, V.ref pa, V.int k].map some) = [some (V.int a), some (V.ref pa), some (V.int k)] from rfl]
  obtain ⟨ps, k, a, rfl, rfl, hak, hl, hp, q⟩ := h
  walk_at "sts"
  refine L_slS ?_
  walk_at "sts"
  refine L_rSlS (.of hp) (by omega) ?_
  walk_at "nwp"
  rename_i p1 hp1 H1 s1 e1
  rw [pickS_ev V.int ps hak] at e1
  walk_at "sts"
  refine fun x dx nx nd ne => ?_
  have s2 := same_made (C := cA mg "Told") nx nd ne
  have el : (evy ps a k).length ≤ 24 := Nat.le_trans (by unfold evy; exact Nat.le_trans (fm_le _ _) (by rw [List.length_range]; exact Nat.le_refl _)) hl
  refine ⟨dx, evy ps a k, upd_same, .of (s2 _ _ e1), by omega, fun p H' keep hx' hp' => ⟨rfl, ?_⟩⟩
  have s3 : Same H1 H' := fun b o hb => keep b o (s2 _ _ hb) (ne_of_none hb nx)
  exact q _ _ (s1.trans s3) ⟨x, dx, p, rfl, hx', hp'⟩
/-- a plan Loose at x -/
def LooA (mg : Str → Option Value) (x : Addr) (m : Int) (H : Hp) : Prop := ∃ dx, H x = some (.ins (cA mg "Loose") dx [("many", .int m)])
/-! the nodes: told, Start's die, a loose one's die -/
inductive Nd where
  | tol (ks : List Int)
  | sta (ps : List Int) (k : Nat)
  | loo (ps : List Int) (ss : List (Int × Int)) (ks : List Int)
  | few (n : NdF)
def opn (s : Int × Int) : Prop := 0 < s.1 ∧ s.1 < s.2
instance (s : Int × Int) : Decidable (opn s) := inferInstanceAs (Decidable (_ ∧ _))
/-- the first open one -/
def skipL : List Int → List (Int × Int) → List Int → Nd
  | _, [], ks => .tol ks
  | ps, s :: ss, ks => if opn s then .loo ps (s :: ss) ks else skipL (ps.drop 1) ss (if 0 < s.1 then ks ++ ps.take 1 else ks)
def told : Nd → Option (List Int)
  | .tol ks => some (srtI ks)
  | .few n => toldF n
  | .sta _ _ => none
  | .loo _ _ _ => none
def parts : Nd → List (Int × Nd)
  | .tol _ => []
  | .sta ps k => (List.range k).map fun a => (1, .tol (evy ps a k))
  | .loo _ [] _ => []
  | .few n => [(n.2.1, .few (first n)), (n.1.length - n.2.1, .few (second n))]
  | .loo ps (s :: r) ks => [(s.1, skipL (ps.drop 1) r (ks ++ ps.take 1)), (s.2 - s.1, skipL (ps.drop 1) r ks)]
structure OkL (ps : List Int) (ss : List (Int × Int)) (ks : List Int) : Prop where
  eq : ps.length = ss.length
  le : ps.length + ks.length ≤ 24
/-- what a lambda of a loose one holds -/
def HeldL (K : PySem.W.Frag) (P : Addr → Prop) (ps : List Int) (ss : List (Int × Int)) (ks : List Int) (pa sa ka : Addr) (H : Hp) : Prop := H pa = some (.lst (ps.map V.int)) ∧ (∃ us, H sa = some (.lst us) ∧ DpAll K H us (ss.map d2)) ∧ H ka = some (.lst (ks.map V.int)) ∧ P pa ∧ P sa ∧ P ka
theorem HeldL.ev {K : PySem.W.Frag} {P : Addr → Prop} {T : List (Addr × Str)} {ps : List Int} {ss : List (Int × Int)} {ks : List Int} {pa sa ka : Addr} {H H' : Hp} (h : HeldL K P ps ss ks pa sa ka H) (e : Ev T H H') : HeldL K P ps ss ks pa sa ka H' := by
  obtain ⟨h1, ⟨us, h2, h3⟩, h4, h5⟩ := h
  exact ⟨e.lst h1, ⟨us, e.lst h2, e.dpA h3⟩, e.lst h4, h5⟩
theorem d2A_mu {K : PySem.W.Frag} {H : Hp} {D : Addr} {us : List V} {o : HO} (e : H D = some (.lst us)) : ∀ {vs : List V} {ss : List (Int × Int)}, DpAll K H vs (ss.map d2) → DpAll K (upd H D o) vs (ss.map d2)
  | _, [], h => by cases h; exact .nil
  | _, s :: ss, h => by
    cases h with | cons h1 h2 =>
    obtain ⟨a, rfl, hq⟩ := of_d2 h1
    exact .cons (.tup (sqT_upd e hq) (.cons (.int _) (.cons (.int _) .nil))) (d2A_mu e h2)
theorem HeldL.mu {K : PySem.W.Frag} {P : Addr → Prop} {ps : List Int} {ss : List (Int × Int)} {ks : List Int} {pa sa ka D : Addr} {H : Hp} {us : List V} {o : HO} (h : HeldL K P ps ss ks pa sa ka H) (e : H D = some (.lst us)) (nD : ¬ P D) : HeldL K P ps ss ks pa sa ka (upd H D o) := by
  obtain ⟨h1, ⟨vs, h2, h3⟩, h4, h5, h6, h7⟩ := h
  exact ⟨by rw [upd_ne fun z => nD (by rw [← z]; exact h5)]; exact h1, ⟨vs, by rw [upd_ne fun z => nD (by rw [← z]; exact h6)]; exact h2, d2A_mu e h3⟩, by rw [upd_ne fun z => nD (by rw [← z]; exact h7)]; exact h4, h5, h6, h7⟩
/-- the die of the first of some -/
def AtL (K : PySem.W.Frag) (mg : Str → Option Value) (P : Addr → Prop) (ps : List Int) (s : Int × Int) (r : List (Int × Int)) (ks : List Int) (v : V) (H : Hp) : Prop := OkL ps (s :: r) ks ∧ ∃ a dx p q0 q1 f0 f1, v = .ref a ∧ H a = some (.ins (cA mg "Die") dx [("ways", .ref p)]) ∧ H p = some (.tup [.ref q0, .ref q1]) ∧ H q0 = some (.tup [.int s.1, .ref f0]) ∧ H q1 = some (.tup [.int (s.2 - s.1), .ref f1]) ∧
  (∃ pa sa ka, LamAt_loose_die_l0 [.ref ka, .ref pa, .ref sa] f0 H ∧ HeldL K P ps (s :: r) ks pa sa ka H) ∧ (∃ pa sa ka, LamAt_loose_die_l1 [.ref ka, .ref pa, .ref sa] f1 H ∧ HeldL K P ps (s :: r) ks pa sa ka H)
theorem AtL.ev {K : PySem.W.Frag} {mg : Str → Option Value} {P : Addr → Prop} {T : List (Addr × Str)} {ps : List Int} {s : Int × Int} {r : List (Int × Int)} {ks : List Int} {v : V} {H H' : Hp} (h : AtL K mg P ps s r ks v H) (e : Ev T H H') : AtL K mg P ps s r ks v H' := by
  obtain ⟨ok, a, dx, p, q0, q1, f0, f1, rfl, h1, h2, h3, h4, ⟨pa, sa, ka, L, h5⟩, ⟨pa2, sa2, ka2, L2, h6⟩⟩ := h
  exact ⟨ok, a, dx, p, q0, q1, f0, f1, rfl, e.ins h1, e.tup h2, e.tup h3, e.tup h4, ⟨pa, sa, ka, L.ext e.ex, h5.ev e⟩, ⟨pa2, sa2, ka2, L2.ext e.ex, h6.ev e⟩⟩
theorem AtL.mu {K : PySem.W.Frag} {mg : Str → Option Value} {P : Addr → Prop} {ps : List Int} {s : Int × Int} {r : List (Int × Int)} {ks : List Int} {v : V} {H : Hp} {D : Addr} {us : List V} {o : HO} (h : AtL K mg P ps s r ks v H) (e : H D = some (.lst us)) (nD : ¬ P D) : AtL K mg P ps s r ks v (upd H D o) := by
  obtain ⟨ok, a, dx, p, q0, q1, f0, f1, rfl, h1, h2, h3, h4, ⟨pa, sa, ka, L, h5⟩, ⟨pa2, sa2, ka2, L2, h6⟩⟩ := h
  have kt : ∀ b xs, H b = some (.tup xs) → upd H D o b = some (.tup xs) := fun b xs hb => upd_keep e hb (fun _ z => nomatch z)
  exact ⟨ok, a, dx, p, q0, q1, f0, f1, rfl, upd_keep e h1 (fun _ z => nomatch z), kt _ _ h2, kt _ _ h3, kt _ _ h4, ⟨pa, sa, ka, L.up e, h5.mu e nD⟩, ⟨pa2, sa2, ka2, L2.up e, h6.mu e nD⟩⟩
/-- v is the node -/
def AtN (K : PySem.W.Frag) (mg : Str → Option Value) (P : Addr → Prop) (n : Nd) (v : V) (H : Hp) : Prop := match n with
  | .tol ks => TolA mg (srtI ks) v H
  | .sta ps k => AtS mg P ps k v H
  | .loo ps (s :: r) ks => AtL K mg P ps s r ks v H
  | .loo _ [] _ => False
  | .few n => AtF mg P n v H
theorem AtN.ev {K : PySem.W.Frag} {mg : Str → Option Value} {P : Addr → Prop} {T : List (Addr × Str)} {H H' : Hp} {v : V} : ∀ {n : Nd}, AtN K mg P n v H → Ev T H H' → AtN K mg P n v H'
  | .tol _, h, e => TolA.ev h e
  | .sta _ _, h, e => AtS.ev h e
  | .loo _ (_ :: _) _, h, e => AtL.ev h e
  | .loo _ [] _, h, _ => h
  | .few _, h, e => AtF.ev h e
theorem AtN.mu {K : PySem.W.Frag} {mg : Str → Option Value} {P : Addr → Prop} {H : Hp} {v : V} {D : Addr} {us : List V} {o : HO} : ∀ {n : Nd}, AtN K mg P n v H → H D = some (.lst us) → ¬ P D → AtN K mg P n v (upd H D o)
  | .tol _, h, e, _ => TolA.mu h e
  | .sta _ _, h, e, n => AtS.mu h e n
  | .loo _ (_ :: _) _, h, e, n => AtL.mu h e n
  | .loo _ [] _, h, _, _ => h
  | .few _, h, e, n => AtF.mu h e n
theorem drop_at0 {α : Type} : ∀ {l : List α} {i : Nat} {x : α}, l[i]? = some x → l.drop i = x :: l.drop (i + 1)
  | [], _, _, h => by simp at h
  | _ :: _, 0, _, h => by cases h; rfl
  | _ :: l, i + 1, _, h => drop_at0 (l := l) (i := i) h
theorem dpA_drop {K : PySem.W.Frag} {H : Hp} : ∀ {us : List V} {ds : List PyData} (i : Nat), DpAll K H us ds → DpAll K H (us.drop i) (ds.drop i)
  | _, _, 0, h => h
  | _, [], i + 1, h => by cases h; exact .nil
  | _, d :: ds, i + 1, h => by
    cases h with | cons h1 h2 => exact dpA_drop i h2
theorem sqL_keep {K : PySem.W.Frag} {H Hd : Hp} {a : Addr} {xs : List V} (h : SqL K H a xs) (keep : ∀ b o, H b = some o → (∀ φ, o ≠ .ext φ) → Hd b = some o) : SqL K Hd a xs := by
  rcases h with (h | ⟨o, h⟩) | h
  · exact .inl (.inl (keep _ _ h (fun _ z => nomatch z)))
  · exact .inl (.inr ⟨o, keep _ _ h (fun _ z => nomatch z)⟩)
  · exact .inr h
theorem sqT_keep {K : PySem.W.Frag} {H Hd : Hp} {a : Addr} {xs : List V} (h : SqT K H a xs) (keep : ∀ b o, H b = some o → (∀ φ, o ≠ .ext φ) → Hd b = some o) : SqT K Hd a xs := by
  rcases h with (h | ⟨o, h⟩) | h
  · exact .inl (.inl (keep _ _ h (fun _ z => nomatch z)))
  · exact .inl (.inr ⟨o, keep _ _ h (fun _ z => nomatch z)⟩)
  · exact .inr h
/-- a node is promised -/
def NodeQ (K : PySem.W.Frag) (mg : Str → Option Value) (P : Addr → Prop) (n : Nd) (H : Hp) (Q : VK) : Prop := ∀ x H', Ev (tabsL K mg) H H' → AtN K mg P n x H' → Q x H'
def sp_loose_die (K : PySem.W.Frag) (mg : Str → Option Value) : Sp := fun vs H Q _ => match vs with | [.ref pa, .ref sa, .ref ka] => ∃ (P : Addr → Prop) (ps : List Int) (s : Int × Int) (r : List (Int × Int)) (ks : List Int), HeldL K P ps (s :: r) ks pa sa ka H ∧ OkL ps (s :: r) ks ∧ Tabs (tabsL K mg) H ∧ NodeQ K mg P (.loo ps (s :: r) ks) H Q | _ => False
theorem q_loose_die {H : Hp} {Q : VK} {E : XK} {pa : Addr} {sa : Addr} {ka : Addr} (q : ∃ (P : Addr → Prop) (ps : List Int) (s : Int × Int) (r : List (Int × Int)) (ks : List Int), HeldL K P ps (s :: r) ks pa sa ka H ∧ OkL ps (s :: r) ks ∧ Tabs (tabsL K mg) H ∧ NodeQ K mg P (.loo ps (s :: r) ks) H Q) : sp_loose_die K mg [.ref pa, .ref sa, .ref ka] H Q E := q
local macro_rules | `(tactic| walk_at "op") => `(tactic| with_reducible refine q_loose_die ?_)
theorem c_loose_die (T : Txt K mg base) : Cal P w K mg base 3 "loose_die" (sp_loose_die K mg) := by
  refine T.d_loose_die.calK (as := [("places", 0), ("shares", 1), ("kept", 2)]) (k := 2) sc_loose_die (by intro vs H Q E h; unfold sp_loose_die at h; split at h <;> first | rfl | exact h.elim) (by decide +kernel) fun f A outer s H vs Q E hr h => ?_
  refine ⟨_, (psr_cons (ps_asg (pe_ix ix_seq (pv 1) pe_int (fun _ _ => rfl)) (pg_tup rfl (pgs_cons (pg_name (i := 3) sc_loose_die.nd rfl (.inl rfl)) (pgs_cons (pg_name (i := 4) sc_loose_die.nd rfl (.inl rfl)) pgs_nil))))
    (psr_cons (ps_set (i := 5) sc_loose_die.nd rfl (.inl rfl) (pe_tup (pa_cons (pv 3) (pa_cons (pe_lamE (T := tabsL K mg) (q := "loose_die.<locals>.<lambda>") s_loose_die e_loose_die_0 (by rfl) T.tb_loose_die rfl (show ("loose_die" : Str) ++ ".<locals>." ++ "<lambda>" = ("loose_die.<locals>.<lambda>" : Str) from by decide +kernel) (by unfold tabsL; simp) T.hu_loose_die (by rfl) (freeIn_ok (sc := defScope s_loose_die) (lsc := lamS s_loose_die e_loose_die_0) (by decide +kernel))) pa_nil))))
    (psr_cons (ps_set (i := 6) sc_loose_die.nd rfl (.inl rfl) (pe_tup (pa_cons (pe_op op_sub (pv 4) (pv 3)) (pa_cons (pe_lamE (T := tabsL K mg) (q := "loose_die.<locals>.<lambda>") s_loose_die e_loose_die_1 (by rfl) T.tb_loose_die rfl (show ("loose_die" : Str) ++ ".<locals>." ++ "<lambda>" = ("loose_die.<locals>.<lambda>" : Str) from by decide +kernel) (by unfold tabsL; simp) T.hu_loose_die (by rfl) (freeIn_ok (sc := defScope s_loose_die) (lsc := lamS s_loose_die e_loose_die_1) (by decide +kernel))) pa_nil))))
    (psr_ret (pe_mk (m_Die T) hr (by decide) (by rfl) (pa_cons (pe_lst (pa_cons (pv 5) (pa_cons (pv 6) pa_nil))) pa_nil)))))), ?_⟩
  try simp only [cxOf_K, cxOf_K', cxOf_mg, cxOf_mg']
  unfold sp_loose_die at h
  split at h
  case h_2 => exact h.elim
  rename_i pa sa ka
  rw [show L2.start ["places", "shares", "kept", "top", "bottom", "first", "second"] [V.ref pa, V.ref sa, V.ref ka] = [some (V.ref pa), some (V.ref sa), some (V.ref ka), none, none, none, none] from rfl]
  obtain ⟨P, ps, s0, r, ks, hh, hok, hT, q⟩ := h
  have hh' := hh
  obtain ⟨hp, ⟨us, hs, hd⟩, hk, hP⟩ := hh'
  walk_at "sts"
  cases hd with | cons hd1 hd2 =>
  obtain ⟨t0, rfl, ht0⟩ := of_d2 hd1
  refine L_ixL (.of hs) (atI_int (by decide) rfl) ?_
  refine L_gTup ht0 rfl ?_
  walk_at "sts"
  refine ⟨hT, fun f0 c0 H1 ex1 T1 hf1 l1 k1 => ?_⟩
  walk_at "sts"
  walk_at "nw"
  rename_i q0 hq0 H2 s2 e2
  walk_at "sts"
  refine ⟨T1.ext s2, fun f1 c1 H3 ex3 T3 hf3 l3 k3 => ?_⟩
  walk_at "sts"
  walk_at "nw"
  rename_i q1 hq1 H4 s4 e4
  walk_at "sts"
  walk_at "nw"
  rename_i p5 hp5 H5 s5 e5
  walk_at "sts"
  refine fun x dx nx nd ne => ?_
  have s6 := same_made (C := cA mg "Die") nx nd ne
  refine ⟨dx, [.ref q0, .ref q1], upd_same, .of (s6 _ _ e5), fun p H6 keep hx6 hp6 => ⟨rfl, ?_⟩⟩
  have s56 : Same H5 H6 := fun b o hb => keep b o (s6 _ _ hb) (ne_of_none hb nx)
  have ev12 : Ev (tabsL K mg) H1 H3 := (Ev.same s2).trans (.made ex3 T3)
  have ev36 : Ev (tabsL K mg) H3 H6 := .same (s4.trans (s5.trans s56))
  have evH : Ev (tabsL K mg) H H6 := (Ev.made ex1 T1).trans (ev12.trans ev36)
  refine ⟨[("places", 0), ("shares", 1), ("kept", 2)], [.ref pa, .ref sa, .ref ka], by simp, by decide +kernel, rfl, fun H7 inj sm hat => ?_⟩
  have ev7 : Ev (tabsL K mg) H6 H7 := .same sm
  obtain ⟨a0, g0, _, g1⟩ := hat 0 _ _ rfl rfl
  obtain ⟨a1, g2, _, g3⟩ := hat 1 _ _ rfl rfl
  obtain ⟨a2, g4, _, g5⟩ := hat 2 _ _ rfl rfl
  have cells : ∀ (i : Nat) y w, ([("kept" : Str), "places", "shares"] : List Str)[i]? = some y → ([V.ref ka, V.ref pa, V.ref sa] : List V)[i]? = some w → ∃ c, (cellsFrom (s.heap.objs.size + 1) (defScope s_loose_die).names []).lookup y = some c ∧ H7 c = some (CellO c w) := fun i y w hi hw => by
    match i, hi, hw with
    | 0, hi, hw => cases hi; cases hw; exact ⟨a2, g4, g5⟩
    | 1, hi, hw => cases hi; cases hw; exact ⟨a0, g0, g1⟩
    | 2, hi, hw => cases hi; cases hw; exact ⟨a1, g2, g3⟩
  have ev17 := ev12.trans (ev36.trans ev7)
  have ev37 := ev36.trans ev7
  have L0 : LamAt_loose_die_l0 [.ref ka, .ref pa, .ref sa] f0 H7 := ⟨c0, _, ev17.ex _ _ l1 (fun _ z => nomatch z), ev17.ex _ _ k1 codeO_ne, heldC_of inj (frIs_ok (by decide +kernel)) rfl cells⟩
  have L1 : LamAt_loose_die_l1 [.ref ka, .ref pa, .ref sa] f1 H7 := ⟨c1, _, ev37.ex _ _ l3 (fun _ z => nomatch z), ev37.ex _ _ k3 codeO_ne, heldC_of inj (frIs_ok (by decide +kernel)) rfl cells⟩
  have hh7 := hh.ev (evH.trans ev7)
  refine q _ _ (evH.trans ev7) ⟨hok, x, dx, p, q0, q1, f0, f1, rfl, ev7.ins hx6, ev7.tup hp6, ((Ev.made ex3 T3).trans ev37).tup e2, ((Ev.same (s5.trans s56) : Ev (tabsL K mg) _ _).trans ev7).tup e4, ⟨pa, sa, ka, L0, hh7⟩, ⟨pa, sa, ka, L1, hh7⟩⟩
def sp_loose_node (K : PySem.W.Frag) (mg : Str → Option Value) : Sp := fun vs H Q _ => match vs with | [.ref pa, .ref sa, .ref ka] => ∃ (P : Addr → Prop) (ps : List Int) (ss : List (Int × Int)) (ks : List Int), HeldL K P ps ss ks pa sa ka H ∧ OkL ps ss ks ∧ NL P H ∧ Tabs (tabsL K mg) H ∧ NodeQ K mg P (skipL ps ss ks) H Q | _ => False
theorem q_loose_node {H : Hp} {Q : VK} {E : XK} {pa : Addr} {sa : Addr} {ka : Addr} (q : ∃ (P : Addr → Prop) (ps : List Int) (ss : List (Int × Int)) (ks : List Int), HeldL K P ps ss ks pa sa ka H ∧ OkL ps ss ks ∧ NL P H ∧ Tabs (tabsL K mg) H ∧ NodeQ K mg P (skipL ps ss ks) H Q) : sp_loose_node K mg [.ref pa, .ref sa, .ref ka] H Q E := q
local macro_rules | `(tactic| walk_at "op") => `(tactic| with_reducible refine q_loose_node ?_)
theorem c_loose_node (T : Txt K mg base) : Cal P w K mg base 4 "loose_node" (sp_loose_node K mg) := by
  refine T.d_loose_node.cal (k := 3) sc_loose_node (by intro vs H Q E h; unfold sp_loose_node at h; split at h <;> first | rfl | exact h.elim) fun f cdv A outer s H vs Q E hr h => ?_
  refine ⟨_, (pss_cons (ps_set (i := 3) sc_loose_node.nd rfl (.inl rfl) pe_int)
    (pss_cons (ps_while PassesOwn.never (PW.pt (pw_and (pt_cmpR op_ltA (pv 3) (pe_callB call_lenA (by rfl) T.n_len (by decide +kernel) (pa_cons (pv 1) pa_nil)) (nomark _)) (pw_and1 (pt_not (pt_chain op_ltA op_ltA pe_int (pe_ix ix_seq (pe_ix ix_seq (pv 1) (pv 3) (fun _ _ => rfl)) pe_int (fun _ _ => rfl)) (pe_ix ix_seq (pe_ix ix_seq (pv 1) (pv 3) (fun _ _ => rfl)) pe_int (fun _ _ => rfl)))))))
    (pss_cons (ps_if (pt_cmpR op_gt (pe_ix ix_seq (pe_ix ix_seq (pv 1) (pv 3) (fun _ _ => rfl)) pe_int (fun _ _ => rfl)) pe_int (nomark _))
    (pss_one (ps_set (i := 2) sc_loose_node.nd rfl (.inl rfl) (pe_op op_addA (pv 2) (pe_slice sl_list (pv 0) (po_some (pv 3)) (po_some (pe_op op_addA (pv 3) pe_int))))))
    pss_nil)
    (pss_one (ps_aug (i := 3) sc_loose_node.nd rfl (.inl rfl) pe_int ip_add))))
    (pss_cons (ps_if (pt_cmpR (op_eqA hr) (pv 3) (pe_callB call_lenA (by rfl) T.n_len (by decide +kernel) (pa_cons (pv 1) pa_nil)) (nomark _))
    (pss_one (ps_ret (pe_mk (m_Told T) hr (by decide) (by rfl) (pa_cons (pv 2) pa_nil))))
    pss_nil)
    (pss_one (ps_ret (pe_c (c_loose_die T) hr (by decide) (by rfl) (pa_cons (pe_slice sl_list (pv 0) (po_some (pv 3)) po_none) (pa_cons (pe_slice sl_list (pv 1) (po_some (pv 3)) po_none) (pa_cons (pv 2) pa_nil))))))))), ?_⟩
  try simp only [cxOf_K, cxOf_K', cxOf_mg, cxOf_mg']
  unfold sp_loose_node at h
  split at h
  case h_2 => exact h.elim
  rename_i pa sa ka
  rw [show L2.start ["places", "shares", "kept", "at"] [V.ref pa, V.ref sa, V.ref ka] = [some (V.ref pa), some (V.ref sa), some (V.ref ka), none] from rfl]
  obtain ⟨P, ps, ss, ks, hh, hok, hNL, hT, q⟩ := h
  obtain ⟨hp, ⟨us, hs, hd⟩, hk, hPp, hPs, hPk⟩ := hh
  have hul : us.length = ss.length := by rw [hd.len, List.length_map]
  walk_at "sts"
  refine L_while (fun m σ' H' => ∃ (i : Nat) (ks' : List Int) (ka' : Addr), σ' = [some (.ref pa), some (.ref sa), some (.ref ka'), some (.int i)] ∧ i ≤ ss.length ∧ m = ss.length - i ∧ Same H H' ∧ H' ka' = some (.lst (ks'.map V.int)) ∧ P ka' ∧ OkL (ps.drop i) (ss.drop i) ks' ∧ skipL ps ss ks = skipL (ps.drop i) (ss.drop i) ks') ⟨_, 0, ks, ka, rfl, Nat.zero_le _, rfl, .refl _, hk, hPk, hok, rfl⟩ ?_
  rintro m σ' H' ⟨i, ks', ka', rfl, hi, rfl, s1, ek, hPk', ok', sk⟩
  walk_at "sts"
  refine L_lenL (.of (s1 _ _ hs)) ?_
  walk_at "sts"
  rw [hul]
  refine L_d (fun c => ?_) (fun c => ?_)
  · obtain ⟨s0, hs0⟩ : ∃ s0, ss[i]? = some s0 := ⟨_, List.getElem?_eq_getElem (by omega)⟩
    obtain ⟨x0, hx0⟩ : ∃ x0, us[i]? = some x0 := ⟨_, List.getElem?_eq_getElem (by omega)⟩
    obtain ⟨s', t0, hs', rfl, ht0⟩ := hit2 hd hx0
    rw [hs0] at hs'
    cases hs'
    have ix : ∀ Q : VK, Q (.ref t0) H' → rIx K (.ref sa) (.int i) H' Q := fun Q q => L_ixL (.of (s1 _ _ hs)) (atI_int (by omega) hx0) q
    have hd1 := drop_at0 hs0
    have sk1 : skipL (ps.drop i) (ss.drop i) ks' = if opn s0 then .loo (ps.drop i) (s0 :: ss.drop (i + 1)) ks' else skipL (ps.drop (i + 1)) (ss.drop (i + 1)) (if 0 < s0.1 then ks' ++ (ps.drop i).take 1 else ks') := by
      rw [hd1, skipL, List.drop_drop]
    walk_at "sts"
    refine ix _ ?_
    walk_at "sts"
    refine L_ixT (s1.seqT ht0) rfl ?_
    walk_at "sts"
    have hll : ps.length = ss.length := hok.eq
    have okn : ∀ k2 : List Int, k2.length ≤ ks'.length + 1 → OkL (ps.drop (i + 1)) (ss.drop (i + 1)) k2 := fun k2 hk2 => ⟨by rw [List.length_drop, List.length_drop]; omega, by have := ok'.le; rw [List.length_drop] at this ⊢; omega⟩
    refine L_d (fun c1 => ?_) (fun c1 => ?_)
    · walk_at "sts"
      refine ix _ ?_
      walk_at "sts"
      refine L_ixT (s1.seqT ht0) rfl ?_
      walk_at "sts"
      refine L_nd (fun c2 => ?_) (fun c2 => ?_)
      · rw [if_neg (fun z : opn s0 => c2 z.2), if_pos c1] at sk1
        walk_at "sts"
        refine L_N ?_
        walk_at "sts"
        refine ix _ ?_
        walk_at "sts"
        refine L_ixT (s1.seqT ht0) rfl ?_
        walk_at "sts"
        refine L_dT c1 ?_
        walk_at "sts"
        refine L_slL (.of (s1 _ _ hp)) fun p2 hp2 => ?_
        rw [show ((i : Int) + 1) = ((i + 1 : Nat) : Int) from rfl, cutV_map, cutG_both _ (by omega) (by omega), show i + 1 - i = 1 by omega]
        have s2 := same_new (o := .lst (((ps.drop i).take 1).map V.int)) hp2
        have e2 : upd H' p2 (.lst (((ps.drop i).take 1).map V.int)) p2 = some (.lst (((ps.drop i).take 1).map V.int)) := upd_same
        generalize upd H' p2 (.lst (((ps.drop i).take 1).map V.int)) = H2 at s2 e2 ⊢
        walk_at "sts"
        have ol := ok'.le
        refine L_addL (s2 _ _ ek) e2 (sz_dec (by simp; omega)) ?_
        walk_at "nwp"
        rename_i p3 hp3 H3 s3 e3
        walk_at "sts"
        have s13 := s1.trans (s2.trans s3)
        refine ⟨_, ?_, i + 1, ks' ++ (ps.drop i).take 1, p3, rfl, by omega, rfl, s13, by rw [e3, List.map_append], hNL.new ((s1.trans s2).free hp3), okn _ (by rw [List.length_append, List.length_take]; omega), by rw [sk, sk1]⟩
        omega
      · rw [if_pos (show opn s0 from ⟨c1, c2⟩)] at sk1
        walk_at "sts"
        refine L_lenL (.of (s1 _ _ hs)) ?_
        walk_at "sts"
        rw [hul]
        refine L_dF (show ¬ ((i : Int) = (ss.length : Int)) by omega) ?_
        walk_at "sts"
        refine L_slL (.of (s1 _ _ hp)) fun p2 hp2 => ?_
        rw [cutV_map, cutG_drop]
        have s2 := same_new (o := .lst ((ps.drop i).map V.int)) hp2
        have e2 : upd H' p2 (.lst ((ps.drop i).map V.int)) p2 = some (.lst ((ps.drop i).map V.int)) := upd_same
        generalize upd H' p2 (.lst ((ps.drop i).map V.int)) = H2 at s2 e2 ⊢
        walk_at "sts"
        refine L_slL (.of (s2 _ _ (s1 _ _ hs))) fun p3 hp3 => ?_
        rw [show us = us.map id by rw [List.map_id], cutV_map, cutG_drop, List.map_id]
        have s3 := same_new (o := .lst (us.drop i)) hp3
        have e3 : upd H2 p3 (.lst (us.drop i)) p3 = some (.lst (us.drop i)) := upd_same
        generalize upd H2 p3 (.lst (us.drop i)) = H3 at s3 e3 ⊢
        walk_at "sts"
        have s13 : Ev (tabsL K mg) H H3 := .same (s1.trans (s2.trans s3))
        refine ⟨P, ps.drop i, s0, ss.drop (i + 1), ks', ⟨s3 _ _ e2, ⟨us.drop i, e3, ?_⟩, s3 _ _ (s2 _ _ ek), hNL.new (s1.free hp2), hNL.new ((s1.trans s2).free hp3), hPk'⟩, by rw [← hd1]; exact ok', s13.tb hT, fun x H4 ev at4 => q x H4 (s13.trans ev) ?_⟩
        · rw [← hd1, List.map_drop]
          exact dpA_drop i (s13.dpA hd)
        · rw [sk, sk1]
          exact at4
    · rw [if_neg (fun z : opn s0 => c1 z.1), if_neg c1] at sk1
      walk_at "sts"
      refine L_N ?_
      walk_at "sts"
      refine ix _ ?_
      walk_at "sts"
      refine L_ixT (s1.seqT ht0) rfl ?_
      walk_at "sts"
      refine L_dF c1 ?_
      walk_at "sts"
      refine ⟨_, ?_, i + 1, ks', ka', rfl, by omega, rfl, s1, ek, hPk', okn _ (by omega), by rw [sk, sk1]⟩
      omega
  · walk_at "sts"
    refine L_lenL (.of (s1 _ _ hs)) ?_
    walk_at "sts"
    rw [hul]
    refine L_dT (show (i : Int) = (ss.length : Int) by omega) ?_
    walk_at "sts"
    refine fun x dx nx nd ne => ?_
    have s2 := same_made (C := cA mg "Told") nx nd ne
    refine ⟨dx, ks', upd_same, .of (s2 _ _ ek), by have := ok'.le; omega, fun p H2 keep hx' hp' => ⟨rfl, ?_⟩⟩
    have s3 : Same H' H2 := fun b o hb => keep b o (s2 _ _ hb) (ne_of_none hb nx)
    refine q _ _ (.same (s1.trans s3)) ?_
    rw [sk, List.drop_of_length_le (l := ss) (by omega), skipL]
    exact ⟨x, dx, p, rfl, hx', hp'⟩
def sp_loose_die_l0 (K : PySem.W.Frag) (mg : Str → Option Value) : List V → Hp → VK → Prop := fun ws H Q => match ws with | [.ref ka, .ref pa, .ref sa] => ∃ (P : Addr → Prop) (ps : List Int) (s : Int × Int) (r : List (Int × Int)) (ks : List Int), HeldL K P ps (s :: r) ks pa sa ka H ∧ OkL ps (s :: r) ks ∧ NL P H ∧ Tabs (tabsL K mg) H ∧ NodeQ K mg P (skipL (ps.drop 1) r (ks ++ ps.take 1)) H Q | _ => False
/-- the lambda called -/
abbrev tClo_loose_die_l0 (K : PySem.W.Frag) (mg : Str → Option Value) (i : Nat) : TE := tClo "loose_die.<locals>.<lambda>" (lamP s_loose_die e_loose_die_0) (lamB e_loose_die_0) (lamS s_loose_die e_loose_die_0) ["kept", "places", "shares"] i (sp_loose_die_l0 K mg)
theorem c_loose_die_l0 (T : Txt K mg base) : LOk P w K mg base 5 "loose_die.<locals>.<lambda>" (lamP s_loose_die e_loose_die_0) (lamB e_loose_die_0) (lamS s_loose_die e_loose_die_0) ["kept", "places", "shares"] (sp_loose_die_l0 K mg) := by
  refine lok_of (N := ["kept", "places", "shares"]) (k := 4) (nscope_by (by decide +kernel)) (fun _ _ _ _ => rfl) fun f c cl A outer s H ws Q hr len h => ?_
  refine ⟨_, (pe_c (c_loose_node T) hr (by decide) (by rfl) (pa_cons (pe_slice sl_list (pv 1) (po_some pe_int) po_none) (pa_cons (pe_slice sl_list (pv 2) (po_some pe_int) po_none) (pa_cons (pe_op op_addA (pv 0) (pe_slice sl_list (pv 1) po_none (po_some pe_int))) pa_nil)))), ?_⟩
  try simp only [ncx_K, ncx_mg]
  unfold sp_loose_die_l0 at h
  split at h
  case h_2 => exact h.elim
  rename_i ka pa sa
  rw [show startF ["kept", "places", "shares"] [] ([V.ref ka, V.ref pa, V.ref sa].map some) = [some (V.ref ka), some (V.ref pa), some (V.ref sa)] from rfl]
  obtain ⟨P, ps, s0, r, ks, ⟨hp, ⟨us, hs, hd⟩, hk, hP⟩, hok, hNL, hT, q⟩ := h
  walk_at "sts"
  refine L_slL (.of hp) fun p1 hp1 => ?_
  rw [cutV_map, show cutG ps (some 1) none = ps.drop 1 from cutG_drop ps 1]
  have s1 := same_new (o := .lst ((ps.drop 1).map V.int)) hp1
  have e1 : upd H p1 (.lst ((ps.drop 1).map V.int)) p1 = some (.lst ((ps.drop 1).map V.int)) := upd_same
  generalize upd H p1 (.lst ((ps.drop 1).map V.int)) = H1 at s1 e1 ⊢
  walk_at "sts"
  refine L_slL (.of (s1 _ _ hs)) fun p2 hp2 => ?_
  rw [show us = us.map id by rw [List.map_id], cutV_map, show cutG us (some 1) none = us.drop 1 from cutG_drop us 1, List.map_id]
  have s2 := same_new (o := .lst (us.drop 1)) hp2
  have e2 : upd H1 p2 (.lst (us.drop 1)) p2 = some (.lst (us.drop 1)) := upd_same
  generalize upd H1 p2 (.lst (us.drop 1)) = H2 at s2 e2 ⊢
  walk_at "sts"
  have s12 := s1.trans s2
  refine L_slL (.of (s12 _ _ hp)) fun p3 hp3 => ?_
  rw [cutV_map, show cutG ps none (some 1) = ps.take 1 from cutG_take ps 1]
  have s3 := same_new (o := .lst ((ps.take 1).map V.int)) hp3
  have e3 : upd H2 p3 (.lst ((ps.take 1).map V.int)) p3 = some (.lst ((ps.take 1).map V.int)) := upd_same
  generalize upd H2 p3 (.lst ((ps.take 1).map V.int)) = H3 at s3 e3 ⊢
  walk_at "sts"
  have hle := hok.le
  refine L_addL (s3 _ _ (s12 _ _ hk)) e3 (sz_dec (by simp; omega)) ?_
  walk_at "nwp"
  rename_i p4 hp4 H4 s4 e4
  have s24 := s2.trans (s3.trans s4)
  have ev : Ev (tabsL K mg) H H4 := .same (s1.trans s24)
  have heq := hok.eq
  rw [List.length_cons] at heq
  refine ⟨P, ps.drop 1, r, ks ++ ps.take 1, ⟨s24 _ _ e1, ⟨us.drop 1, (s3.trans s4) _ _ e2, dpA_drop (ds := (s0 :: r).map d2) 1 (ev.dpA hd)⟩, by rw [e4, List.map_append], hNL.new hp1, hNL.new (s1.free hp2), hNL.new ((s12.trans s3).free hp4)⟩, ⟨by rw [List.length_drop]; omega, by rw [List.length_drop, List.length_append, List.length_take]; omega⟩, hNL.ev ev, ev.tb hT, fun x H' ev2 at1 => q x H' (ev.trans ev2) at1⟩
def sp_loose_die_l1 (K : PySem.W.Frag) (mg : Str → Option Value) : List V → Hp → VK → Prop := fun ws H Q => match ws with | [.ref ka, .ref pa, .ref sa] => ∃ (P : Addr → Prop) (ps : List Int) (s : Int × Int) (r : List (Int × Int)) (ks : List Int), HeldL K P ps (s :: r) ks pa sa ka H ∧ OkL ps (s :: r) ks ∧ NL P H ∧ Tabs (tabsL K mg) H ∧ NodeQ K mg P (skipL (ps.drop 1) r ks) H Q | _ => False
/-- the lambda called -/
abbrev tClo_loose_die_l1 (K : PySem.W.Frag) (mg : Str → Option Value) (i : Nat) : TE := tClo "loose_die.<locals>.<lambda>" (lamP s_loose_die e_loose_die_1) (lamB e_loose_die_1) (lamS s_loose_die e_loose_die_1) ["kept", "places", "shares"] i (sp_loose_die_l1 K mg)
theorem c_loose_die_l1 (T : Txt K mg base) : LOk P w K mg base 5 "loose_die.<locals>.<lambda>" (lamP s_loose_die e_loose_die_1) (lamB e_loose_die_1) (lamS s_loose_die e_loose_die_1) ["kept", "places", "shares"] (sp_loose_die_l1 K mg) := by
  refine lok_of (N := ["kept", "places", "shares"]) (k := 4) (nscope_by (by decide +kernel)) (fun _ _ _ _ => rfl) fun f c cl A outer s H ws Q hr len h => ?_
  refine ⟨_, (pe_c (c_loose_node T) hr (by decide) (by rfl) (pa_cons (pe_slice sl_list (pv 1) (po_some pe_int) po_none) (pa_cons (pe_slice sl_list (pv 2) (po_some pe_int) po_none) (pa_cons (pv 0) pa_nil)))), ?_⟩
  try simp only [ncx_K, ncx_mg]
  unfold sp_loose_die_l1 at h
  split at h
  case h_2 => exact h.elim
  rename_i ka pa sa
  rw [show startF ["kept", "places", "shares"] [] ([V.ref ka, V.ref pa, V.ref sa].map some) = [some (V.ref ka), some (V.ref pa), some (V.ref sa)] from rfl]
  obtain ⟨P, ps, s0, r, ks, ⟨hp, ⟨us, hs, hd⟩, hk, hP1, hP2, hP3⟩, hok, hNL, hT, q⟩ := h
  walk_at "sts"
  refine L_slL (.of hp) fun p1 hp1 => ?_
  rw [cutV_map, show cutG ps (some 1) none = ps.drop 1 from cutG_drop ps 1]
  have s1 := same_new (o := .lst ((ps.drop 1).map V.int)) hp1
  have e1 : upd H p1 (.lst ((ps.drop 1).map V.int)) p1 = some (.lst ((ps.drop 1).map V.int)) := upd_same
  generalize upd H p1 (.lst ((ps.drop 1).map V.int)) = H1 at s1 e1 ⊢
  walk_at "sts"
  refine L_slL (.of (s1 _ _ hs)) fun p2 hp2 => ?_
  rw [show us = us.map id by rw [List.map_id], cutV_map, show cutG us (some 1) none = us.drop 1 from cutG_drop us 1, List.map_id]
  have s2 := same_new (o := .lst (us.drop 1)) hp2
  have e2 : upd H1 p2 (.lst (us.drop 1)) p2 = some (.lst (us.drop 1)) := upd_same
  generalize upd H1 p2 (.lst (us.drop 1)) = H2 at s2 e2 ⊢
  walk_at "sts"
  have s12 := s1.trans s2
  have hle := hok.le
  have ev : Ev (tabsL K mg) H H2 := .same s12
  have heq := hok.eq
  rw [List.length_cons] at heq
  refine ⟨P, ps.drop 1, r, ks, ⟨s2 _ _ e1, ⟨us.drop 1, e2, dpA_drop (ds := (s0 :: r).map d2) 1 (ev.dpA hd)⟩, s12 _ _ hk, hNL.new hp1, hNL.new (s1.free hp2), hP3⟩, ⟨by rw [List.length_drop]; omega, by rw [List.length_drop]; omega⟩, hNL.ev ev, ev.tb hT, fun x H' ev2 at1 => q x H' (ev.trans ev2) at1⟩
/-- the lambda at f runs -/
def RuL (K : PySem.W.Frag) (mg : Str → Option Value) (f : Addr) (H : Hp) (Q : VK) : Prop := tClo_start_part_l0 K mg 0 [some (.ref f)] H Q ∨ tClo_loose_die_l0 K mg 0 [some (.ref f)] H Q ∨ tClo_loose_die_l1 K mg 0 [some (.ref f)] H Q
theorem ruL_at {f : Addr} {H : Hp} {Q : VK} {σ : L2.St} {i : Nat} (h : RuL K mg f H Q) (hs : σ[i]? = some (some (.ref f))) : tOrE (tClo_start_part_l0 K mg i) (tOrE (tClo_loose_die_l0 K mg i) (tClo_loose_die_l1 K mg i)) σ H Q := h.imp (fun h => tClo_at h hs) fun h => h.imp (fun h => tClo_at h hs) fun h => tClo_at h hs
theorem ru_side {P : Addr → Prop} {ps : List Int} {k a : Nat} {f : Addr} {H : Hp} {Q : VK} (hf : LamS P ps k a f H) (ha : a < k) (hl : ps.length ≤ 24) (hb : Tabs (tabsL K mg) H) (q : NodeQ K mg P (.tol (evy ps a k)) H Q) : RuL K mg f H Q := by
  obtain ⟨pa, L, hp, h5⟩ := hf
  refine .inl (L_clo L rfl (fun Hd sub keep tb => ⟨ps, k, a, rfl, rfl, ha, hl, keep _ _ hp (fun _ z => nomatch z), fun x H1 s1 at1 H2 s12 exx => ?_⟩) fun H Q Q' h m => ?_)
  · have e1 : Ev (tabsL K mg) Hd H1 := .same s1
    exact q x H2 (Ev.made (exx e1.ex) ((e1.tb (tb _ hb)).ext s12)) (TolA.ev at1 (.same s12 : Ev (tabsL K mg) H1 H2))
  · obtain ⟨ps, k, a, h1, h2, h3, h4, h5, h6⟩ := h
    exact ⟨ps, k, a, h1, h2, h3, h4, h5, fun x H' e at1 => m _ _ (h6 x H' e at1)⟩
theorem held_keep {P : Addr → Prop} {ps : List Int} {ss : List (Int × Int)} {ks : List Int} {pa sa ka : Addr} {H Hd : Hp} (h : HeldL K P ps ss ks pa sa ka H) (keep : ∀ b o, H b = some o → (∀ φ, o ≠ .ext φ) → Hd b = some o) : HeldL K P ps ss ks pa sa ka Hd := by
  obtain ⟨h1, ⟨us, h2, h3⟩, h4, h5⟩ := h
  exact ⟨keep _ _ h1 (fun _ z => nomatch z), ⟨us, keep _ _ h2 (fun _ z => nomatch z), DpAll_sq (fun a xs h => sqL_keep h keep) (fun a xs h => sqT_keep h keep) _ h3⟩, keep _ _ h4 (fun _ z => nomatch z), h5⟩
theorem ru_l0 {P : Addr → Prop} {ps : List Int} {s : Int × Int} {r : List (Int × Int)} {ks : List Int} {pa sa ka f : Addr} {H : Hp} {Q : VK} (L : LamAt_loose_die_l0 [.ref ka, .ref pa, .ref sa] f H) (hh : HeldL K P ps (s :: r) ks pa sa ka H) (hok : OkL ps (s :: r) ks) (hb : Tabs (tabsL K mg) H) (hn : NL P H) (q : NodeQ K mg P (skipL (ps.drop 1) r (ks ++ ps.take 1)) H Q) : RuL K mg f H Q := by
  refine .inr (.inl (L_clo L rfl (fun Hd sub keep tb => ⟨P, ps, s, r, ks, held_keep hh keep, hok, hn.drop keep, tb _ hb, fun x H1 e1 at1 H2 s12 exx => ?_⟩) fun H Q Q' h m => ?_))
  · exact q x H2 (Ev.made (exx e1.ex) ((e1.tb (tb _ hb)).ext s12)) (at1.ev (.same s12 : Ev (tabsL K mg) H1 H2))
  · obtain ⟨P, ps, s, r, ks, h1, h2, h3, h4, h5⟩ := h
    exact ⟨P, ps, s, r, ks, h1, h2, h3, h4, fun x H' e a => m _ _ (h5 x H' e a)⟩
theorem ru_l1 {P : Addr → Prop} {ps : List Int} {s : Int × Int} {r : List (Int × Int)} {ks : List Int} {pa sa ka f : Addr} {H : Hp} {Q : VK} (L : LamAt_loose_die_l1 [.ref ka, .ref pa, .ref sa] f H) (hh : HeldL K P ps (s :: r) ks pa sa ka H) (hok : OkL ps (s :: r) ks) (hb : Tabs (tabsL K mg) H) (hn : NL P H) (q : NodeQ K mg P (skipL (ps.drop 1) r ks) H Q) : RuL K mg f H Q := by
  refine .inr (.inr (L_clo L rfl (fun Hd sub keep tb => ⟨P, ps, s, r, ks, held_keep hh keep, hok, hn.drop keep, tb _ hb, fun x H1 e1 at1 H2 s12 exx => ?_⟩) fun H Q Q' h m => ?_))
  · exact q x H2 (Ev.made (exx e1.ex) ((e1.tb (tb _ hb)).ext s12)) (at1.ev (.same s12 : Ev (tabsL K mg) H1 H2))
  · obtain ⟨P, ps, s, r, ks, h1, h2, h3, h4, h5⟩ := h
    exact ⟨P, ps, s, r, ks, h1, h2, h3, h4, fun x H' e a => m _ _ (h5 x H' e a)⟩
def pick : List (Int × Addr) → Int → Option Addr
  | [], _ => none
  | w :: ws, x => if x < w.1 then some w.2 else pick ws (x - w.1)
/-- which lambda a throw comes to -/
def picks (ws : List (Int × Addr)) : V → Option Addr
  | .int x => if x < 0 then none else pick ws x
  | _ => none
/-- what may be thrown -/
def Thr (t : V) : Prop := (∃ x, t = .int x) ∨ (∃ b, t = .bl b) ∨ ∃ z, t = .str z
def WayP (H : Hp) (u : V) (w : Int × Addr) : Prop := ∃ q, u = .ref q ∧ H q = some (.tup [.int w.1, .ref w.2])
theorem drop_at {α : Type} : ∀ {l : List α} {i : Nat} {x : α}, l[i]? = some x → l.drop i = x :: l.drop (i + 1)
  | [], _, _, h => by simp at h
  | _ :: _, 0, _, h => by cases h; rfl
  | _ :: l, i + 1, _, h => drop_at (l := l) (i := i) h
/-- the lambda at f runs -/
def Ru (K : PySem.W.Frag) (mg : Str → Option Value) (f : Addr) (H : Hp) (Q : VK) : Prop := tClo_few_node_l0 K mg 0 [some (.ref f)] H Q ∨ tClo_few_node_l1 K mg 0 [some (.ref f)] H Q ∨ RuL K mg f H Q
theorem ru_at {f : Addr} {H : Hp} {Q : VK} {σ : L2.St} {i : Nat} (h : Ru K mg f H Q) (hs : σ[i]? = some (some (.ref f))) : tOrE (tClo_few_node_l0 K mg i) (tOrE (tClo_few_node_l1 K mg i) (tOrE (tClo_start_part_l0 K mg i) (tOrE (tClo_loose_die_l0 K mg i) (tClo_loose_die_l1 K mg i)))) σ H Q :=
  h.imp (fun h => tClo_at h hs) fun h => h.imp (fun h => tClo_at h hs) fun h => ruL_at h hs
theorem ru_few {f : Addr} {H : Hp} {Q : VK} (h : RuF K mg f H Q) : Ru K mg f H Q := h.elim .inl fun h => .inr (.inl h)
theorem ru_loo {f : Addr} {H : Hp} {Q : VK} (h : RuL K mg f H Q) : Ru K mg f H Q := .inr (.inr h)
/-! generic: wants Nd, told, parts, AtN, AtN.ev, Ru -/
/-- a way whose lambda leads to a node -/
def WayN (K : PySem.W.Frag) (mg : Str → Option Value) (P : Addr → Prop) (H : Hp) (w : Int × Addr) (pn : Int × Nd) : Prop := w.1 = pn.1 ∧ ∀ H1, Ev (tabsL K mg) H H1 → ∀ Q1 : VK, (∀ x H2, Ev (tabsL K mg) H1 H2 → AtN K mg P pn.2 x H2 → Q1 x H2) → Ru K mg w.2 H1 Q1
def pickN : List (Int × Nd) → Int → Option Nd
  | [], _ => none
  | w :: ws, x => if x < w.1 then some w.2 else pickN ws (x - w.1)
/-- the node behind a throw -/
def nxtN (n : Nd) (t : V) : Option Nd := match t with
  | .int x => if (told n).isSome then none else if x < 0 then none else pickN (parts n) x
  | _ => none
/-- a Die with the node's ways -/
def DieN (K : PySem.W.Frag) (mg : Str → Option Value) (P : Addr → Prop) (n : Nd) (v : V) (H : Hp) : Prop := ∃ a dx p us ws, v = .ref a ∧ H a = some (.ins (cA mg "Die") dx [("ways", .ref p)]) ∧ H p = some (.tup us) ∧ us.length ≤ 1000 ∧ Paired (WayP H) us ws ∧ Paired (WayN K mg P H) ws (parts n)
theorem at_end {P : Addr → Prop} {v : V} {H : Hp} {l : List Int} : ∀ {n : Nd}, AtN K mg P n v H → told n = some l → TolA mg l v H
  | .tol _, h, e => by cases e; exact h
  | .sta _ _, _, e => nomatch e
  | .loo _ _ _, _, e => nomatch e
  | .few n, h, e => by
    have h2 := h.2
    rw [show toldF n = some l from e] at h2
    exact h2
theorem paired_side {P : Addr → Prop} {ps : List Int} {k : Nat} {H : Hp} (hl : ps.length ≤ 24) (hb : Tabs (tabsL K mg) H) : ∀ {us : List V} {l : List Nat}, (∀ a ∈ l, a < k) → Paired (SideA P ps k H) us l → ∃ ws, Paired (WayP H) us ws ∧ Paired (WayN K mg P H) ws (l.map fun a => (1, Nd.tol (evy ps a k)))
  | _, [], _, h => by cases h; exact ⟨[], .nil, .nil⟩
  | _, a :: l, ha, h => by
    cases h with | cons h1 h2 =>
    obtain ⟨ws, w1, w2⟩ := paired_side hl hb (fun b hb => ha b (List.mem_cons_of_mem _ hb)) h2
    obtain ⟨q, f, rfl, h3, h4⟩ := h1
    exact ⟨(1, f) :: ws, .cons ⟨q, rfl, h3⟩ w1, .cons ⟨rfl, fun H1 ev Q q => ru_loo (ru_side (h4.ev ev) (ha a List.mem_cons_self) hl (ev.tb hb) q)⟩ w2⟩
theorem few_wide {n : NdF} (e : toldF n = none) : n.2.1 ≠ 0 ∧ n.2.1 < n.1.length := by
  unfold toldF at e
  by_cases c : n.2.1 = 0
  · rw [if_pos c] at e; cases e
  · rw [if_neg c] at e
    by_cases c2 : (n.1.length : Int) ≤ n.2.1
    · rw [if_pos c2] at e; cases e
    · exact ⟨c, by omega⟩
theorem at_die {P : Addr → Prop} {v : V} {H : Hp} : ∀ {n : Nd}, AtN K mg P n v H → told n = none → Tabs (tabsL K mg) H → NL P H → DieN K mg P n v H
  | .tol _, _, e, _, _ => nomatch e
  | .sta ps k, h, _, hb, _ => by
    obtain ⟨hk, hl, a, dx, p, us, rfl, h3, h4, h5⟩ := h
    obtain ⟨ws, w1, w2⟩ := paired_side hl hb (fun a ha => List.mem_range.mp ha) h5
    exact ⟨a, dx, p, us, ws, rfl, h3, h4, by rw [Paired.length h5, List.length_range]; omega, w1, w2⟩
  | .loo _ [] _, h, _, _, _ => h.elim
  | .loo ps (s :: r) ks, h, _, hb, hn => by
    obtain ⟨ok, a, dx, p, q0, q1, f0, f1, rfl, h1, h2, h3, h4, ⟨pa, sa, ka, L, h5⟩, ⟨pa2, sa2, ka2, L2, h6⟩⟩ := h
    refine ⟨a, dx, p, [.ref q0, .ref q1], [(s.1, f0), (s.2 - s.1, f1)], rfl, h1, h2, by simp, .cons ⟨q0, rfl, h3⟩ (.cons ⟨q1, rfl, h4⟩ .nil), .cons ⟨rfl, fun H1 ev Q q => ?_⟩ (.cons ⟨rfl, fun H1 ev Q q => ?_⟩ .nil)⟩
    · exact ru_loo (ru_l0 (L.ext ev.ex) (h5.ev ev) ok (ev.tb hb) (hn.ev ev) q)
    · exact ru_loo (ru_l1 (L2.ext ev.ex) (h6.ev ev) ok (ev.tb hb) (hn.ev ev) q)
  | .few n, h, e, hb, hn => by
    obtain ⟨hok, h⟩ := h
    replace e : toldF n = none := e
    rw [e] at h
    obtain ⟨a, dx, p, q0, q1, f0, f1, rfl, h1, h2, h3, h4, h5, h6⟩ := h
    have hm := few_wide e
    have m0 := hok.1
    refine ⟨a, dx, p, [.ref q0, .ref q1], [(n.2.1, f0), (n.1.length - n.2.1, f1)], rfl, h1, h2, by simp, .cons ⟨q0, rfl, h3⟩ (.cons ⟨q1, rfl, h4⟩ .nil), .cons ⟨rfl, fun H1 ev Q q => ?_⟩ (.cons ⟨rfl, fun H1 ev Q q => ?_⟩ .nil)⟩
    · exact ru_few (ru_first (h5.ev ev) hok (by omega) (fun z => by rw [z] at hm; have := hm.2; simp at this; omega) (ev.tb hb) (hn.ev ev) q)
    · exact ru_few (ru_second (h6.ev ev) hok (ev.tb hb) (hn.ev ev) q)
/-! ### which lists a node may hold: fewer, more -/
theorem lst_ne {H : Hp} {D a : Addr} {xs : List V} (n : H D = none) (h : H a = some (.lst xs)) : a ≠ D := fun z => by rw [z, n] at h; cases h
theorem LamF0.shr {P : Addr → Prop} {n : NdF} {f D : Addr} {H : Hp} (h : LamF0 P n f H) (d : H D = none) : LamF0 (fun b => P b ∧ b ≠ D) n f H := by
  obtain ⟨pa, ka, h1, h2, h3, h4, h5⟩ := h
  exact ⟨pa, ka, h1, h2, h3, ⟨h4, lst_ne d h2⟩, h5, lst_ne d h3⟩
theorem LamF1.shr {P : Addr → Prop} {n : NdF} {f D : Addr} {H : Hp} (h : LamF1 P n f H) (d : H D = none) : LamF1 (fun b => P b ∧ b ≠ D) n f H := by
  obtain ⟨pa, ka, h1, h2, h3, h4, h5⟩ := h
  exact ⟨pa, ka, h1, h2, h3, ⟨h4, lst_ne d h2⟩, h5, lst_ne d h3⟩
theorem LamF0.wk {P P' : Addr → Prop} {n : NdF} {f : Addr} {H : Hp} (k : ∀ b, P b → P' b) (h : LamF0 P n f H) : LamF0 P' n f H := by
  obtain ⟨pa, ka, h1, h2, h3, h4, h5⟩ := h
  exact ⟨pa, ka, h1, h2, h3, k _ h4, k _ h5⟩
theorem LamF1.wk {P P' : Addr → Prop} {n : NdF} {f : Addr} {H : Hp} (k : ∀ b, P b → P' b) (h : LamF1 P n f H) : LamF1 P' n f H := by
  obtain ⟨pa, ka, h1, h2, h3, h4, h5⟩ := h
  exact ⟨pa, ka, h1, h2, h3, k _ h4, k _ h5⟩
theorem AtF.shr {mg : Str → Option Value} {P : Addr → Prop} {n : NdF} {v : V} {D : Addr} {H : Hp} (h : AtF mg P n v H) (d : H D = none) : AtF mg (fun b => P b ∧ b ≠ D) n v H := by
  refine ⟨h.1, ?_⟩
  have h2 := h.2
  cases ht : toldF n with
  | some l =>
    rw [ht] at h2
    exact h2
  | none =>
    rw [ht] at h2
    obtain ⟨a, dx, p, q0, q1, f0, f1, rfl, h1, h2, h3, h4, h5, h6⟩ := h2
    exact ⟨a, dx, p, q0, q1, f0, f1, rfl, h1, h2, h3, h4, h5.shr d, h6.shr d⟩
theorem AtF.wk {mg : Str → Option Value} {P P' : Addr → Prop} {n : NdF} {v : V} {H : Hp} (k : ∀ b, P b → P' b) (h : AtF mg P n v H) : AtF mg P' n v H := by
  refine ⟨h.1, ?_⟩
  have h2 := h.2
  cases ht : toldF n with
  | some l =>
    rw [ht] at h2
    exact h2
  | none =>
    rw [ht] at h2
    obtain ⟨a, dx, p, q0, q1, f0, f1, rfl, h1, h2, h3, h4, h5, h6⟩ := h2
    exact ⟨a, dx, p, q0, q1, f0, f1, rfl, h1, h2, h3, h4, h5.wk k, h6.wk k⟩
theorem SideA.shr {P : Addr → Prop} {ps : List Int} {k a : Nat} {u : V} {D : Addr} {H : Hp} (h : SideA P ps k H u a) (d : H D = none) : SideA (fun b => P b ∧ b ≠ D) ps k H u a := by
  obtain ⟨q, f, e, h1, pa, h2, h3, h4⟩ := h
  exact ⟨q, f, e, h1, pa, h2, h3, h4, lst_ne d h3⟩
theorem SideA.wk {P P' : Addr → Prop} {ps : List Int} {k a : Nat} {u : V} {H : Hp} (i : ∀ b, P b → P' b) (h : SideA P ps k H u a) : SideA P' ps k H u a := by
  obtain ⟨q, f, e, h1, pa, h2, h3, h4⟩ := h
  exact ⟨q, f, e, h1, pa, h2, h3, i _ h4⟩
theorem HeldL.shr {K : PySem.W.Frag} {P : Addr → Prop} {ps : List Int} {ss : List (Int × Int)} {ks : List Int} {pa sa ka D : Addr} {H : Hp} (h : HeldL K P ps ss ks pa sa ka H) (d : H D = none) : HeldL K (fun b => P b ∧ b ≠ D) ps ss ks pa sa ka H := by
  obtain ⟨h1, ⟨us, h2, h3⟩, h4, h5, h6, h7⟩ := h
  exact ⟨h1, ⟨us, h2, h3⟩, h4, ⟨h5, lst_ne d h1⟩, ⟨h6, lst_ne d h2⟩, h7, lst_ne d h4⟩
theorem HeldL.wk {K : PySem.W.Frag} {P P' : Addr → Prop} {ps : List Int} {ss : List (Int × Int)} {ks : List Int} {pa sa ka : Addr} {H : Hp} (i : ∀ b, P b → P' b) (h : HeldL K P ps ss ks pa sa ka H) : HeldL K P' ps ss ks pa sa ka H := by
  obtain ⟨h1, h2, h4, h5, h6, h7⟩ := h
  exact ⟨h1, h2, h4, i _ h5, i _ h6, i _ h7⟩
theorem AtN.shr {K : PySem.W.Frag} {mg : Str → Option Value} {P : Addr → Prop} {H : Hp} {v : V} {D : Addr} : ∀ {n : Nd}, AtN K mg P n v H → H D = none → AtN K mg (fun b => P b ∧ b ≠ D) n v H
  | .tol _, h, _ => h
  | .sta _ _, ⟨h1, h2, a, dx, p, us, e, h3, h4, h5⟩, d => ⟨h1, h2, a, dx, p, us, e, h3, h4, paired_imp2 (fun _ _ h => SideA.shr h d) h5⟩
  | .loo _ [] _, h, _ => h
  | .loo _ (_ :: _) _, ⟨ok, a, dx, p, q0, q1, f0, f1, e, h1, h2, h3, h4, ⟨pa, sa, ka, L, h5⟩, ⟨pa2, sa2, ka2, L2, h6⟩⟩, d => ⟨ok, a, dx, p, q0, q1, f0, f1, e, h1, h2, h3, h4, ⟨pa, sa, ka, L, h5.shr d⟩, ⟨pa2, sa2, ka2, L2, h6.shr d⟩⟩
  | .few _, h, d => AtF.shr h d
theorem AtN.wk {K : PySem.W.Frag} {mg : Str → Option Value} {P P' : Addr → Prop} {H : Hp} {v : V} (k : ∀ b, P b → P' b) : ∀ {n : Nd}, AtN K mg P n v H → AtN K mg P' n v H
  | .tol _, h => h
  | .sta _ _, ⟨h1, h2, a, dx, p, us, e, h3, h4, h5⟩ => ⟨h1, h2, a, dx, p, us, e, h3, h4, paired_imp2 (fun _ _ h => SideA.wk k h) h5⟩
  | .loo _ [] _, h => h
  | .loo _ (_ :: _) _, ⟨ok, a, dx, p, q0, q1, f0, f1, e, h1, h2, h3, h4, ⟨pa, sa, ka, L, h5⟩, ⟨pa2, sa2, ka2, L2, h6⟩⟩ => ⟨ok, a, dx, p, q0, q1, f0, f1, e, h1, h2, h3, h4, ⟨pa, sa, ka, L, h5.wk k⟩, ⟨pa2, sa2, ka2, L2, h6.wk k⟩⟩
  | .few _, h => AtF.wk k h
/-- is it told? -/
theorem at_told {P : Addr → Prop} {n : Nd} {v : V} {H : Hp} (h : AtN K mg P n v H) (hb : Tabs (tabsL K mg) H) (hn : NL P H) : ∃ a dx p, v = .ref a ∧ ((∃ ks, told n = some ks ∧ H a = some (.ins (cA mg "Told") dx [("places", .ref p)]) ∧ H p = some (.tup (ks.map V.int))) ∨ (told n = none ∧ H a = some (.ins (cA mg "Die") dx [("ways", .ref p)]))) := by
  cases e : told n with
  | some l =>
    obtain ⟨a, dx, p, rfl, h1, h2⟩ := at_end h e
    exact ⟨a, dx, p, rfl, .inl ⟨l, rfl, h1, h2⟩⟩
  | none =>
    obtain ⟨a, dx, p, us, ws, rfl, h1, _⟩ := at_die h e hb hn
    exact ⟨a, dx, p, rfl, .inr ⟨rfl, h1⟩⟩
def sp_Told_sides (K : PySem.W.Frag) (mg : Str → Option Value) : Sp := fun vs H Q _ => match vs with | [.ref a] => Q (.int 0) H | _ => False
theorem q_Told_sides {H : Hp} {Q : VK} {E : XK} {a : Addr} (q : Q (.int 0) H) : sp_Told_sides K mg [.ref a] H Q E := q
local macro_rules | `(tactic| walk_at "op") => `(tactic| with_reducible refine q_Told_sides ?_)
theorem c_Told_sides (T : Txt K mg base) : Met P w K mg base 1 (cA mg "Told") "sides" (sp_Told_sides K mg) := by
  refine MethAt.met T.k_Told T.d_Told_sides (k := 0) sc_Told_sides (by intro vs H Q E h; unfold sp_Told_sides at h; split at h <;> first | rfl | exact h.elim) fun f cdv A outer s H vs Q E hr h => ?_
  refine ⟨_, (pss_one (ps_ret pe_int)), ?_⟩
  try simp only [cxOf_K, cxOf_K', cxOf_mg, cxOf_mg']
  unfold sp_Told_sides at h
  split at h
  case h_2 => exact h.elim
  rename_i a
  rw [show L2.start ["self"] [V.ref a] = [some (V.ref a)] from rfl]
  walk_at "sts"
  exact h
def sp_Told_parts (K : PySem.W.Frag) (mg : Str → Option Value) : Sp := fun vs H Q _ => match vs with | [.ref a] => NewL H [] Q | _ => False
theorem q_Told_parts {H : Hp} {Q : VK} {E : XK} {a : Addr} (q : NewL H [] Q) : sp_Told_parts K mg [.ref a] H Q E := q
local macro_rules | `(tactic| walk_at "op") => `(tactic| with_reducible refine q_Told_parts ?_)
theorem c_Told_parts (T : Txt K mg base) : Met P w K mg base 1 (cA mg "Told") "parts" (sp_Told_parts K mg) := by
  refine MethAt.met T.k_Told T.d_Told_parts (k := 0) sc_Told_parts (by intro vs H Q E h; unfold sp_Told_parts at h; split at h <;> first | rfl | exact h.elim) fun f cdv A outer s H vs Q E hr h => ?_
  refine ⟨_, (pss_one (ps_ret (pe_lst pa_nil))), ?_⟩
  try simp only [cxOf_K, cxOf_K', cxOf_mg, cxOf_mg']
  unfold sp_Told_parts at h
  split at h
  case h_2 => exact h.elim
  rename_i a
  rw [show L2.start ["self"] [V.ref a] = [some (V.ref a)] from rfl]
  walk_at "sts"
  walk_at "nw"
  rename_i p hp H1 s1 e1
  exact h p H1 hp s1 e1
def sp_Die_kept (K : PySem.W.Frag) (mg : Str → Option Value) : Sp := fun vs H Q _ => match vs with | [.ref a] => Q .non H | _ => False
theorem q_Die_kept {H : Hp} {Q : VK} {E : XK} {a : Addr} (q : Q .non H) : sp_Die_kept K mg [.ref a] H Q E := q
local macro_rules | `(tactic| walk_at "op") => `(tactic| with_reducible refine q_Die_kept ?_)
theorem c_Die_kept (T : Txt K mg base) : Met P w K mg base 1 (cA mg "Die") "kept" (sp_Die_kept K mg) := by
  refine MethAt.met T.k_Die T.d_Die_kept (k := 0) sc_Die_kept (by intro vs H Q E h; unfold sp_Die_kept at h; split at h <;> first | rfl | exact h.elim) fun f cdv A outer s H vs Q E hr h => ?_
  refine ⟨_, (pss_one (ps_ret pe_non)), ?_⟩
  try simp only [cxOf_K, cxOf_K', cxOf_mg, cxOf_mg']
  unfold sp_Die_kept at h
  split at h
  case h_2 => exact h.elim
  rename_i a
  rw [show L2.start ["self"] [V.ref a] = [some (V.ref a)] from rfl]
  walk_at "sts"
  exact h
def sp_Die_sides (K : PySem.W.Frag) (mg : Str → Option Value) : Sp := fun vs H Q _ => match vs with | [.ref a] => ∃ dx p us ws, H a = some (.ins (cA mg "Die") dx [("ways", .ref p)]) ∧ H p = some (.tup us) ∧ Paired (WayP H) us ws ∧ us.length ≤ 1000 ∧ ∀ H', Same H H' → Q (.int (ws.map (·.1)).sum) H' | _ => False
theorem q_Die_sides {H : Hp} {Q : VK} {E : XK} {a : Addr} (q : ∃ dx p us ws, H a = some (.ins (cA mg "Die") dx [("ways", .ref p)]) ∧ H p = some (.tup us) ∧ Paired (WayP H) us ws ∧ us.length ≤ 1000 ∧ ∀ H', Same H H' → Q (.int (ws.map (·.1)).sum) H') : sp_Die_sides K mg [.ref a] H Q E := q
local macro_rules | `(tactic| walk_at "op") => `(tactic| with_reducible refine q_Die_sides ?_)
theorem c_Die_sides (T : Txt K mg base) : Met P w K mg base 1 (cA mg "Die") "sides" (sp_Die_sides K mg) := by
  refine MethAt.met T.k_Die T.d_Die_sides (k := 0) sc_Die_sides (by intro vs H Q E h; unfold sp_Die_sides at h; split at h <;> first | rfl | exact h.elim) fun f cdv A outer s H vs Q E hr h => ?_
  refine ⟨_, (pss_one (ps_ret (pe_callB (cr_sum rfl) (by rfl) T.n_sum (by decide +kernel) (pa_cons (pe_lc (own := [("many", 1), ("make", 2)]) (g := (gTup K 2 (gCons (gName 1) (gCons (gName 2) gNil)))) (tt := tYes) (te := (tVar 1)) rfl sc_Die_sides.nd (pi_tup (pe_fld (pv 0) rfl)) (blkOk_by (N := ["self", "many", "make"]) (sc := defScope s_Die_sides) (by decide +kernel)) (fun _ _ _ _ _ => by exact (pg_tup rfl (pgs_cons (pg_name (i := 1) sc_Die_sides.nd rfl (.inl rfl)) (pgs_cons (pg_name (i := 2) sc_Die_sides.nd rfl (.inl rfl)) pgs_nil)))) (fun _ _ _ _ _ => pts_nil) (fun _ _ _ _ _ => by exact (pv 1))) pa_nil)))), ?_⟩
  try simp only [cxOf_K, cxOf_K', cxOf_mg, cxOf_mg']
  unfold sp_Die_sides at h
  split at h
  case h_2 => exact h.elim
  rename_i a
  rw [show L2.start ["self", "many", "make"] [V.ref a] = [some (V.ref a), none, none] from rfl]
  obtain ⟨dx, p, us, ws, ha, hp, hP, hl, q⟩ := h
  walk_at "sts"
  refine L_fldv ha T.k_Die T.na_Die_ways rfl ?_
  refine ⟨p, rfl, ⟨_, .of hp⟩, ?_⟩
  refine lc_fm walk_tup (fun i => ws[i]?.map fun w => V.int w.1) (by omega) (fun H' e => .of (e _ _ hp)) ?_ ?_
  · rintro j x1 Ha Hb R R' hj sm ⟨rfl, hx1⟩ q1 q2
    obtain ⟨w, hw, q0, rfl, hq⟩ := paired_nth hP hx1
    refine L_gTup (.of (sm _ _ hq)) rfl ?_
    walk_at "sts"
    refine ⟨rfl, ?_⟩
    walk_at "sts"
    exact q1 _ _ (by rw [hw]; rfl) (.refl _)
  intro p1 H1 hp1 s1 e1
  rw [Paired.length hP, fm_get (fun w : Int × Addr => V.int w.1) ws] at e1
  have e2 : H1 p1 = some (.lst ((ws.map (·.1)).map V.int)) := by rw [e1, List.map_map]; rfl
  walk_at "sts"
  refine L_sum (.of e2) ?_
  exact q _ s1
/-- a crowd: places first -/
def MemB (K : PySem.W.Frag) (H : Hp) (u : V) (r : Int) : Prop := ∃ q s w, u = .ref q ∧ SqT K H q [.int r, s, w]
theorem MemB.ev {K : PySem.W.Frag} {T : List (Addr × Str)} {H H' : Hp} {u : V} {r : Int} (h : MemB K H u r) (e : Ev T H H') : MemB K H' u r := by
  obtain ⟨q, s, w, rfl, h1⟩ := h
  exact ⟨q, s, w, rfl, e.seqT h1⟩
structure Crd (K : PySem.W.Frag) (H : Hp) (c : Addr) (ps : List Int) : Prop where
  ex : ∃ us, SqL K H c us ∧ Paired (MemB K H) us ps
  len : ps.length ≤ 24
theorem Crd.ev {K : PySem.W.Frag} {T : List (Addr × Str)} {H H' : Hp} {c : Addr} {ps : List Int} (h : Crd K H c ps) (e : Ev T H H') : Crd K H' c ps := by
  obtain ⟨⟨us, h1, h2⟩, hl⟩ := h
  exact ⟨⟨us, e.seq h1, paired_imp2 (fun _ _ h => h.ev e) h2⟩, hl⟩
def sp_places_of (K : PySem.W.Frag) (mg : Str → Option Value) : Sp := fun vs H Q _ => match vs with | [.ref c] => ∃ ps, Crd K H c ps ∧ NewL H (ps.map V.int) Q | _ => False
theorem q_places_of {H : Hp} {Q : VK} {E : XK} {c : Addr} (q : ∃ ps, Crd K H c ps ∧ NewL H (ps.map V.int) Q) : sp_places_of K mg [.ref c] H Q E := q
local macro_rules | `(tactic| walk_at "op") => `(tactic| with_reducible refine q_places_of ?_)
theorem c_places_of (T : Txt K mg base) : Cal P w K mg base 1 "places_of" (sp_places_of K mg) := by
  refine T.d_places_of.cal (k := 0) sc_places_of (by intro vs H Q E h; unfold sp_places_of at h; split at h <;> first | rfl | exact h.elim) fun f cdv A outer s H vs Q E hr h => ?_
  refine ⟨_, (pss_one (ps_ret (pe_lc (own := [("place", 1), ("size", 2), ("path", 3)]) (g := (gTup K 3 (gCons (gName 1) (gCons (gName 2) (gCons (gName 3) gNil))))) (tt := tYes) (te := (tVar 1)) rfl sc_places_of.nd (pi_list (pv 0)) (blkOk_by (N := ["crowd", "place", "size", "path"]) (sc := defScope s_places_of) (by decide +kernel)) (fun _ _ _ _ _ => by exact (pg_tup rfl (pgs_cons (pg_name (i := 1) sc_places_of.nd rfl (.inl rfl)) (pgs_cons (pg_name (i := 2) sc_places_of.nd rfl (.inl rfl)) (pgs_cons (pg_name (i := 3) sc_places_of.nd rfl (.inl rfl)) pgs_nil))))) (fun _ _ _ _ _ => pts_nil) (fun _ _ _ _ _ => by exact (pv 1))))), ?_⟩
  try simp only [cxOf_K, cxOf_K', cxOf_mg, cxOf_mg']
  unfold sp_places_of at h
  split at h
  case h_2 => exact h.elim
  rename_i c
  rw [show L2.start ["crowd", "place", "size", "path"] [V.ref c] = [some (V.ref c), none, none, none] from rfl]
  obtain ⟨ps, ⟨⟨us, hS, hP⟩, hl⟩, q⟩ := h
  have hul := Paired.length hP
  walk_at "sts"
  refine L_rl hS ?_
  refine lc_fm walk_list (fun i => ps[i]?.map V.int) (by omega) (fun H' e => e.seq hS) ?_ ?_
  · rintro j x1 Ha Hb R R' hj sm ⟨rfl, hx1⟩ q1 q2
    obtain ⟨r, hr, q0, s, w, rfl, hq⟩ := paired_nth hP hx1
    refine L_gTup (sm.seqT hq) rfl ?_
    walk_at "sts"
    refine ⟨rfl, ?_⟩
    walk_at "sts"
    exact q1 _ _ (by rw [hr]; rfl) (.refl _)
  intro p H' hp s e
  rw [hul, fm_get V.int ps] at e
  walk_at "sts"
  exact q p H' hp s e
theorem lc_ob {α : Type} (F : Hp → V → α → Prop) (st : ∀ H H' v a, Same H H' → F H v a → F H' v a) (up : ∀ H D us us' v a, H D = some (.lst us) → F H v a → F (upd H D (.lst us')) v a)
    {σ : L2.St} {H : Hp} {g : TG} {tt : TT} {te : TE} {J : It} {n : Nat} {G : Hp → Prop} {Y : Nat → Hp → V → Hp → Prop} (w : L2.Walk J n G Y) {vs : List Nat} {Qd : Addr → Hp → Prop} (f : Nat → Option α) (hn : n ≤ 1000000) (hG : ∀ H', Same H H' → G H')
    (hs : ∀ i x H2 H' (R : V → Hp → Prop) (R' : Hp → Prop), i < n → Same H H2 → Y i H2 x H' → (∀ v p H4, f i = some p → Same H2 H4 → F H4 v p → R v H4) → (∀ H3, f i = none → Same H2 H3 → R' H3) →
      g x (wipe σ vs) H' fun σ2 H2 => wipe σ2 vs = wipe σ vs ∧ tt σ2 H2 fun b H3 => if b = true then te σ2 H3 R else R' H3)
    (q : ∀ p H' vs, H p = none → Same H H' → H' p = some (.lst vs) → Paired (F H') vs ((List.range n).filterMap f) → Qd p H') :
    ∀ D, H D = none → ∃ W : Nat → Nat → Hp → Prop, (∃ m, W 0 m (upd H D (.lst []))) ∧ ∀ i m H, W i m H →
      (J.stop i H ∧ Qd D H) ∨ (J.go i H ∧ ∃ Nx : Hp → Prop, (∀ H', Nx H' → ∃ m', m' < m ∧ W (i + 1) m' H') ∧ ∀ x H', J.yld i H x H' → g x (wipe σ vs) H' fun σ2 H2 => wipe σ2 vs = wipe σ vs ∧ tt σ2 H2 fun b H3 =>
        if b = true then te σ2 H3 fun y H4 => ∃ acc, H4 D = some (.lst acc) ∧ acc.length < sizeLine ∧ Nx (upd H4 D (.lst (acc ++ [y]))) else Nx H3) := by
  intro D hD
  refine lc_it w (fun i H2 => Same H H2 ∧ ∃ us, H2 D = some (.lst us) ∧ Paired (F H2) us ((List.range i).filterMap f)) ⟨same_new hD, [], upd_same, .nil⟩ (fun i H2 _ p => hG H2 p.1) ?_ (fun H2 ⟨p1, us, p2, p3⟩ => q D H2 us hD p1 p2 p3)
  rintro i x H2 H' hi ⟨p1, us, p2, p3⟩ y
  refine hs i x H2 H' _ _ hi p1 y (fun v p H4 e s et => ?_) (fun H3 e s => ?_)
  · have e4 := s _ _ p2
    refine ⟨us, e4, sz_lt (by have := Paired.length p3; have := fm_len' f i; omega), same_mut (p1.trans s) hD, _, upd_same, ?_⟩
    rw [fm_succ', e]
    exact paired_app (paired_imp2 (fun v p h => up _ _ _ _ _ _ e4 (st _ _ _ _ s h)) p3) (.cons (up _ _ _ _ _ _ e4 et) .nil)
  · refine ⟨p1.trans s, us, s _ _ p2, ?_⟩
    rw [fm_succ', e, List.append_nil]
    exact paired_imp2 (fun v p h => st _ _ _ _ s h) p3
theorem fm_some {α β : Type} (f : α → β) : ∀ l : List α, l.filterMap (fun i => some (f i)) = l.map f
  | [] => rfl
  | a :: l => by rw [List.filterMap_cons, List.map_cons, fm_some f l]
/-- rows of fractions as data -/
def d2r (r : List (Int × Int)) : PyData := .list (r.map d2)
/-- a pair of ints -/
def Q2 (K : PySem.W.Frag) (H : Hp) (v : V) (p : Int × Int) : Prop := ∃ t, v = .ref t ∧ SqT K H t [.int p.1, .int p.2]
/-- new rows of fractions -/
structure RowsN (K : PySem.W.Frag) (H0 H : Hp) (D : Addr) (os : List Addr) (rows : List (List (Int × Int))) : Prop where
  nd : os.Nodup
  new : ∀ o ∈ os, H0 o = none ∧ o ≠ D
  at_ : Paired (fun o r => ∃ xs, H o = some (.lst xs) ∧ Paired (Q2 K H) xs r) os rows
theorem Q2.same {K : PySem.W.Frag} {H H' : Hp} {v : V} {p : Int × Int} (h : Q2 K H v p) (s : Same H H') : Q2 K H' v p := by
  obtain ⟨t, e, h⟩ := h
  exact ⟨t, e, s.seqT h⟩
theorem Q2.mu {K : PySem.W.Frag} {H : Hp} {v : V} {p : Int × Int} {D : Addr} {us : List V} {o : HO} (h : Q2 K H v p) (e : H D = some (.lst us)) : Q2 K (upd H D o) v p := by
  obtain ⟨t, e1, h⟩ := h
  exact ⟨t, e1, sqT_upd e h⟩
theorem RowsN.same {K : PySem.W.Frag} {H0 H H' : Hp} {D : Addr} {os : List Addr} {rows : List (List (Int × Int))} (h : RowsN K H0 H D os rows) (s : Same H H') : RowsN K H0 H' D os rows := ⟨h.nd, h.new, paired_imp2 (fun _ _ ⟨xs, h1, h2⟩ => ⟨xs, s _ _ h1, paired_imp2 (fun _ _ h => Q2.same h s) h2⟩) h.at_⟩
theorem Q2.ev {K : PySem.W.Frag} {T : List (Addr × Str)} {H H' : Hp} {v : V} {p : Int × Int} (h : Q2 K H v p) (s : Ev T H H') : Q2 K H' v p := by
  obtain ⟨t, e, h⟩ := h
  exact ⟨t, e, s.seqT h⟩
theorem RowsN.ev {K : PySem.W.Frag} {T : List (Addr × Str)} {H0 H H' : Hp} {D : Addr} {os : List Addr} {rows : List (List (Int × Int))} (h : RowsN K H0 H D os rows) (s : Ev T H H') : RowsN K H0 H' D os rows := ⟨h.nd, h.new, paired_imp2 (fun _ _ ⟨xs, h1, h2⟩ => ⟨xs, s.lst h1, paired_imp2 (fun _ _ h => Q2.ev h s) h2⟩) h.at_⟩
theorem paired_off {α β : Type} {F G : α → β → Prop} {x : α} (k : ∀ a b, a ≠ x → F a b → G a b) : ∀ {xs : List α} {ys : List β}, x ∉ xs → Paired F xs ys → Paired G xs ys
  | _, _, _, .nil => .nil
  | _, _, n, .cons h t => .cons (k _ _ (fun z => n (by rw [z]; exact List.mem_cons_self)) h) (paired_off k (fun z => n (List.mem_cons_of_mem _ z)) t)
theorem RowsN.mu {K : PySem.W.Frag} {H0 H : Hp} {D d : Addr} {os : List Addr} {rows : List (List (Int × Int))} {us : List V} {o : HO} (h : RowsN K H0 H D os rows) (e : H d = some (.lst us)) (n : d ∉ os) : RowsN K H0 (upd H d o) D os rows := ⟨h.nd, h.new, paired_off (fun a r ne ⟨xs, h1, h2⟩ => ⟨xs, by rw [upd_ne ne]; exact h1, paired_imp2 (fun _ _ h => Q2.mu h e) h2⟩) n h.at_⟩
theorem dp_q2 {K : PySem.W.Frag} {H : Hp} : ∀ {vs : List V} {l : List (Int × Int)}, DpAll K H vs (l.map d2) → Paired (Q2 K H) vs l
  | _, [], h => by cases h; exact .nil
  | _, a :: l, h => by
    cases h with | cons h1 h2 =>
    obtain ⟨t, rfl, e⟩ := of_d2 h1
    exact .cons ⟨t, rfl, e⟩ (dp_q2 h2)
theorem Q2.dpA {K : PySem.W.Frag} {H : Hp} : ∀ {vs : List V} {l : List (Int × Int)}, Paired (Q2 K H) vs l → DpAll K H vs (l.map d2)
  | _, [], h => by cases h; exact .nil
  | _, a :: l, h => by
    cases h with | cons h1 h2 =>
    obtain ⟨t, rfl, e⟩ := h1
    exact .cons (.tup e (.cons (.int _) (.cons (.int _) .nil))) (Q2.dpA h2)
theorem rowsP_dp {K : PySem.W.Frag} {H : Hp} : ∀ {os : List Addr} {rows : List (List (Int × Int))}, Paired (fun o r => ∃ xs, H o = some (.lst xs) ∧ Paired (Q2 K H) xs r) os rows → DpAll K H (os.map V.ref) (rows.map d2r)
  | _, [], h => by cases h; exact .nil
  | _, r :: rows, h => by
    cases h with | cons h1 h2 =>
    obtain ⟨xs, e, h3⟩ := h1
    exact .cons (.lst (.of e) (Q2.dpA h3)) (rowsP_dp h2)
theorem RowsN.dp {K : PySem.W.Frag} {H0 H : Hp} {D : Addr} {os : List Addr} {rows : List (List (Int × Int))} (h : RowsN K H0 H D os rows) : DpAll K H (os.map V.ref) (rows.map d2r) := rowsP_dp h.at_
theorem RowsN.len {K : PySem.W.Frag} {H0 H : Hp} {D : Addr} {os : List Addr} {rows : List (List (Int × Int))} (h : RowsN K H0 H D os rows) : os.length = rows.length := Paired.length h.at_
/-- a row more -/
theorem RowsN.grow {K : PySem.W.Frag} {H0 H H' : Hp} {D t : Addr} {us xs : List V} {os : List Addr} {rows : List (List (Int × Int))} {r : List (Int × Int)} (h : RowsN K H0 H D os rows) (s : Same H H') (s0 : Same H0 H) (n : H t = none) (eD : H D = some (.lst us)) (e : H' t = some (.lst xs)) (hr : Paired (Q2 K H') xs r) {o : HO} : RowsN K H0 (L2.upd H' D o) D (os ++ [t]) (rows ++ [r]) := by
  have nt : t ≠ D := fun z => by rw [z, eD] at n; cases n
  have nto : t ∉ os := fun z => by
    obtain ⟨i, hi, e1⟩ := List.getElem_of_mem z
    obtain ⟨r, _, xs, h1, _⟩ := paired_nth h.at_ (by rw [List.getElem?_eq_getElem hi, e1])
    rw [n] at h1
    cases h1
  have nD : D ∉ os ++ [t] := fun z => by
    rcases List.mem_append.mp z with z | z
    · exact (h.new _ z).2 rfl
    · exact nt (List.mem_singleton.mp z).symm
  have base : RowsN K H0 H' D (os ++ [t]) (rows ++ [r]) := ⟨by
    rw [List.nodup_append]
    exact ⟨h.nd, by simp, fun a ha b hb => by rw [List.mem_singleton.mp hb]; exact fun z => nto (z ▸ ha)⟩, fun o ho => by
    rcases List.mem_append.mp ho with ho | ho
    · exact h.new o ho
    · rw [List.mem_singleton.mp ho]
      exact ⟨s0.free n, nt⟩, paired_app (h.same s).at_ (.cons ⟨xs, e, hr⟩ .nil)⟩
  exact base.mu (s _ _ eD) nD
theorem lc_rows {K : PySem.W.Frag} {σ : L2.St} {H : Hp} {g : TG} {tt : TT} {te : TE} {J : It} {n : Nat} {G : Hp → Prop} {Y : Nat → Hp → V → Hp → Prop} (w : L2.Walk J n G Y) {vs : List Nat} {Qd : Addr → Hp → Prop} (rows : Nat → List (Int × Int)) (hn : n ≤ 1000000) (hG : ∀ H', Same H H' → G H')
    (hs : ∀ i x H2 H' (R : V → Hp → Prop) (R' : Hp → Prop), i < n → Same H H2 → Y i H2 x H' → (∀ t xs H4, Same H2 H4 → H2 t = none → H4 t = some (.lst xs) → Paired (Q2 K H4) xs (rows i) → R (.ref t) H4) →
      g x (wipe σ vs) H' fun σ2 H2 => wipe σ2 vs = wipe σ vs ∧ tt σ2 H2 fun b H3 => if b = true then te σ2 H3 R else R' H3)
    (q : ∀ p H' os, H p = none → Same H H' → H' p = some (.lst (os.map V.ref)) → RowsN K H H' p os ((List.range n).map rows) → Qd p H') :
    ∀ D, H D = none → ∃ W : Nat → Nat → Hp → Prop, (∃ m, W 0 m (upd H D (.lst []))) ∧ ∀ i m H, W i m H →
      (J.stop i H ∧ Qd D H) ∨ (J.go i H ∧ ∃ Nx : Hp → Prop, (∀ H', Nx H' → ∃ m', m' < m ∧ W (i + 1) m' H') ∧ ∀ x H', J.yld i H x H' → g x (wipe σ vs) H' fun σ2 H2 => wipe σ2 vs = wipe σ vs ∧ tt σ2 H2 fun b H3 =>
        if b = true then te σ2 H3 fun y H4 => ∃ acc, H4 D = some (.lst acc) ∧ acc.length < sizeLine ∧ Nx (upd H4 D (.lst (acc ++ [y]))) else Nx H3) := by
  intro D hD
  refine lc_it w (fun i H2 => Same H H2 ∧ ∃ os : List Addr, H2 D = some (.lst (os.map V.ref)) ∧ RowsN K H H2 D os ((List.range i).map rows)) ⟨same_new hD, [], upd_same, ⟨.nil, (fun _ h => nomatch h), .nil⟩⟩ (fun i H2 _ p => hG H2 p.1) ?_ (fun H2 ⟨p1, us, p2, p3⟩ => q D H2 us hD p1 p2 p3)
  rintro i x H2 H' hi ⟨p1, os, p2, p3⟩ y
  refine hs i x H2 H' _ _ hi p1 y (fun t xs H4 s nt e4 h4 => ?_)
  refine ⟨_, s _ _ p2, sz_lt (by have := p3.len; rw [List.length_map, List.length_range] at this; rw [List.length_map]; omega), same_mut (p1.trans s) hD, os ++ [t], by rw [List.map_append]; exact upd_same, ?_⟩
  rw [List.range_succ, List.map_append]
  exact p3.grow s p1 nt p2 e4 h4
/-! the law's mixing of a cell -/
def mixr (c k : Int) : Int :=
  let a := (c % 2147483629 + 7919 * k + 17) * 48271 % 2147483647
  let b := (a * a + 3 * k) % 2147483629
  b * (b + 3) % 2147483587
theorem mixr_b (c k : Int) : 0 ≤ mixr c k ∧ mixr c k < 2147483587 := by
  unfold mixr
  exact ⟨Int.emod_nonneg _ (by decide), Int.emod_lt_of_pos _ (by decide)⟩
def sp__law_cell (K : PySem.W.Frag) (mg : Str → Option Value) : Sp := fun vs H Q _ => match vs with | [.ref a, .int k] => ∃ ns : List Int, SqL K H a (ns.map V.int) ∧ 0 ≤ k ∧ k < 1000000 ∧ Q (.int (cellAt ns k (7919 * k + 13))) H | _ => False
theorem q__law_cell {H : Hp} {Q : VK} {E : XK} {a : Addr} {k : Int} (q : ∃ ns : List Int, SqL K H a (ns.map V.int) ∧ 0 ≤ k ∧ k < 1000000 ∧ Q (.int (cellAt ns k (7919 * k + 13))) H) : sp__law_cell K mg [.ref a, .int k] H Q E := q
local macro_rules | `(tactic| walk_at "op") => `(tactic| with_reducible refine q__law_cell ?_)
theorem c__law_cell (T : Txt K mg base) : Cal P w K mg base 1 "_law_cell" (sp__law_cell K mg) := by
  refine T.d__law_cell.cal (k := 0) sc__law_cell (by intro vs H Q E h; unfold sp__law_cell at h; split at h <;> first | rfl | exact h.elim) fun f cdv A outer s H vs Q E hr h => ?_
  refine ⟨_, (pss_cons (ps_if (pt_cmpR op_ltA (pv 1) (pe_callB call_lenA (by rfl) T.n_len (by decide +kernel) (pa_cons (pv 0) pa_nil)) (nomark _))
    (pss_one (ps_ret (pe_ix ix_seq (pv 0) (pv 1) (fun _ _ => rfl))))
    pss_nil)
    (pss_one (ps_ret (pe_op op_addA (pe_op op_mulA pe_int (pv 1)) pe_int)))), ?_⟩
  try simp only [cxOf_K, cxOf_K', cxOf_mg, cxOf_mg']
  unfold sp__law_cell at h
  split at h
  case h_2 => exact h.elim
  rename_i a k
  rw [show L2.start ["_law_script", "_law_k"] [V.ref a, V.int k] = [some (V.ref a), some (V.int k)] from rfl]
  obtain ⟨ns, hS, hk, hk2, q⟩ := h
  walk_at "sa"
  rw [List.length_map]
  refine L_d (fun c => ?_) (fun c => ?_)
  · walk_at "sts"
    exact L_ixL hS (cellAt_in hk c) q
  · walk_at "sa"
    rw [cellAt_out c] at q
    exact q
def sp__law_mix (K : PySem.W.Frag) (mg : Str → Option Value) : Sp := fun vs H Q _ => match vs with | [.int c, .int k] => 0 ≤ k ∧ k < 1000000 ∧ Q (.int (mixr c k)) H | _ => False
theorem q__law_mix {H : Hp} {Q : VK} {E : XK} {c : Int} {k : Int} (q : 0 ≤ k ∧ k < 1000000 ∧ Q (.int (mixr c k)) H) : sp__law_mix K mg [.int c, .int k] H Q E := q
local macro_rules | `(tactic| walk_at "op") => `(tactic| with_reducible refine q__law_mix ?_)
theorem c__law_mix (T : Txt K mg base) : Cal P w K mg base 1 "_law_mix" (sp__law_mix K mg) := by
  refine T.d__law_mix.cal (k := 0) sc__law_mix (by intro vs H Q E h; unfold sp__law_mix at h; split at h <;> first | rfl | exact h.elim) fun f cdv A outer s H vs Q E hr h => ?_
  refine ⟨_, (pss_cons (ps_set (i := 2) sc__law_mix.nd rfl (.inl rfl) (pe_op op_mod (pe_op op_mulA (pe_op op_addA (pe_op op_addA (pe_op op_mod (pv 0) pe_int) (pe_op op_mulA pe_int (pv 1))) pe_int) pe_int) pe_int))
    (pss_cons (ps_set (i := 2) sc__law_mix.nd rfl (.inl rfl) (pe_op op_mod (pe_op op_addA (pe_op op_mulA (pv 2) (pv 2)) (pe_op op_mulA pe_int (pv 1))) pe_int))
    (pss_one (ps_ret (pe_op op_mod (pe_op op_mulA (pv 2) (pe_op op_addA (pv 2) pe_int)) pe_int))))), ?_⟩
  try simp only [cxOf_K, cxOf_K', cxOf_mg, cxOf_mg']
  unfold sp__law_mix at h
  split at h
  case h_2 => exact h.elim
  rename_i c k
  rw [show L2.start ["_law_cell_here", "_law_k", "_law_number"] [V.int c, V.int k] = [some (V.int c), some (V.int k), none] from rfl]
  obtain ⟨hk, hk2, q⟩ := h
  walk_at "sa"
  exact q
def sp__law_row (K : PySem.W.Frag) (mg : Str → Option Value) : Sp := fun vs H Q _ => match vs with | [.int c, .int bit, .int many, .int most] => 0 ≤ many ∧ many ≤ 1000 ∧ 0 < most ∧ most ≤ 1000000000000 ∧ (∀ l : List Int, l.length = many.toNat → (∀ x ∈ l, 0 ≤ x ∧ x < most) → NewL H (l.map V.int) Q) | _ => False
theorem q__law_row {H : Hp} {Q : VK} {E : XK} {c : Int} {bit : Int} {many : Int} {most : Int} (q : 0 ≤ many ∧ many ≤ 1000 ∧ 0 < most ∧ most ≤ 1000000000000 ∧ (∀ l : List Int, l.length = many.toNat → (∀ x ∈ l, 0 ≤ x ∧ x < most) → NewL H (l.map V.int) Q)) : sp__law_row K mg [.int c, .int bit, .int many, .int most] H Q E := q
local macro_rules | `(tactic| walk_at "op") => `(tactic| with_reducible refine q__law_row ?_)
theorem c__law_row (T : Txt K mg base) : Cal P w K mg base 2 "_law_row" (sp__law_row K mg) := by
  refine T.d__law_row.cal (k := 1) sc__law_row (by intro vs H Q E h; unfold sp__law_row at h; split at h <;> first | rfl | exact h.elim) fun f cdv A outer s H vs Q E hr h => ?_
  refine ⟨_, (pss_cons (ps_set (i := 4) sc__law_row.nd rfl (.inl rfl) (pe_lst pa_nil))
    (pss_cons (ps_for PassesOwn.never rfl (pi_range1 (by rfl) T.n_range (pa_cons (pv 2) pa_nil)) (pg_name (i := 5) sc__law_row.nd rfl (.inl rfl))
    (pss_one (ps_if (pt_cmpR (op_eqA hr) (pe_op op_mod (pv 1) pe_int) pe_int (nomark _))
    (pss_cons (ps_expr (pe_bm PySem.F.plainAttrs_list PySem.F.slot_list_append PySem.F.type_list_append mt_append (pv 4) (pa_cons (pe_op op_mod (pv 0) (pv 3)) pa_nil)))
    (pss_one (ps_set (i := 0) sc__law_row.nd rfl (.inl rfl) (pe_op op_fdivW (pv 0) (pv 3)))))
    (pss_one (ps_expr (pe_bm PySem.F.plainAttrs_list PySem.F.slot_list_append PySem.F.type_list_append mt_append (pv 4) (pa_cons (pe_op op_mod (pe_c (c__law_mix T) hr (by decide) (by rfl) (pa_cons (pv 0) (pa_cons (pv 5) pa_nil))) (pv 3)) pa_nil)))))))
    (pss_one (ps_ret (pv 4))))), ?_⟩
  try simp only [cxOf_K, cxOf_K', cxOf_mg, cxOf_mg']
  unfold sp__law_row at h
  split at h
  case h_2 => exact h.elim
  rename_i c bit many most
  rw [show L2.start ["_law_cell_here", "_law_bit", "_law_many", "_law_most", "_law_row_here", "_law_k"] [V.int c, V.int bit, V.int many, V.int most] = [some (V.int c), some (V.int bit), some (V.int many), some (V.int most), none, none] from rfl]
  obtain ⟨h1, h2, h3, h4, q⟩ := h
  walk_at "sa"
  refine L_new (by decide) fun p hp => ?_
  walk_at "sa"
  refine L_r1 (by omega) (by omega) ?_
  refine f_range (fun i σ' H' => ∃ (c' : Int) (l : List Int) (v : Option V), σ' = [some (.int c'), some (.int bit), some (.int many), some (.int most), some (.ref p), v] ∧ Same H H' ∧ H' p = some (.lst (l.map V.int)) ∧ l.length = i ∧ ∀ x ∈ l, 0 ≤ x ∧ x < most) ⟨c, [], none, rfl, same_new hp, upd_same, rfl, by simp⟩ ?_ ?_
  · rintro i σ' H' hi ⟨c', l, v, rfl, s, hd, hlen, hb⟩
    have hz : l.length < 1000000 := by omega
    walk_at "sa"
    refine L_d (fun _ => ?_) (fun _ => ?_)
    · walk_at "sts"
      refine L_tyL (.of hd) ?_
      walk_at "sts"
      refine L_I h3 ?_
      walk_at "sts"
      refine L_app hd (by rw [List.length_map]; exact sz_lt hz) ?_
      walk_at "sts"
      refine L_I ((bd_64 (by omega)).cdiv h3) ?_
      walk_at "sts"
      refine ⟨_, l ++ [c' % most], _, rfl, same_mut s hp, by rw [List.map_append]; exact upd_same, by simp [hlen], fun x hx => ?_⟩
      rcases List.mem_append.mp hx with hx | hx
      · exact hb x hx
      · rw [List.mem_singleton.mp hx]
        exact ⟨Int.emod_nonneg _ (by omega), Int.emod_lt_of_pos _ h3⟩
    · walk_at "sts"
      refine L_tyL (.of hd) ?_
      walk_at "sts"
      refine ⟨by omega, by omega, ?_⟩
      walk_at "sts"
      refine L_I h3 ?_
      walk_at "sts"
      refine L_app hd (by rw [List.length_map]; exact sz_lt hz) ?_
      walk_at "sts"
      refine ⟨_, l ++ [mixr c' (0 + (i : Int)) % most], _, rfl, same_mut s hp, by rw [List.map_append]; exact upd_same, by simp [hlen], fun x hx => ?_⟩
      rcases List.mem_append.mp hx with hx | hx
      · exact hb x hx
      · rw [List.mem_singleton.mp hx]
        exact ⟨Int.emod_nonneg _ (by omega), Int.emod_lt_of_pos _ h3⟩
  · rintro σ' H' ⟨c', l, v, rfl, s, hd, hlen, hb⟩
    walk_at "sts"
    exact q l hlen hb p H' hp s hd
def sp__law_whole (K : PySem.W.Frag) (mg : Str → Option Value) : Sp := fun vs H Q _ => match vs with | [.int t] => Q (.bl true) H | _ => False
theorem q__law_whole {H : Hp} {Q : VK} {E : XK} {t : Int} (q : Q (.bl true) H) : sp__law_whole K mg [.int t] H Q E := q
local macro_rules | `(tactic| walk_at "op") => `(tactic| with_reducible refine q__law_whole ?_)
theorem c__law_whole (T : Txt K mg base) : Cal P w K mg base 1 "_law_whole" (sp__law_whole K mg) := by
  refine T.d__law_whole.cal (k := 0) sc__law_whole (by intro vs H Q E h; unfold sp__law_whole at h; split at h <;> first | rfl | exact h.elim) fun f cdv A outer s H vs Q E hr h => ?_
  refine ⟨_, (pss_one (ps_ret (pe_and (pe_callB call_isi (by rfl) T.n_isinstance (by decide +kernel) (pa_cons (pv 0) (pa_cons (pe_ty "int" (by rfl) T.n_int (by decide +kernel)) pa_nil))) (pe_one (pe_not (pe_callB call_isi (by rfl) T.n_isinstance (by decide +kernel) (pa_cons (pv 0) (pa_cons (pe_ty "bool" (by rfl) T.n_bool (by decide +kernel)) pa_nil)))))))), ?_⟩
  try simp only [cxOf_K, cxOf_K', cxOf_mg, cxOf_mg']
  unfold sp__law_whole at h
  split at h
  case h_2 => exact h.elim
  rename_i t
  rw [show L2.start ["_law_found"] [V.int t] = [some (V.int t)] from rfl]
  walk_at "sa"
  exact h
abbrev Mem := Int × Int × List Str
def d3 (m : Mem) : PyData := .tuple [.int m.1, .int m.2.1, .tuple (m.2.2.map .str)]
theorem hit3 {K : PySem.W.Frag} {H : Hp} {us : List V} {c : List Mem} (hA : DpAll K H us (c.map d3)) {i : Nat} {x : V} (hx : us[i]? = some x) : ∃ m t q, c[i]? = some m ∧ x = .ref t ∧ SqT K H t [.int m.1, .int m.2.1, .ref q] ∧ SqT K H q (m.2.2.map V.str) := by
  obtain ⟨d, h1, h2⟩ := hA.of hx
  rw [List.getElem?_map] at h1
  obtain ⟨m, h3, rfl⟩ := Option.map_eq_some_iff.mp h1
  obtain ⟨t, x1, x2, x3, rfl, h4, h5, h6, h7⟩ := of_t3 h2
  rw [of_int h5, of_int h6] at h4
  obtain ⟨q, xs, rfl, h8, h9⟩ := of_tup h7
  rw [of_strs h9] at h8
  exact ⟨m, t, q, h3, rfl, h4, h8⟩
/-- a crowd as the laws draw it -/
structure CrOk (cr : List Mem) : Prop where
  len : cr.length ≤ 24
  pl : ∀ m ∈ cr, 0 ≤ m.1 ∧ m.1 < 24
  up : (cr.map (·.1)).Pairwise (· < ·)
  sz : ∀ m ∈ cr, 1 ≤ m.2.1 ∧ m.2.1 ≤ 24000000
  ok : ∀ m ∈ cr, ∀ s ∈ m.2.2, PyData.strOk s = true
theorem shp_crowd {cr : List Mem} (h : CrOk cr) : SeqAt.shaped (.list (cr.map d3)) = true := (shp_lst (n := 2) (shp_map fun m hm => shp_tup (n := 1) (shp_cons shp_int (shp_cons shp_int (shp_cons (shp_tup (n := 0) (shp_map fun s hs => shp_str (h.ok m hm s hs))) shp_nil))))).ok
theorem L_popAtI {H : Hp} {Q : VK} {l : Addr} {ps : List Int} {i : Int} (h : H l = some (.lst (ps.map V.int))) (h0 : 0 ≤ i) (h1 : i < ps.length) (hb : ps.length ≤ 1000) (q : ∀ y, ps[i.toNat]? = some y → Q (.int y) (upd H l (.lst ((ps.eraseIdx i.toNat).map V.int)))) : rPopAt (.ref l) [.int i] H Q := by
  have hlt : i.toNat < ps.length := by omega
  have q' := q _ (List.getElem?_eq_getElem hlt)
  have e : ((ps.eraseIdx i.toNat).map V.int) = (ps.map V.int).eraseIdx i.toNat := by
    rw [List.eraseIdx_eq_take_drop_succ, List.eraseIdx_eq_take_drop_succ, List.map_append, List.map_take, List.map_drop]
  rw [e] at q'
  exact ⟨l, _, i, i.toNat, .int ps[i.toNat], rfl, rfl, h, by omega, by omega, seqIndex_of h0 (by rw [List.length_map]; exact h1), by rw [List.getElem?_map, List.getElem?_eq_getElem hlt]; rfl, q'⟩
theorem L_lstRg {te : L2.St → Hp → (Int → Int → Hp → Prop) → Prop} {σ : L2.St} {H : Hp} {Q : VK} (h : te σ H fun a b H1 => RgOk a b ∧ ∀ q, H1 q = none → Q (.ref q) (upd H1 q (.lst (rgV a b)))) : tLstRg te σ H Q := h
theorem L_rg1 {ta : TE} {σ : L2.St} {H : Hp} {Q : Int → Int → Hp → Prop} (h : ta σ H fun x H1 => ∃ n, x = .int n ∧ Q 0 n H1) : tRg1 ta σ H Q := h
theorem rgV_up (n : Nat) : rgV 0 (n : Int) = (upN n).map V.int := by
  unfold rgV upN
  rw [List.map_map, show ((n : Int) - 0).toNat = n by omega]
  refine List.map_congr_left fun i _ => ?_
  show V.int (0 + (i : Int)) = V.int i
  rw [Int.zero_add]
theorem erase_perm {α : Type} : ∀ {l : List α} {i : Nat} {y : α}, l[i]? = some y → (y :: l.eraseIdx i).Perm l
  | [], _, _, h => by simp at h
  | a :: l, 0, y, h => by
    cases h
    exact .refl _
  | a :: l, i + 1, y, h => by
    have ih := erase_perm (l := l) (i := i) (y := y) h
    exact (List.Perm.swap a y _).trans (ih.cons a)
theorem lt_of_nd : ∀ {l : List Int}, l.Pairwise (· ≤ ·) → l.Nodup → l.Pairwise (· < ·)
  | [], _, _ => .nil
  | a :: l, h, n => by
    rw [List.pairwise_cons] at h
    rw [List.nodup_cons] at n
    refine List.pairwise_cons.mpr ⟨fun b hb => ?_, lt_of_nd h.2 n.2⟩
    have := h.1 b hb
    have ne : a ≠ b := fun z => n.1 (z ▸ hb)
    omega
theorem srtI_perm (l : List Int) : (srtI l).Perm l := List.mergeSort_perm l _
theorem srtI_le (l : List Int) : (srtI l).Pairwise (· ≤ ·) := (List.pairwise_mergeSort (le := fun a b : Int => decide (a ≤ b)) (fun a b c h1 h2 => by simp only [decide_eq_true_eq] at *; omega) (fun a b => by simp only [Bool.or_eq_true, decide_eq_true_eq]; omega) l).imp fun h => by simpa using h
def sp__law_crowd (K : PySem.W.Frag) (mg : Str → Option Value) : Sp := fun vs H Q _ => match vs with | [.ref a, .int st, .int most] => ∃ ns : List Int, SqL K H a (ns.map V.int) ∧ 0 ≤ st ∧ st ≤ 1000 ∧ 0 ≤ most ∧ most ≤ 24 ∧ ∀ p us (cr : List Mem) H', H p = none → Same H H' → H' p = some (.lst us) → DpAll K (rs (· ≠ p) H') us (cr.map d3) → CrOk cr → (cr.length : Int) ≤ most → Q (.ref p) H' | _ => False
theorem q__law_crowd {H : Hp} {Q : VK} {E : XK} {a : Addr} {st : Int} {most : Int} (q : ∃ ns : List Int, SqL K H a (ns.map V.int) ∧ 0 ≤ st ∧ st ≤ 1000 ∧ 0 ≤ most ∧ most ≤ 24 ∧ ∀ p us (cr : List Mem) H', H p = none → Same H H' → H' p = some (.lst us) → DpAll K (rs (· ≠ p) H') us (cr.map d3) → CrOk cr → (cr.length : Int) ≤ most → Q (.ref p) H') : sp__law_crowd K mg [.ref a, .int st, .int most] H Q E := q
local macro_rules | `(tactic| walk_at "op") => `(tactic| with_reducible refine q__law_crowd ?_)
theorem c__law_crowd (T : Txt K mg base) : Cal P w K mg base 3 "_law_crowd" (sp__law_crowd K mg) := by
  refine T.d__law_crowd.cal (k := 2) sc__law_crowd (by intro vs H Q E h; unfold sp__law_crowd at h; split at h <;> first | rfl | exact h.elim) fun f cdv A outer s H vs Q E hr h => ?_
  refine ⟨_, (pss_cons (ps_set (i := 3) sc__law_crowd.nd rfl (.inl rfl) (pe_op op_mod (pe_c (c__law_cell T) hr (by decide) (by rfl) (pa_cons (pv 0) (pa_cons (pv 1) pa_nil))) (pe_op op_addA (pv 2) pe_int)))
    (pss_cons (ps_set (i := 4) sc__law_crowd.nd rfl (.inl rfl) (pe_c (c__law_cell T) hr (by decide) (by rfl) (pa_cons (pv 0) (pa_cons (pe_op op_addA (pv 1) pe_int) pa_nil))))
    (pss_cons (ps_set (i := 5) sc__law_crowd.nd rfl (.inr rfl) (pe_c (c__law_row T) hr (by decide) (by rfl) (pa_cons (pe_c (c__law_cell T) hr (by decide) (by rfl) (pa_cons (pv 0) (pa_cons (pe_op op_addA (pv 1) pe_int) pa_nil))) (pa_cons (pv 4) (pa_cons (pv 3) (pa_cons (pe_ix ix_seq (pe_lst (pa_cons pe_int (pa_cons pe_int (pa_cons pe_int pa_nil)))) (pe_op op_mod (pe_op op_fdivW (pv 4) pe_int) pe_int) (fun _ _ => rfl)) pa_nil))))))
    (pss_cons (ps_set (i := 6) sc__law_crowd.nd rfl (.inl rfl) (pe_listRg rfl (by rfl) T.n_list (prg_1 (by rfl) T.n_range pe_int)))
    (pss_cons (ps_set (i := 7) sc__law_crowd.nd rfl (.inr rfl) (pe_lst pa_nil))
    (pss_cons (ps_for PassesOwn.never rfl (pi_list (pe_c (c__law_row T) hr (by decide) (by rfl) (pa_cons (pe_c (c__law_cell T) hr (by decide) (by rfl) (pa_cons (pv 0) (pa_cons (pe_op op_addA (pv 1) pe_int) pa_nil))) (pa_cons (pe_op op_fdivW (pv 4) pe_int) (pa_cons (pv 3) (pa_cons pe_int pa_nil)))))) (pg_name (i := 8) sc__law_crowd.nd rfl (.inl rfl))
    (pss_one (ps_expr (pe_bm PySem.F.plainAttrs_list PySem.F.slot_list_append PySem.F.type_list_append mt_append (pv 7) (pa_cons (pe_bm PySem.F.plainAttrs_list PySem.F.slot_list_pop PySem.F.type_list_pop mt_popAt (pv 6) (pa_cons (pe_op op_mod (pv 8) (pe_callB call_lenA (by rfl) T.n_len (by decide +kernel) (pa_cons (pv 6) pa_nil))) pa_nil)) pa_nil)))))
    (pss_cons (ps_set (i := 7) sc__law_crowd.nd rfl (.inr rfl) (pe_callB cr_sorted (by rfl) T.n_sorted (by decide +kernel) (pa_cons (pv 7) pa_nil)))
    (pss_cons (ps_set (i := 9) sc__law_crowd.nd rfl (.inr rfl) (pe_callTy call_tuple1A (by rfl) T.n_tuple (by decide +kernel) (pa_cons (pe_slice sl_list (pe_lst (pa_cons pe_str (pa_cons pe_str (pa_cons pe_str pa_nil)))) po_none (po_some (pe_op op_mod (pe_op op_fdivW (pv 4) pe_int) pe_int))) pa_nil)))
    (pss_one (ps_ret (pe_lc (own := [("_law_k", 10)]) (g := (gName 10)) (tt := tYes) (te := (tTup (tCons (tOp (rIx K) (tVar 7) (tVar 10)) (tCons (tOp (aAdd K) (tC (.int 1)) (tOp (rIx K) (tVar 5) (tVar 10))) (tCons (tVar 9) tNil))))) rfl sc__law_crowd.nd (pi_range1 (by rfl) T.n_range (pa_cons (pv 3) pa_nil)) (blkOk_by (N := ["_law_script", "_law_start", "_law_most", "_law_many", "_law_bit", "_law_sizes", "_law_left", "_law_places", "_law_pick", "_law_path", "_law_k"]) (sc := defScope s__law_crowd) (by decide +kernel)) (fun _ _ _ _ _ => by exact (pg_name (i := 10) sc__law_crowd.nd rfl (.inl rfl))) (fun _ _ _ _ _ => pts_nil) (fun _ _ _ _ _ => by exact (pe_tup (pa_cons (pe_ix ix_seq (pv 7) (pv 10) (fun _ _ => rfl)) (pa_cons (pe_op op_addA pe_int (pe_ix ix_seq (pv 5) (pv 10) (fun _ _ => rfl))) (pa_cons (pv 9) pa_nil)))))))))))))))), ?_⟩
  try simp only [cxOf_K, cxOf_K', cxOf_mg, cxOf_mg']
  unfold sp__law_crowd at h
  split at h
  case h_2 => exact h.elim
  rename_i a st most
  rw [show L2.start ["_law_script", "_law_start", "_law_most", "_law_many", "_law_bit", "_law_sizes", "_law_left", "_law_places", "_law_pick", "_law_path", "_law_k"] [V.ref a, V.int st, V.int most] = [some (V.ref a), some (V.int st), some (V.int most), none, none, none, none, none, none, none, none] from rfl]
  obtain ⟨ns, hS, st0, st1, mo0, mo1, q⟩ := h
  walk_at "sts"
  refine ⟨ns, hS, st0, by omega, ?_⟩
  walk_at "sts"
  refine L_I (by omega) ?_
  have m0 := Int.emod_nonneg (cellAt ns st (7919 * st + 13)) (show most + 1 ≠ 0 by omega)
  have m1 := Int.emod_lt_of_pos (cellAt ns st (7919 * st + 13)) (show 0 < most + 1 by omega)
  generalize cellAt ns st (7919 * st + 13) % (most + 1) = many at m0 m1
  walk_at "sts"
  refine ⟨ns, hS, by omega, by omega, ?_⟩
  generalize cellAt ns (st + 1) (7919 * (st + 1) + 13) = bit
  walk_at "sts"
  refine ⟨ns, hS, by omega, by omega, ?_⟩
  walk_at "sts"
  walk_at "nw"
  rename_i p1 hp1 H1 s1 e1
  walk_at "sa"
  refine L_ixP (ns := [9, 1000, 24000000]) (P := fun x => 9 ≤ x ∧ x ≤ 24000000) (.of e1) (by simp) (Int.emod_nonneg _ (by decide)) (Int.emod_lt_of_pos _ (by decide)) fun ms hms => ?_
  walk_at "sts"
  refine ⟨m0, by omega, by omega, by omega, fun szs hszl hszb p2 H2 hp2 s2 e2 => ?_⟩
  walk_at "sts"
  refine L_lstRg (L_rg1 ?_)
  walk_at "sts"
  refine ⟨⟨by decide, by decide, by decide, by decide, by decide⟩, ?_⟩
  walk_at "nwp"
  rename_i p3 hp3 H3 s3 e3
  rw [show rgV 0 24 = (upN 24).map V.int from rgV_up 24] at e3
  have n3 : (upN 24).length = 24 := rfl
  walk_at "sts"
  walk_at "nw"
  rename_i p4 hp4 H4 s4 e4
  walk_at "sts"
  refine ⟨ns, s4.seq (s3.seq (s2.seq (s1.seq hS))), by omega, by omega, ?_⟩
  walk_at "sa"
  refine ⟨m0, by omega, by decide, by decide, fun pks hpl hpb p5 H5 hp5 s5 e5 => ?_⟩
  refine ⟨p5, rfl, ⟨_, .of e5⟩, ?_⟩
  have np34 : p3 ≠ p4 := fun z => by rw [z] at e3; rw [e3] at hp4; cases hp4
  have np35 : p3 ≠ p5 := fun z => by rw [← z, s4 _ _ e3] at hp5; cases hp5
  have np45 : p4 ≠ p5 := fun z => by rw [← z, e4] at hp5; cases hp5
  have nH3 : H p3 = none := (s1.trans s2).free hp3
  have nH4 : H p4 = none := (s1.trans (s2.trans s3)).free hp4
  refine f_it walk_list (fun i σ' H' => ∃ (lf pl : List Int) (v8 v9 v10 : Option V), σ' = [some (.ref a), some (.int st), some (.int most), some (.int many), some (.int bit), some (.ref p2), some (.ref p3), some (.ref p4), v8, v9, v10] ∧ Same H H' ∧ H' p2 = some (.lst (szs.map V.int)) ∧ H' p5 = some (.lst (pks.map V.int)) ∧ H' p3 = some (.lst (lf.map V.int)) ∧ H' p4 = some (.lst (pl.map V.int)) ∧ (lf ++ pl).Perm (upN 24) ∧ pl.length = i) ⟨upN 24, [], _, _, _, rfl, s1.trans (s2.trans (s3.trans (s4.trans s5))), s5 _ _ (s4 _ _ (s3 _ _ e2)), e5, s5 _ _ (s4 _ _ e3), s5 _ _ e4, by rw [List.append_nil], rfl⟩ (fun i σ' H' _ ⟨_, _, _, _, _, _, _, _, e, _⟩ => .of e) ?_ ?_
  · rintro i x σ' Hy H6 hi ⟨lf, pl, v8, v9, v10, rfl, s6, e26, e56, e36, e46, hpm, hli⟩ ⟨rfl, hx⟩
    rw [List.getElem?_map] at hx
    obtain ⟨pk, hpk, rfl⟩ := Option.map_eq_some_iff.mp hx
    have hb := hpb pk (List.mem_of_getElem? hpk)
    have hll : lf.length + pl.length = 24 := by
      have := hpm.length_eq
      rw [List.length_append, n3] at this
      exact this
    rw [List.length_map] at hi
    walk_at "sts"
    refine L_tyL (.of e46) ?_
    walk_at "sts"
    refine L_tyL (.of e36) ?_
    walk_at "sts"
    refine L_lenL (.of e36) ?_
    walk_at "sts"
    rw [List.length_map]
    refine L_I (by omega) ?_
    walk_at "sts"
    have q0 := Int.emod_nonneg pk (show (lf.length : Int) ≠ 0 by omega)
    have q1 := Int.emod_lt_of_pos pk (show (0 : Int) < lf.length by omega)
    generalize pk % (lf.length : Int) = at_ at q0 q1
    refine L_popAtI e36 q0 q1 (by omega) fun y hy => ?_
    have s7 := same_mut (o := .lst ((lf.eraseIdx at_.toNat).map V.int)) s6 nH3
    have e27 : upd H6 p3 (.lst ((lf.eraseIdx at_.toNat).map V.int)) p2 = some (.lst (szs.map V.int)) := by
      rw [upd_ne fun z => ?_]
      · exact e26
      · rw [← z, e2] at hp3
        cases hp3
    have e57 : upd H6 p3 (.lst ((lf.eraseIdx at_.toNat).map V.int)) p5 = some (.lst (pks.map V.int)) := by rw [upd_ne np35.symm]; exact e56
    have e37 : upd H6 p3 (.lst ((lf.eraseIdx at_.toNat).map V.int)) p3 = some (.lst ((lf.eraseIdx at_.toNat).map V.int)) := upd_same
    have e47 : upd H6 p3 (.lst ((lf.eraseIdx at_.toNat).map V.int)) p4 = some (.lst (pl.map V.int)) := by rw [upd_ne np34.symm]; exact e46
    generalize upd H6 p3 (.lst ((lf.eraseIdx at_.toNat).map V.int)) = H7 at s7 e27 e57 e37 e47 ⊢
    walk_at "sts"
    refine L_app e47 (by rw [List.length_map]; exact sz_lt (by omega)) ?_
    walk_at "sts"
    have np42 : p2 ≠ p4 := fun z => by rw [← z, s3 _ _ e2] at hp4; cases hp4
    refine ⟨lf.eraseIdx at_.toNat, pl ++ [y], _, _, _, rfl, same_mut s7 nH4, by rw [upd_ne np42]; exact e27, by rw [upd_ne np45.symm]; exact e57, by rw [upd_ne np34]; exact e37, by rw [List.map_append]; exact upd_same, ?_, by simp [hli]⟩
    refine List.Perm.trans ?_ hpm
    refine List.Perm.trans ?_ ((erase_perm hy).append_right pl)
    rw [← List.append_assoc]
    exact List.perm_append_comm
  rintro σ' H6 ⟨lf, pl, v8, v9, v10, rfl, s6, e26, e56, e36, e46, hpm, hli⟩
  rw [List.length_map, hpl] at hli
  walk_at "sts"
  refine ⟨p4, pl, rfl, .of e46, by omega, fun sp p7 hp7 hsp hn7 => ?_⟩
  cases srtI_eq hp7 hsp
  have s7 := same_new (o := .lst ((srtI pl).map V.int)) hn7
  have e7 : upd H6 p7 (.lst ((srtI pl).map V.int)) p7 = some (.lst ((srtI pl).map V.int)) := upd_same
  generalize upd H6 p7 (.lst ((srtI pl).map V.int)) = H7 at s7 e7 ⊢
  walk_at "sts"
  walk_at "nw"
  rename_i p8 hp8 H8 s8 e8
  walk_at "sa"
  have k0 := Int.emod_nonneg (bit / 12) (show (4 : Int) ≠ 0 by decide)
  have k1 := Int.emod_lt_of_pos (bit / 12) (show (0 : Int) < 4 by decide)
  generalize bit / 12 % 4 = deep at k0 k1
  obtain ⟨dp, rfl⟩ : ∃ dp : Nat, deep = (dp : Int) := ⟨deep.toNat, by omega⟩
  refine L_slL (.of e8) fun p9 hp9 => ?_
  rw [show ([V.str "ab", V.str "abc", V.str "b"] : List V) = ([("ab" : Str), "abc", "b"] : List Str).map V.str from rfl, cutV_map, cutG_take]
  have s9 := same_new (o := .lst ((([("ab" : Str), "abc", "b"] : List Str).take dp).map V.str)) hp9
  have e9 : upd H8 p9 (.lst ((([("ab" : Str), "abc", "b"] : List Str).take dp).map V.str)) p9 = some (.lst ((([("ab" : Str), "abc", "b"] : List Str).take dp).map V.str)) := upd_same
  have hpo : ∀ s ∈ ([("ab" : Str), "abc", "b"] : List Str).take dp, PyData.strOk s = true := fun s hs => by
    have := List.mem_of_mem_take hs
    simp only [List.mem_cons, List.not_mem_nil, or_false] at this
    rcases this with rfl | rfl | rfl <;> decide +kernel
  generalize upd H8 p9 (.lst ((([("ab" : Str), "abc", "b"] : List Str).take dp).map V.str)) = H9 at s9 e9 ⊢
  generalize ([("ab" : Str), "abc", "b"] : List Str).take dp = pth at e9 hpo
  walk_at "sts"
  refine L_tuple1 (.of e9) fun pp hpp => ?_
  have s10 := same_new (o := .tup (pth.map V.str)) hpp
  have e10 : upd H9 pp (.tup (pth.map V.str)) pp = some (.tup (pth.map V.str)) := upd_same
  generalize upd H9 pp (.tup (pth.map V.str)) = H10 at s10 e10 ⊢
  walk_at "sts"
  refine L_r1 (by omega) (by omega) ?_
  have s610 : Same H6 H10 := s7.trans (s8.trans (s9.trans s10))
  have hsl : (srtI pl).length = pl.length := srtI_len pl
  refine lc_dp (K := K) walk_range (fun i => some (d3 ((srtI pl).getD i 0, 1 + szs.getD i 0, pth))) (by omega) (fun _ _ => True.intro) ?_ ?_
  · rintro i x1 p0 H11 H12 R R' hi np s11 ⟨o, ho⟩ ⟨rfl, rfl⟩ r1 r2
    walk_at "sts"
    refine ⟨rfl, ?_⟩
    walk_at "sts"
    refine L_ixL (.of (s11 _ _ (s10 _ _ (s9 _ _ (s8 _ _ e7))))) (atI_ints (by omega) (by omega)) ?_
    walk_at "sts"
    refine L_ixL (.of (s11 _ _ (s610 _ _ e26))) (atI_ints (by omega) (by omega)) ?_
    walk_at "sts"
    walk_at "nw"
    rename_i p12 hp12 H13 s13 e13
    have n12 : p12 ≠ p0 := fun z => by rw [z, ho] at hp12; cases hp12
    have npp : pp ≠ p0 := fun z => by rw [← z, e10] at np; cases np
    rw [Int.zero_add, show ((i : Int)).toNat = i from rfl] at e13
    exact r1 _ _ _ rfl s13 (dp_tupN e13 n12 (.cons (.int _) (.cons (.int _) (.cons (dp_tupN (s13 _ _ (s11 _ _ e10)) npp (dp_strs _)) .nil))))
  intro p H11 vs hp s11 e11 d11
  walk_at "sts"
  rw [fm_some, show many.toNat = pl.length from hli.symm] at d11
  have hml : ((List.range pl.length).map fun i => (((srtI pl).getD i 0, 1 + szs.getD i 0, pth) : Mem)).length = pl.length := by rw [List.length_map, List.length_range]
  refine q p vs ((List.range pl.length).map fun i => ((srtI pl).getD i 0, 1 + szs.getD i 0, pth)) H11 ((s6.trans s610).free hp) (s6.trans (s610.trans s11)) e11 (by rw [List.map_map]; exact d11) ⟨by rw [hml]; omega, ?_, ?_, ?_, ?_⟩ (by rw [hml]; omega)
  · intro m hm
    obtain ⟨i, hi, rfl⟩ := List.mem_map.mp hm
    have hi := List.mem_range.mp hi
    have : (srtI pl).getD i 0 ∈ upN 24 := by
      rw [List.getD_eq_getElem?_getD, List.getElem?_eq_getElem (by omega)]
      exact hpm.mem_iff.mp (List.mem_append_right _ ((srtI_perm pl).mem_iff.mp (List.getElem_mem _)))
    exact upN_mem.mp this
  · have : ((List.range pl.length).map fun i => (((srtI pl).getD i 0, 1 + szs.getD i 0, pth) : Mem)).map (·.1) = srtI pl := by
      rw [List.map_map]
      refine List.ext_getElem (by rw [List.length_map, List.length_range, hsl]) fun j h1 h2 => ?_
      simp only [List.getElem_map, List.getElem_range, Function.comp]
      rw [List.getD_eq_getElem?_getD, List.getElem?_eq_getElem h2]
      rfl
    rw [this]
    have nd : (lf ++ pl).Nodup := hpm.nodup_iff.mpr ((upN_lt 24).imp fun h => Int.ne_of_lt h)
    exact lt_of_nd (srtI_le pl) ((srtI_perm pl).nodup_iff.mpr (List.nodup_append.mp nd).2.1)
  · intro m hm
    obtain ⟨i, hi, rfl⟩ := List.mem_map.mp hm
    have hi := List.mem_range.mp hi
    have := hszb (szs.getD i 0) (by rw [List.getD_eq_getElem?_getD, List.getElem?_eq_getElem (by omega)]; exact List.getElem_mem _)
    show 1 ≤ 1 + szs.getD i 0 ∧ 1 + szs.getD i 0 ≤ 24000000
    omega
  · intro m hm s hs
    obtain ⟨i, hi, rfl⟩ := List.mem_map.mp hm
    exact hpo s hs
/-- a plan Few at x -/
def FewA (mg : Str → Option Value) (x : Addr) (m : Int) (H : Hp) : Prop := ∃ dx, H x = some (.ins (cA mg "Few") dx [("many", .int m)])
def sp_Few_node (K : PySem.W.Frag) (mg : Str → Option Value) : Sp := fun vs H Q _ => match vs with | [.ref x, .ref c] => ∃ (P : Addr → Prop) (m : Int) (ps : List Int), NL P H ∧ FewA mg x m H ∧ 0 ≤ m ∧ Crd K H c ps ∧ Tabs (tabsL K mg) H ∧ FewQ K mg P (ps, m, []) H Q | _ => False
theorem q_Few_node {H : Hp} {Q : VK} {E : XK} {x : Addr} {c : Addr} (q : ∃ (P : Addr → Prop) (m : Int) (ps : List Int), NL P H ∧ FewA mg x m H ∧ 0 ≤ m ∧ Crd K H c ps ∧ Tabs (tabsL K mg) H ∧ FewQ K mg P (ps, m, []) H Q) : sp_Few_node K mg [.ref x, .ref c] H Q E := q
local macro_rules | `(tactic| walk_at "op") => `(tactic| with_reducible refine q_Few_node ?_)
theorem c_Few_node (T : Txt K mg base) : Met P w K mg base 4 (cA mg "Few") "node" (sp_Few_node K mg) := by
  refine MethAt.met T.k_Few T.d_Few_node (k := 3) sc_Few_node (by intro vs H Q E h; unfold sp_Few_node at h; split at h <;> first | rfl | exact h.elim) fun f cdv A outer s H vs Q E hr h => ?_
  refine ⟨_, (pss_one (ps_ret (pe_c (c_few_node T) hr (by decide) (by rfl) (pa_cons (pe_c (c_places_of T) hr (by decide) (by rfl) (pa_cons (pv 1) pa_nil)) (pa_cons (pe_fld (pv 0) rfl) (pa_cons (pe_lst pa_nil) pa_nil)))))), ?_⟩
  try simp only [cxOf_K, cxOf_K', cxOf_mg, cxOf_mg']
  unfold sp_Few_node at h
  split at h
  case h_2 => exact h.elim
  rename_i x c
  rw [show L2.start ["self", "crowd"] [V.ref x, V.ref c] = [some (V.ref x), some (V.ref c)] from rfl]
  obtain ⟨P, m, ps, hn, ⟨dx, hx⟩, m0, hc, hT, q⟩ := h
  walk_at "sts"
  refine ⟨ps, hc, fun p1 H1 hp1 s1 e1 => ?_⟩
  walk_at "sts"
  refine L_fldv (s1 _ _ hx) T.k_Few T.na_Few_many rfl ?_
  walk_at "sts"
  walk_at "nw"
  rename_i p2 hp2 H2 s2 e2
  have ev : Ev (tabsL K mg) H H2 := .same (s1.trans s2)
  refine ⟨P, ps, [], s2 _ _ e1, e2, hn.new hp1, hn.new (s1.free hp2), hn.ev ev, ⟨m0, by have := hc.len; simpa using this⟩, ev.tb hT, fun y H' ev2 at1 => q y H' (ev.trans ev2) at1⟩
def sp_Few_bounds (K : PySem.W.Frag) (mg : Str → Option Value) : Sp := fun vs H Q _ => match vs with | [.ref x, .ref c] => ∃ m ps, FewA mg x m H ∧ Crd K H c ps ∧ NewT H [.int (min m ps.length), .int (min m ps.length)] Q | _ => False
theorem q_Few_bounds {H : Hp} {Q : VK} {E : XK} {x : Addr} {c : Addr} (q : ∃ m ps, FewA mg x m H ∧ Crd K H c ps ∧ NewT H [.int (min m ps.length), .int (min m ps.length)] Q) : sp_Few_bounds K mg [.ref x, .ref c] H Q E := q
local macro_rules | `(tactic| walk_at "op") => `(tactic| with_reducible refine q_Few_bounds ?_)
theorem c_Few_bounds (T : Txt K mg base) : Met P w K mg base 1 (cA mg "Few") "bounds" (sp_Few_bounds K mg) := by
  refine MethAt.met T.k_Few T.d_Few_bounds (k := 0) sc_Few_bounds (by intro vs H Q E h; unfold sp_Few_bounds at h; split at h <;> first | rfl | exact h.elim) fun f cdv A outer s H vs Q E hr h => ?_
  refine ⟨_, (pss_cons (ps_set (i := 2) sc_Few_bounds.nd rfl (.inl rfl) (pe_callB (call_min2A rfl) (by rfl) T.n_min (by decide +kernel) (pa_cons (pe_fld (pv 0) rfl) (pa_cons (pe_callB call_lenA (by rfl) T.n_len (by decide +kernel) (pa_cons (pv 1) pa_nil)) pa_nil))))
    (pss_one (ps_ret (pe_tup (pa_cons (pv 2) (pa_cons (pv 2) pa_nil)))))), ?_⟩
  try simp only [cxOf_K, cxOf_K', cxOf_mg, cxOf_mg']
  unfold sp_Few_bounds at h
  split at h
  case h_2 => exact h.elim
  rename_i x c
  rw [show L2.start ["self", "crowd", "drawn"] [V.ref x, V.ref c] = [some (V.ref x), some (V.ref c), none] from rfl]
  obtain ⟨m, ps, ⟨dx, hx⟩, ⟨⟨us, hS, hP⟩, hl⟩, q⟩ := h
  walk_at "sts"
  refine L_fldv hx T.k_Few T.na_Few_many rfl ?_
  walk_at "sts"
  refine L_lenL hS ?_
  walk_at "sts"
  walk_at "nw"
  rename_i p1 hp1 H1 s1 e1
  rw [Paired.length hP] at e1
  walk_at "sts"
  exact q p1 H1 hp1 s1 e1
/-- what is asked of a plan's __init__ -/
def Ini (K : PySem.W.Frag) (mg : Str → Option Value) (C : Addr) (f : Str) (lo hi : Int) (x : Addr) (v : V) (H : Hp) (Q : VK) (E : XK) : Prop :=
  ∃ dx, H x = some (.ins C dx []) ∧ ((BadW K H v lo hi ∧ ∀ d H', Same H H' → H' d = some (.xd [("place", .int 0)]) → E (.ref (cA mg "NoPlan")) (some d) H') ∨
    ∃ t, v = .int t ∧ lo ≤ t ∧ t ≤ hi ∧ ∀ H', (∀ b o, H b = some o → b ≠ x → H' b = some o) → H' x = some (.ins C dx [(f, .int t)]) → Q .non H')
theorem q_noPlan {H : Hp} {E : XK} (q : ∀ d H', Same H H' → H' d = some (.xd [("place", .int 0)]) → E (.ref (cA mg "NoPlan")) (some d) H') : [V.int 0].length ≤ 1000 ∧ ∀ a, H a = none → sp_NoPlan___init__ K mg (.ref a :: ([V.int 0] ++ [])) (upd H a (exo a (cA mg "NoPlan") none))
  (fun v H2 => v = .non ∧ ∃ (d : Addr) (fs : List (Str × V)), H2 a = some (exo a (cA mg "NoPlan") (some d)) ∧ H2 d = some (exd d fs) ∧ H d = none ∧ E (.ref (cA mg "NoPlan")) (some d) (upd (del H2 a) d (.xd fs))) (fun _ _ _ => False) :=
  L_mkO1 (fun _ _ _ _ h => h) fun d nd => q d _ (same_new nd) upd_same
theorem txt_short (z : Str) {t : Int} (hz : z.length ≤ 10) (h1 : 0 ≤ t) (h2 : t ≤ 100) : z.length + (↑(toString t) : Str).length ≤ sizeLine := by
  have := str_short t h1 h2
  have := sizeLine_eq
  omega
def sp_Few___init__ (K : PySem.W.Frag) (mg : Str → Option Value) : Sp := fun vs H Q E => match vs with | [.ref x, v] => Ini K mg (cA mg "Few") "many" 0 24 x v H Q E | _ => False
theorem q_Few___init__ {H : Hp} {Q : VK} {E : XK} {x : Addr} {v : V} (q : Ini K mg (cA mg "Few") "many" 0 24 x v H Q E) : sp_Few___init__ K mg [.ref x, v] H Q E := q
local macro_rules | `(tactic| walk_at "op") => `(tactic| with_reducible refine q_Few___init__ ?_)
theorem m_Few (T : Txt K mg base) : MakX P w K mg base 3 "Few" (cA mg "Few") (sp_Few___init__ K mg) := by
  refine InitAt.makX T.m_Few T.i_Few (k := 2) sc_Few___init__ (by intro vs H Q E h; unfold sp_Few___init__ at h; split at h <;> first | rfl | exact h.elim) fun f cdv A outer s H vs Q E hr h => ?_
  refine ⟨_, (pss_cons (ps_if (pt_not (pt_val (pe_c (c_is_whole T) hr (by decide) (by rfl) (pa_cons (pv 1) (pa_cons pe_int (pa_cons (pe_gc (by rfl) T.g_MOST_DRAWN) pa_nil))))))
    (pss_one (ps_raise rfl (takes_of rfl rfl rfl rfl) (pmk_x (x_NoPlan T) T.o_NoPlan hr (by decide) (by rfl) (pa_cons pe_int pa_nil))))
    pss_nil)
    (pss_one (ps_fld (pv 0) (pv 1) rfl))), ?_⟩
  try simp only [cxOf_K, cxOf_K', cxOf_mg, cxOf_mg']
  unfold sp_Few___init__ at h
  split at h
  case h_2 => exact h.elim
  rename_i x v
  rw [show L2.start ["self", "many"] [V.ref x, v] = [some (V.ref x), some (v)] from rfl]
  obtain ⟨dx, hx, ⟨hb, q⟩ | ⟨t, rfl, h1, h2, q⟩⟩ := h
  · walk_at "sts"
    refine q_wholeB hb ?_
    walk_at "sts"
    refine L_mkO ?_
    walk_at "sts"
    exact q_noPlan q
  · walk_at "sts"
    refine L_sFldv hx T.k_Few T.na_Few_many (by decide) ?_
    refine q _ (fun b o hb ne => by rw [upd_ne ne]; exact hb) upd_same
/-- the share in which two of so many are drawn together -/
def chF (m e i j : Int) : Int × Int := if i = j then shr (min m e) e else shr (min m e * (min m e - 1)) (e * (e - 1))
def sp_Few_chance (K : PySem.W.Frag) (mg : Str → Option Value) : Sp := fun vs H Q _ => match vs with | [.ref x, .ref c, .int i, .int j] => ∃ m ps, FewA mg x m H ∧ 0 ≤ m ∧ m ≤ 24 ∧ Crd K H c ps ∧ 0 ≤ i ∧ i < ps.length ∧ 0 ≤ j ∧ j < ps.length ∧ NewT H [.int (chF m ps.length i j).1, .int (chF m ps.length i j).2] Q | _ => False
theorem q_Few_chance {H : Hp} {Q : VK} {E : XK} {x : Addr} {c : Addr} {i : Int} {j : Int} (q : ∃ m ps, FewA mg x m H ∧ 0 ≤ m ∧ m ≤ 24 ∧ Crd K H c ps ∧ 0 ≤ i ∧ i < ps.length ∧ 0 ≤ j ∧ j < ps.length ∧ NewT H [.int (chF m ps.length i j).1, .int (chF m ps.length i j).2] Q) : sp_Few_chance K mg [.ref x, .ref c, .int i, .int j] H Q E := q
local macro_rules | `(tactic| walk_at "op") => `(tactic| with_reducible refine q_Few_chance ?_)
theorem c_Few_chance (T : Txt K mg base) : Met P w K mg base 3 (cA mg "Few") "chance" (sp_Few_chance K mg) := by
  refine MethAt.met T.k_Few T.d_Few_chance (k := 2) sc_Few_chance (by intro vs H Q E h; unfold sp_Few_chance at h; split at h <;> first | rfl | exact h.elim) fun f cdv A outer s H vs Q E hr h => ?_
  refine ⟨_, (pss_cons (ps_set (i := 4) sc_Few_chance.nd rfl (.inl rfl) (pe_callB call_lenA (by rfl) T.n_len (by decide +kernel) (pa_cons (pv 1) pa_nil)))
    (pss_cons (ps_set (i := 5) sc_Few_chance.nd rfl (.inl rfl) (pe_callB (call_min2A rfl) (by rfl) T.n_min (by decide +kernel) (pa_cons (pe_fld (pv 0) rfl) (pa_cons (pv 4) pa_nil))))
    (pss_cons (ps_if (pt_cmpR (op_eqA hr) (pv 2) (pv 3) (nomark _))
    (pss_one (ps_ret (pe_c (c_share T) hr (by decide) (by rfl) (pa_cons (pv 5) (pa_cons (pv 4) pa_nil)))))
    pss_nil)
    (pss_one (ps_ret (pe_c (c_share T) hr (by decide) (by rfl) (pa_cons (pe_op op_mulA (pv 5) (pe_op op_sub (pv 5) pe_int)) (pa_cons (pe_op op_mulA (pv 4) (pe_op op_sub (pv 4) pe_int)) pa_nil)))))))), ?_⟩
  try simp only [cxOf_K, cxOf_K', cxOf_mg, cxOf_mg']
  unfold sp_Few_chance at h
  split at h
  case h_2 => exact h.elim
  rename_i x c i j
  rw [show L2.start ["self", "crowd", "one", "other", "every", "drawn"] [V.ref x, V.ref c, V.int i, V.int j] = [some (V.ref x), some (V.ref c), some (V.int i), some (V.int j), none, none] from rfl]
  obtain ⟨m, ps, ⟨dx, hx⟩, m0, m1, ⟨⟨us, hS, hP⟩, hl⟩, i0, i1, j0, j1, q⟩ := h
  have hul := Paired.length hP
  walk_at "sts"
  refine L_lenL hS ?_
  walk_at "sts"
  refine L_fldv hx T.k_Few T.na_Few_many rfl ?_
  walk_at "sts"
  rw [hul]
  unfold chF at q
  refine L_d (fun c => ?_) (fun c => ?_)
  · rw [if_pos c] at q
    walk_at "sts"
    exact ⟨by omega, (bd_64 (by omega)).mono (by decide), q⟩
  · rw [if_neg c] at q
    have he : 2 ≤ (ps.length : Int) := by omega
    have hb : 0 < (ps.length : Int) * ((ps.length : Int) - 1) := Int.mul_pos (by omega) (by omega)
    walk_at "sts"
    refine L_mulI ((bd_64 (by omega)).cmul (bd_64 (by omega))) ?_
    walk_at "sts"
    refine L_mulI ((bd_64 (by omega)).cmul (bd_64 (by omega))) ?_
    walk_at "sts"
    exact ⟨by omega, ((bd_64 (by omega)).mul (bd_64 (by omega))).mono (by decide), q⟩
def sp_Few_text (K : PySem.W.Frag) (mg : Str → Option Value) : Sp := fun vs H Q _ => match vs with | [.ref x] => ∃ m, FewA mg x m H ∧ 0 ≤ m ∧ m ≤ 24 ∧ Q (.str ("few " ++ (↑(toString m) : Str))) H | _ => False
theorem q_Few_text {H : Hp} {Q : VK} {E : XK} {x : Addr} (q : ∃ m, FewA mg x m H ∧ 0 ≤ m ∧ m ≤ 24 ∧ Q (.str ("few " ++ (↑(toString m) : Str))) H) : sp_Few_text K mg [.ref x] H Q E := q
local macro_rules | `(tactic| walk_at "op") => `(tactic| with_reducible refine q_Few_text ?_)
theorem c_Few_text (T : Txt K mg base) : Met P w K mg base 1 (cA mg "Few") "text" (sp_Few_text K mg) := by
  refine MethAt.met T.k_Few T.d_Few_text (k := 0) sc_Few_text (by intro vs H Q E h; unfold sp_Few_text at h; split at h <;> first | rfl | exact h.elim) fun f cdv A outer s H vs Q E hr h => ?_
  refine ⟨_, (pss_one (ps_ret (pe_op op_addA pe_str (pe_callTy call_str1A (by rfl) T.n_str (by decide +kernel) (pa_cons (pe_fld (pv 0) rfl) pa_nil))))), ?_⟩
  try simp only [cxOf_K, cxOf_K', cxOf_mg, cxOf_mg']
  unfold sp_Few_text at h
  split at h
  case h_2 => exact h.elim
  rename_i x
  rw [show L2.start ["self"] [V.ref x] = [some (V.ref x)] from rfl]
  obtain ⟨m, ⟨dx, hx⟩, m0, m1, q⟩ := h
  walk_at "sts"
  refine L_fldv hx T.k_Few T.na_Few_many rfl ?_
  walk_at "sts"
  refine L_str1 (by omega) ?_
  refine L_addS (txt_short _ (by decide) m0 (by omega)) ?_
  walk_at "sts"
  exact q
/-- the matrix by counts -/
def matF (m : Int) (n : Nat) : List (List (Int × Int)) := (List.range n).map fun i : Nat => (List.range n).map fun j : Nat => chF m n i j
def sp_Few_matrix (K : PySem.W.Frag) (mg : Str → Option Value) : Sp := fun vs H Q _ => match vs with | [.ref x, .ref c] => ∃ m ps, FewA mg x m H ∧ 0 ≤ m ∧ m ≤ 24 ∧ Crd K H c ps ∧ ∀ p H' os, H p = none → Same H H' → H' p = some (.lst (os.map V.ref)) → RowsN K H H' p os (matF m ps.length) → Q (.ref p) H' | _ => False
theorem q_Few_matrix {H : Hp} {Q : VK} {E : XK} {x : Addr} {c : Addr} (q : ∃ m ps, FewA mg x m H ∧ 0 ≤ m ∧ m ≤ 24 ∧ Crd K H c ps ∧ ∀ p H' os, H p = none → Same H H' → H' p = some (.lst (os.map V.ref)) → RowsN K H H' p os (matF m ps.length) → Q (.ref p) H') : sp_Few_matrix K mg [.ref x, .ref c] H Q E := q
local macro_rules | `(tactic| walk_at "op") => `(tactic| with_reducible refine q_Few_matrix ?_)
theorem c_Few_matrix (T : Txt K mg base) : Met P w K mg base 4 (cA mg "Few") "matrix" (sp_Few_matrix K mg) := by
  refine MethAt.met T.k_Few T.d_Few_matrix (k := 3) sc_Few_matrix (by intro vs H Q E h; unfold sp_Few_matrix at h; split at h <;> first | rfl | exact h.elim) fun f cdv A outer s H vs Q E hr h => ?_
  refine ⟨_, (pss_one (ps_ret (pe_lc (own := [("one", 2)]) (g := (gName 2)) (tt := tYes) (te := (tLc (iRng1 (tCons (tCB (aLen K) (tCons (tVar 1) tNil)) tNil)) (gName 3) tYes (tMeth (cA mg "Few") "chance" (sp_Few_chance K mg) [] E0 (tVar 0) (tCons (tVar 1) (tCons (tVar 2) (tCons (tVar 3) tNil)))) [3])) rfl sc_Few_matrix.nd (pi_range1 (by rfl) T.n_range (pa_cons (pe_callB call_lenA (by rfl) T.n_len (by decide +kernel) (pa_cons (pv 1) pa_nil)) pa_nil)) (blkOk_by (N := ["self", "crowd", "one", "other"]) (sc := defScope s_Few_matrix) (by decide +kernel)) (fun _ _ _ _ _ => by exact (pg_name (i := 2) sc_Few_matrix.nd rfl (.inr rfl))) (fun _ _ _ _ _ => pts_nil) (fun _ _ _ _ _ => by exact (pe_lc (own := [("other", 3)]) (g := (gName 3)) (tt := tYes) (te := (tMeth (cA mg "Few") "chance" (sp_Few_chance K mg) [] E0 (tVar 0) (tCons (tVar 1) (tCons (tVar 2) (tCons (tVar 3) tNil))))) rfl sc_Few_matrix.nd (pi_range1 (by rfl) T.n_range (pa_cons (pe_callB call_lenA (by rfl) T.n_len (by decide +kernel) (pa_cons (pv 1) pa_nil)) pa_nil)) (blkOk_by (by rfl)) (fun _ _ _ _ _ => by exact (pg_name (i := 3) sc_Few_matrix.nd rfl (.inl rfl))) (fun _ _ _ _ _ => pts_nil) (fun _ _ _ _ _ => by exact (pe_mt (c_Few_chance T) hr (by decide) (pv 0) (pa_cons (pv 1) (pa_cons (pv 2) (pa_cons (pv 3) pa_nil)))))))))), ?_⟩
  try simp only [cxOf_K, cxOf_K', cxOf_mg, cxOf_mg']
  unfold sp_Few_matrix at h
  split at h
  case h_2 => exact h.elim
  rename_i x c
  rw [show L2.start ["self", "crowd", "one", "other"] [V.ref x, V.ref c] = [some (V.ref x), some (V.ref c), none, none] from rfl]
  obtain ⟨m, ps, hx, m0, m1, hc, q⟩ := h
  have hc' := hc
  obtain ⟨⟨us, hS, hP⟩, hl⟩ := hc'
  have hul := Paired.length hP
  walk_at "sts"
  refine L_lenL hS ?_
  walk_at "sts"
  rw [hul]
  refine L_r1 (by omega) (by omega) ?_
  refine lc_rows (K := K) walk_range (fun i => (List.range ps.length).map fun j : Nat => chF m ps.length i j) (by omega) (fun _ _ => True.intro) ?_ ?_
  · rintro i x1 H2 H2' R R' hi s2 ⟨rfl, rfl⟩ r1
    walk_at "sts"
    refine ⟨rfl, ?_⟩
    walk_at "sts"
    refine L_lenL (s2.seq hS) ?_
    walk_at "sts"
    rw [hul]
    refine L_r1 (by omega) (by omega) ?_
    refine lc_ob (Q2 K) (fun _ _ _ _ s h => Q2.same h s) (fun H D us us' v a e h => Q2.mu h e) walk_range (fun j => some (chF m ps.length i j)) (by omega) (fun _ _ => True.intro) ?_ ?_
    · rintro j x2 H3 H3' R1 R1' hj s3 ⟨rfl, rfl⟩ q1 q2
      walk_at "sts"
      refine ⟨rfl, ?_⟩
      walk_at "sts"
      have s23 := s2.trans s3
      obtain ⟨dx, hdx⟩ := hx
      refine L_methv (s23 _ _ hdx) rfl ?_
      walk_at "sts"
      refine ⟨m, ps, ⟨dx, s23 _ _ hdx⟩, m0, m1, hc.ev (Ev.same (T := []) s23), by omega, by omega, by omega, by omega, fun p6 H6 hp6 s6 e6 => ?_⟩
      rw [Int.zero_add, Int.zero_add] at e6
      exact q1 _ (chF m ps.length i j) _ rfl s6 ⟨p6, rfl, .of e6⟩
    intro p4 H4 vs4 hp4 s4 e4 h4
    rw [show (((ps.length : Int)).toNat) = ps.length from by omega, fm_some] at h4
    exact r1 p4 vs4 H4 s4 hp4 e4 h4
  intro p H' os hp s e d
  walk_at "sts"
  refine q p H' os hp s e ?_
  rw [show (((ps.length : Int)).toNat) = ps.length from by omega] at d
  exact d
/-- a crowd as data -/
structure CrdS (K : PySem.W.Frag) (H : Hp) (c : Addr) (cr : List Mem) : Prop where
  ex : ∃ us, SqL K H c us ∧ DpAll K H us (cr.map d3)
  ok : CrOk cr
theorem CrdS.ev {K : PySem.W.Frag} {T : List (Addr × Str)} {H H' : Hp} {c : Addr} {cr : List Mem} (h : CrdS K H c cr) (e : Ev T H H') : CrdS K H' c cr := by
  obtain ⟨⟨us, h1, h2⟩, hl⟩ := h
  exact ⟨⟨us, e.seq h1, e.dpA h2⟩, hl⟩
theorem crd_of {K : PySem.W.Frag} {H : Hp} {c : Addr} {us : List V} {cr : List Mem} (h : SqL K H c us) (d : DpAll K H us (cr.map d3)) (l : cr.length ≤ 24) : Crd K H c (cr.map (·.1)) := by
  refine ⟨⟨us, h, ?_⟩, by rw [List.length_map]; exact l⟩
  have : ∀ (cr : List Mem) (us : List V), DpAll K H us (cr.map d3) → Paired (MemB K H) us (cr.map (·.1)) := by
    intro cr
    induction cr with
    | nil => intro us h; cases h; exact .nil
    | cons m cr ih =>
      intro us h
      cases h with | cons h1 h2 =>
      obtain ⟨t, x1, x2, x3, rfl, h4, h5, h6, h7⟩ := of_t3 h1
      rw [of_int h5] at h4
      exact .cons ⟨t, x2, x3, rfl, h4⟩ (ih _ h2)
  exact this cr us d
theorem CrdS.crd {K : PySem.W.Frag} {H : Hp} {c : Addr} {cr : List Mem} (h : CrdS K H c cr) : Crd K H c (cr.map (·.1)) := by
  obtain ⟨⟨us, h1, h2⟩, hl⟩ := h
  exact crd_of h1 h2 hl.len
theorem SideA.imp {P P' : Addr → Prop} {ps : List Int} {k a : Nat} {u : V} {H : Hp} (h : SideA P ps k H u a) (i : ∀ b, P b → P' b) : SideA P' ps k H u a := by
  obtain ⟨q, f, rfl, h1, pa, h2, h3, h4⟩ := h
  exact ⟨q, f, rfl, h1, pa, h2, h3, i _ h4⟩
/-- Start's node -/
def staN (ps : List Int) (k : Nat) : Nd := if k = 1 ∨ ps = [] then .tol ps else .sta ps k
def sp_Start_node (K : PySem.W.Frag) (mg : Str → Option Value) : Sp := fun vs H Q _ => match vs with | [.ref x, .ref c] => ∃ (P : Addr → Prop) (k : Nat) (ps : List Int), NL P H ∧ StaA mg x k H ∧ 1 ≤ k ∧ k ≤ 100 ∧ Crd K H c ps ∧ Tabs (tabsL K mg) H ∧ NodeQ K mg P (staN ps k) H Q | _ => False
theorem q_Start_node {H : Hp} {Q : VK} {E : XK} {x : Addr} {c : Addr} (q : ∃ (P : Addr → Prop) (k : Nat) (ps : List Int), NL P H ∧ StaA mg x k H ∧ 1 ≤ k ∧ k ≤ 100 ∧ Crd K H c ps ∧ Tabs (tabsL K mg) H ∧ NodeQ K mg P (staN ps k) H Q) : sp_Start_node K mg [.ref x, .ref c] H Q E := q
local macro_rules | `(tactic| walk_at "op") => `(tactic| with_reducible refine q_Start_node ?_)
theorem c_Start_node (T : Txt K mg base) : Met P w K mg base 3 (cA mg "Start") "node" (sp_Start_node K mg) := by
  refine MethAt.met T.k_Start T.d_Start_node (k := 2) sc_Start_node (by intro vs H Q E h; unfold sp_Start_node at h; split at h <;> first | rfl | exact h.elim) fun f cdv A outer s H vs Q E hr h => ?_
  refine ⟨_, (pss_cons (ps_set (i := 2) sc_Start_node.nd rfl (.inr rfl) (pe_c (c_places_of T) hr (by decide) (by rfl) (pa_cons (pv 1) pa_nil)))
    (pss_cons (ps_if (PW.pt (pw_or (pt_cmpR (op_eqA hr) (pe_fld (pv 0) rfl) pe_int (nomark _)) (pw_or1 (pt_cmpR (op_eqA hr) (pv 2) (pe_lst pa_nil) (nomark _)))))
    (pss_one (ps_ret (pe_mk (m_Told T) hr (by decide) (by rfl) (pa_cons (pv 2) pa_nil))))
    pss_nil)
    (pss_one (ps_ret (pe_mk (m_Die T) hr (by decide) (by rfl) (pa_cons (pe_lc (own := [("at", 3)]) (g := (gName 3)) (tt := tYes) (te := (tCall (sp_start_part K mg) [] E0 (tCons (tVar 2) (tCons (tFld K (tVar 0) "step") (tCons (tVar 3) tNil))))) rfl sc_Start_node.nd (pi_range1 (by rfl) T.n_range (pa_cons (pe_fld (pv 0) rfl) pa_nil)) (blkOk_by (N := ["self", "crowd", "places", "at"]) (sc := defScope s_Start_node) (by decide +kernel)) (fun _ _ _ _ _ => by exact (pg_name (i := 3) sc_Start_node.nd rfl (.inl rfl))) (fun _ _ _ _ _ => pts_nil) (fun _ _ _ _ _ => by exact (pe_c (c_start_part T) hr (by decide) (by rfl) (pa_cons (pv 2) (pa_cons (pe_fld (pv 0) rfl) (pa_cons (pv 3) pa_nil)))))) pa_nil)))))), ?_⟩
  try simp only [cxOf_K, cxOf_K', cxOf_mg, cxOf_mg']
  unfold sp_Start_node at h
  split at h
  case h_2 => exact h.elim
  rename_i x c
  rw [show L2.start ["self", "crowd", "places", "at"] [V.ref x, V.ref c] = [some (V.ref x), some (V.ref c), none, none] from rfl]
  obtain ⟨P, k, ps, hn, ⟨dx, hx⟩, k1, k100, hc, hT, q⟩ := h
  have hl := hc.len
  walk_at "sts"
  refine ⟨ps, hc, fun p1 H1 hp1 s1 e1 => ?_⟩
  walk_at "sts"
  refine L_fldv (s1 _ _ hx) T.k_Start T.na_Start_step rfl ?_
  walk_at "sts"
  have tolc : k = 1 ∨ ps = [] → ∀ H2, Same H1 H2 → sp_Told___init__ K mg = sp_Told___init__ K mg := fun _ _ _ => rfl
  clear tolc
  have fin : ∀ H2, Same H1 H2 → k = 1 ∨ ps = [] → MakeP (cA mg "Told") (sp_Told___init__ K mg) E0 [.ref p1] H2 Q := fun H2 s2 hs x dx nx nd ne => by
    have s3 := same_made (C := cA mg "Told") nx nd ne
    refine ⟨dx, ps, upd_same, .of (s3 _ _ (s2 _ _ e1)), by omega, fun p H' keep hx' hp' => ⟨rfl, ?_⟩⟩
    have s4 : Same H2 H' := fun b o hb => keep b o (s3 _ _ hb) (ne_of_none hb nx)
    refine q _ _ (.same (s1.trans (s2.trans s4))) ?_
    rw [show staN ps k = .tol ps from if_pos hs]
    exact ⟨x, dx, p, rfl, hx', hp'⟩
  refine L_d (fun c1 => ?_) (fun c1 => ?_)
  · walk_at "sts"
    exact fin _ (.refl _) (.inl (by omega))
  walk_at "sts"
  walk_at "nw"
  rename_i p2 hp2 H2 s2 e2
  walk_at "sts"
  refine L_eqD (d := .list (ps.map .int)) (e := .list []) (.lst (.of (s2 _ _ e1)) (dp_ints _)) (.lst (.of e2) .nil) (shp_ints (n := 0)).ok (shp_lst (n := 0) shp_nil).ok ?_
  rw [eqv_nil, List.isEmpty_map]
  refine ⟨ps.isEmpty, rfl, ?_⟩
  refine L_b (fun c2 => ?_) (fun c2 => ?_)
  · walk_at "sts"
    exact fin _ s2 (.inr (List.isEmpty_iff.mp c2))
  have hne : ps ≠ [] := fun z => by rw [z] at c2; cases c2
  walk_at "sts"
  refine L_fldv (s2 _ _ (s1 _ _ hx)) T.k_Start T.na_Start_step rfl ?_
  walk_at "sts"
  refine L_r1 (by omega) (by omega) ?_
  have ev02 : Ev (tabsL K mg) H H2 := .same (s1.trans s2)
  refine lc_ev2 (T := tabsL K mg) (fun H3 v a => SideA (· = p1) ps k H3 v a) (fun H H' v w e h => SideA.ev h e) (fun H3 D us us' v w nD e h => ?_) walk_range (List.range k) (by rw [List.length_range]; omega) (by omega) (fun H' e => True.intro) ?_ ?_
  · obtain ⟨q, f, rfl, h1, h2⟩ := h
    exact ⟨q, f, rfl, upd_keep e h1 (fun _ z => nomatch z), h2.mu e fun z => (by rw [z, s2 _ _ e1] at nD; cases nD)⟩
  · rintro j x1 Ha Hb R R' hj ev ⟨rfl, rfl⟩ q1
    walk_at "sts"
    refine ⟨rfl, ?_⟩
    walk_at "sts"
    refine L_fldv (ev.ins (s2 _ _ (s1 _ _ hx))) T.k_Start T.na_Start_step rfl ?_
    walk_at "sts"
    refine ⟨(· = p1), ps, k, j, rfl, by omega, ev.lst (s2 _ _ e1), rfl, ev.tb (ev02.tb hT), fun q f H3 ev3 e3 L => ?_⟩
    exact q1 _ j _ (by rw [List.getElem?_range (by omega)]) ev3 ⟨q, f, rfl, e3, L⟩
  intro p4 H4 vs hp4 ev4 e4 hV
  walk_at "sts"
  refine fun y dy ny nd ne => ?_
  have s5 := same_made (C := cA mg "Die") ny nd ne
  refine ⟨dy, vs, upd_same, .of (s5 _ _ e4), fun p H6 keep hx6 hp6 => ⟨rfl, ?_⟩⟩
  have s46 : Same H4 H6 := fun b o hb => keep b o (s5 _ _ hb) (ne_of_none hb ny)
  have ev46 : Ev (tabsL K mg) H4 H6 := .same s46
  refine q _ _ (ev02.trans (ev4.trans ev46)) ?_
  rw [show staN ps k = .sta ps k from if_neg fun z => z.elim (fun z => c1 (by omega)) hne]
  exact ⟨k100, hl, y, dy, p, vs, rfl, hx6, hp6, paired_imp2 (fun _ _ h => SideA.imp (SideA.ev h ev46) fun a z => by rw [z]; exact hn.new hp1) hV⟩
/-- the share in which two are drawn together by steps -/
def chS (k _e i j : Int) : Int × Int := if (i - j) % k = 0 then (1, k) else (0, 1)
def matS (k : Int) (n : Nat) : List (List (Int × Int)) := (List.range n).map fun i : Nat => (List.range n).map fun j : Nat => chS k n i j
def sp_Start___init__ (K : PySem.W.Frag) (mg : Str → Option Value) : Sp := fun vs H Q E => match vs with | [.ref x, v] => Ini K mg (cA mg "Start") "step" 1 100 x v H Q E | _ => False
theorem q_Start___init__ {H : Hp} {Q : VK} {E : XK} {x : Addr} {v : V} (q : Ini K mg (cA mg "Start") "step" 1 100 x v H Q E) : sp_Start___init__ K mg [.ref x, v] H Q E := q
local macro_rules | `(tactic| walk_at "op") => `(tactic| with_reducible refine q_Start___init__ ?_)
theorem m_Start (T : Txt K mg base) : MakX P w K mg base 3 "Start" (cA mg "Start") (sp_Start___init__ K mg) := by
  refine InitAt.makX T.m_Start T.i_Start (k := 2) sc_Start___init__ (by intro vs H Q E h; unfold sp_Start___init__ at h; split at h <;> first | rfl | exact h.elim) fun f cdv A outer s H vs Q E hr h => ?_
  refine ⟨_, (pss_cons (ps_if (pt_not (pt_val (pe_c (c_is_whole T) hr (by decide) (by rfl) (pa_cons (pv 1) (pa_cons pe_int (pa_cons (pe_gc (by rfl) T.g_MOST_STEP) pa_nil))))))
    (pss_one (ps_raise rfl (takes_of rfl rfl rfl rfl) (pmk_x (x_NoPlan T) T.o_NoPlan hr (by decide) (by rfl) (pa_cons pe_int pa_nil))))
    pss_nil)
    (pss_one (ps_fld (pv 0) (pv 1) rfl))), ?_⟩
  try simp only [cxOf_K, cxOf_K', cxOf_mg, cxOf_mg']
  unfold sp_Start___init__ at h
  split at h
  case h_2 => exact h.elim
  rename_i x v
  rw [show L2.start ["self", "step"] [V.ref x, v] = [some (V.ref x), some (v)] from rfl]
  obtain ⟨dx, hx, ⟨hb, q⟩ | ⟨t, rfl, h1, h2, q⟩⟩ := h
  · walk_at "sts"
    refine q_wholeB hb ?_
    walk_at "sts"
    refine L_mkO ?_
    walk_at "sts"
    exact q_noPlan q
  · walk_at "sts"
    refine L_sFldv hx T.k_Start T.na_Start_step (by decide) ?_
    refine q _ (fun b o hb ne => by rw [upd_ne ne]; exact hb) upd_same
def sp_Start_chance (K : PySem.W.Frag) (mg : Str → Option Value) : Sp := fun vs H Q _ => match vs with | [.ref x, .ref c, .int i, .int j] => ∃ k ps, StaA mg x k H ∧ 1 ≤ k ∧ k ≤ 100 ∧ Crd K H c ps ∧ 0 ≤ i ∧ i < ps.length ∧ 0 ≤ j ∧ j < ps.length ∧ NewT H [.int (chS k ps.length i j).1, .int (chS k ps.length i j).2] Q | _ => False
theorem q_Start_chance {H : Hp} {Q : VK} {E : XK} {x : Addr} {c : Addr} {i : Int} {j : Int} (q : ∃ k ps, StaA mg x k H ∧ 1 ≤ k ∧ k ≤ 100 ∧ Crd K H c ps ∧ 0 ≤ i ∧ i < ps.length ∧ 0 ≤ j ∧ j < ps.length ∧ NewT H [.int (chS k ps.length i j).1, .int (chS k ps.length i j).2] Q) : sp_Start_chance K mg [.ref x, .ref c, .int i, .int j] H Q E := q
local macro_rules | `(tactic| walk_at "op") => `(tactic| with_reducible refine q_Start_chance ?_)
theorem c_Start_chance (T : Txt K mg base) : Met P w K mg base 1 (cA mg "Start") "chance" (sp_Start_chance K mg) := by
  refine MethAt.met T.k_Start T.d_Start_chance (k := 0) sc_Start_chance (by intro vs H Q E h; unfold sp_Start_chance at h; split at h <;> first | rfl | exact h.elim) fun f cdv A outer s H vs Q E hr h => ?_
  refine ⟨_, (pss_cons (ps_if (pt_cmpR (op_eqA hr) (pe_op op_mod (pe_op op_sub (pv 2) (pv 3)) (pe_fld (pv 0) rfl)) pe_int (nomark _))
    (pss_one (ps_ret (pe_tup (pa_cons pe_int (pa_cons (pe_fld (pv 0) rfl) pa_nil)))))
    pss_nil)
    (pss_one (ps_ret (pe_tup (pa_cons pe_int (pa_cons pe_int pa_nil)))))), ?_⟩
  try simp only [cxOf_K, cxOf_K', cxOf_mg, cxOf_mg']
  unfold sp_Start_chance at h
  split at h
  case h_2 => exact h.elim
  rename_i x c i j
  rw [show L2.start ["self", "crowd", "one", "other"] [V.ref x, V.ref c, V.int i, V.int j] = [some (V.ref x), some (V.ref c), some (V.int i), some (V.int j)] from rfl]
  obtain ⟨k, ps, ⟨dx, hx⟩, k0, k1, hc, i0, i1, j0, j1, q⟩ := h
  unfold chS at q
  walk_at "sts"
  refine L_fldv hx T.k_Start T.na_Start_step rfl ?_
  walk_at "sts"
  refine L_I (by omega) ?_
  walk_at "sts"
  refine L_d (fun c => ?_) (fun c => ?_)
  · rw [if_pos c] at q
    walk_at "sts"
    refine L_fldv hx T.k_Start T.na_Start_step rfl ?_
    walk_at "sts"
    walk_at "nw"
    rename_i p1 hp1 H1 s1 e1
    exact q p1 H1 hp1 s1 e1
  · rw [if_neg c] at q
    walk_at "sts"
    walk_at "nw"
    rename_i p1 hp1 H1 s1 e1
    exact q p1 H1 hp1 s1 e1
def sp_Start_matrix (K : PySem.W.Frag) (mg : Str → Option Value) : Sp := fun vs H Q _ => match vs with | [.ref x, .ref c] => ∃ m ps, StaA mg x m H ∧ 1 ≤ m ∧ m ≤ 100 ∧ Crd K H c ps ∧ ∀ p H' os, H p = none → Same H H' → H' p = some (.lst (os.map V.ref)) → RowsN K H H' p os (matS m ps.length) → Q (.ref p) H' | _ => False
theorem q_Start_matrix {H : Hp} {Q : VK} {E : XK} {x : Addr} {c : Addr} (q : ∃ m ps, StaA mg x m H ∧ 1 ≤ m ∧ m ≤ 100 ∧ Crd K H c ps ∧ ∀ p H' os, H p = none → Same H H' → H' p = some (.lst (os.map V.ref)) → RowsN K H H' p os (matS m ps.length) → Q (.ref p) H') : sp_Start_matrix K mg [.ref x, .ref c] H Q E := q
local macro_rules | `(tactic| walk_at "op") => `(tactic| with_reducible refine q_Start_matrix ?_)
theorem c_Start_matrix (T : Txt K mg base) : Met P w K mg base 2 (cA mg "Start") "matrix" (sp_Start_matrix K mg) := by
  refine MethAt.met T.k_Start T.d_Start_matrix (k := 1) sc_Start_matrix (by intro vs H Q E h; unfold sp_Start_matrix at h; split at h <;> first | rfl | exact h.elim) fun f cdv A outer s H vs Q E hr h => ?_
  refine ⟨_, (pss_one (ps_ret (pe_lc (own := [("one", 2)]) (g := (gName 2)) (tt := tYes) (te := (tLc (iRng1 (tCons (tCB (aLen K) (tCons (tVar 1) tNil)) tNil)) (gName 3) tYes (tMeth (cA mg "Start") "chance" (sp_Start_chance K mg) [] E0 (tVar 0) (tCons (tVar 1) (tCons (tVar 2) (tCons (tVar 3) tNil)))) [3])) rfl sc_Start_matrix.nd (pi_range1 (by rfl) T.n_range (pa_cons (pe_callB call_lenA (by rfl) T.n_len (by decide +kernel) (pa_cons (pv 1) pa_nil)) pa_nil)) (blkOk_by (N := ["self", "crowd", "one", "other"]) (sc := defScope s_Start_matrix) (by decide +kernel)) (fun _ _ _ _ _ => by exact (pg_name (i := 2) sc_Start_matrix.nd rfl (.inr rfl))) (fun _ _ _ _ _ => pts_nil) (fun _ _ _ _ _ => by exact (pe_lc (own := [("other", 3)]) (g := (gName 3)) (tt := tYes) (te := (tMeth (cA mg "Start") "chance" (sp_Start_chance K mg) [] E0 (tVar 0) (tCons (tVar 1) (tCons (tVar 2) (tCons (tVar 3) tNil))))) rfl sc_Start_matrix.nd (pi_range1 (by rfl) T.n_range (pa_cons (pe_callB call_lenA (by rfl) T.n_len (by decide +kernel) (pa_cons (pv 1) pa_nil)) pa_nil)) (blkOk_by (by rfl)) (fun _ _ _ _ _ => by exact (pg_name (i := 3) sc_Start_matrix.nd rfl (.inl rfl))) (fun _ _ _ _ _ => pts_nil) (fun _ _ _ _ _ => by exact (pe_mt (c_Start_chance T) hr (by decide) (pv 0) (pa_cons (pv 1) (pa_cons (pv 2) (pa_cons (pv 3) pa_nil)))))))))), ?_⟩
  try simp only [cxOf_K, cxOf_K', cxOf_mg, cxOf_mg']
  unfold sp_Start_matrix at h
  split at h
  case h_2 => exact h.elim
  rename_i x c
  rw [show L2.start ["self", "crowd", "one", "other"] [V.ref x, V.ref c] = [some (V.ref x), some (V.ref c), none, none] from rfl]
  obtain ⟨m, ps, hx, m0, m1, hc, q⟩ := h
  have hc' := hc
  obtain ⟨⟨us, hS, hP⟩, hl⟩ := hc'
  have hul := Paired.length hP
  walk_at "sts"
  refine L_lenL hS ?_
  walk_at "sts"
  rw [hul]
  refine L_r1 (by omega) (by omega) ?_
  refine lc_rows (K := K) walk_range (fun i => (List.range ps.length).map fun j : Nat => chS m ps.length i j) (by omega) (fun _ _ => True.intro) ?_ ?_
  · rintro i x1 H2 H2' R R' hi s2 ⟨rfl, rfl⟩ r1
    walk_at "sts"
    refine ⟨rfl, ?_⟩
    walk_at "sts"
    refine L_lenL (s2.seq hS) ?_
    walk_at "sts"
    rw [hul]
    refine L_r1 (by omega) (by omega) ?_
    refine lc_ob (Q2 K) (fun _ _ _ _ s h => Q2.same h s) (fun H D us us' v a e h => Q2.mu h e) walk_range (fun j => some (chS m ps.length i j)) (by omega) (fun _ _ => True.intro) ?_ ?_
    · rintro j x2 H3 H3' R1 R1' hj s3 ⟨rfl, rfl⟩ q1 q2
      walk_at "sts"
      refine ⟨rfl, ?_⟩
      walk_at "sts"
      have s23 := s2.trans s3
      obtain ⟨dx, hdx⟩ := hx
      refine L_methv (s23 _ _ hdx) rfl ?_
      walk_at "sts"
      refine ⟨m, ps, ⟨dx, s23 _ _ hdx⟩, m0, m1, hc.ev (Ev.same (T := []) s23), by omega, by omega, by omega, by omega, fun p6 H6 hp6 s6 e6 => ?_⟩
      rw [Int.zero_add, Int.zero_add] at e6
      exact q1 _ (chS m ps.length i j) _ rfl s6 ⟨p6, rfl, .of e6⟩
    intro p4 H4 vs4 hp4 s4 e4 h4
    rw [show (((ps.length : Int)).toNat) = ps.length from by omega, fm_some] at h4
    exact r1 p4 vs4 H4 s4 hp4 e4 h4
  intro p H' os hp s e d
  walk_at "sts"
  refine q p H' os hp s e ?_
  rw [show (((ps.length : Int)).toNat) = ps.length from by omega] at d
  exact d
def sp_Start_bounds (K : PySem.W.Frag) (mg : Str → Option Value) : Sp := fun vs H Q _ => match vs with | [.ref x, .ref c] => ∃ k ps, StaA mg x k H ∧ 1 ≤ k ∧ k ≤ 100 ∧ Crd K H c ps ∧ NewT H [.int ((ps.length : Int) / k), .int (((ps.length : Int) + k - 1) / k)] Q | _ => False
theorem q_Start_bounds {H : Hp} {Q : VK} {E : XK} {x : Addr} {c : Addr} (q : ∃ k ps, StaA mg x k H ∧ 1 ≤ k ∧ k ≤ 100 ∧ Crd K H c ps ∧ NewT H [.int ((ps.length : Int) / k), .int (((ps.length : Int) + k - 1) / k)] Q) : sp_Start_bounds K mg [.ref x, .ref c] H Q E := q
local macro_rules | `(tactic| walk_at "op") => `(tactic| with_reducible refine q_Start_bounds ?_)
theorem c_Start_bounds (T : Txt K mg base) : Met P w K mg base 1 (cA mg "Start") "bounds" (sp_Start_bounds K mg) := by
  refine MethAt.met T.k_Start T.d_Start_bounds (k := 0) sc_Start_bounds (by intro vs H Q E h; unfold sp_Start_bounds at h; split at h <;> first | rfl | exact h.elim) fun f cdv A outer s H vs Q E hr h => ?_
  refine ⟨_, (pss_one (ps_ret (pe_tup (pa_cons (pe_op op_fdivW (pe_callB call_lenA (by rfl) T.n_len (by decide +kernel) (pa_cons (pv 1) pa_nil)) (pe_fld (pv 0) rfl)) (pa_cons (pe_op op_fdivW (pe_op op_sub (pe_op op_addA (pe_callB call_lenA (by rfl) T.n_len (by decide +kernel) (pa_cons (pv 1) pa_nil)) (pe_fld (pv 0) rfl)) pe_int) (pe_fld (pv 0) rfl)) pa_nil))))), ?_⟩
  try simp only [cxOf_K, cxOf_K', cxOf_mg, cxOf_mg']
  unfold sp_Start_bounds at h
  split at h
  case h_2 => exact h.elim
  rename_i x c
  rw [show L2.start ["self", "crowd"] [V.ref x, V.ref c] = [some (V.ref x), some (V.ref c)] from rfl]
  obtain ⟨k, ps, ⟨dx, hx⟩, k0, k1, ⟨⟨us, hS, hP⟩, hl⟩, q⟩ := h
  walk_at "sts"
  refine L_lenL hS ?_
  walk_at "sts"
  refine L_fldv hx T.k_Start T.na_Start_step rfl ?_
  walk_at "sts"
  refine L_I (cdiv_lit (by omega)) ?_
  walk_at "sts"
  refine L_lenL hS ?_
  walk_at "sts"
  refine L_fldv hx T.k_Start T.na_Start_step rfl ?_
  walk_at "sts"
  refine L_fldv hx T.k_Start T.na_Start_step rfl ?_
  walk_at "sts"
  refine L_I (cdiv_lit (by omega)) ?_
  walk_at "sts"
  walk_at "nw"
  rename_i p1 hp1 H1 s1 e1
  rw [Paired.length hP] at e1
  walk_at "sts"
  exact q p1 H1 hp1 s1 e1
def sp_Start_text (K : PySem.W.Frag) (mg : Str → Option Value) : Sp := fun vs H Q _ => match vs with | [.ref x] => ∃ m, StaA mg x m H ∧ 1 ≤ m ∧ m ≤ 100 ∧ Q (.str ("start " ++ (↑(toString m) : Str))) H | _ => False
theorem q_Start_text {H : Hp} {Q : VK} {E : XK} {x : Addr} (q : ∃ m, StaA mg x m H ∧ 1 ≤ m ∧ m ≤ 100 ∧ Q (.str ("start " ++ (↑(toString m) : Str))) H) : sp_Start_text K mg [.ref x] H Q E := q
local macro_rules | `(tactic| walk_at "op") => `(tactic| with_reducible refine q_Start_text ?_)
theorem c_Start_text (T : Txt K mg base) : Met P w K mg base 1 (cA mg "Start") "text" (sp_Start_text K mg) := by
  refine MethAt.met T.k_Start T.d_Start_text (k := 0) sc_Start_text (by intro vs H Q E h; unfold sp_Start_text at h; split at h <;> first | rfl | exact h.elim) fun f cdv A outer s H vs Q E hr h => ?_
  refine ⟨_, (pss_one (ps_ret (pe_op op_addA pe_str (pe_callTy call_str1A (by rfl) T.n_str (by decide +kernel) (pa_cons (pe_fld (pv 0) rfl) pa_nil))))), ?_⟩
  try simp only [cxOf_K, cxOf_K', cxOf_mg, cxOf_mg']
  unfold sp_Start_text at h
  split at h
  case h_2 => exact h.elim
  rename_i x
  rw [show L2.start ["self"] [V.ref x] = [some (V.ref x)] from rfl]
  obtain ⟨m, ⟨dx, hx⟩, m0, m1, q⟩ := h
  walk_at "sts"
  refine L_fldv hx T.k_Start T.na_Start_step rfl ?_
  walk_at "sts"
  refine L_str1 (by omega) ?_
  refine L_addS (txt_short _ (by decide) (by omega) (by omega)) ?_
  walk_at "sts"
  exact q
/-! wished shares -/
abbrev Zs := List (Int × Bool)
def left (Z : Zs) : Int := ((Z.filter (!·.2)).map (·.1)).sum
def hit (m L : Int) (z : Int × Bool) : Bool := !z.2 && decide (L ≤ z.1 * m)
def nxt (m : Int) (Z : Zs) : Zs := Z.map fun z => (z.1, z.2 || hit m (left Z) z)
def cnt (m : Int) (Z : Zs) : Nat := (Z.filter (hit m (left Z))).length
def na (Z : Zs) : Nat := (Z.filter (!·.2)).length
def wl : Nat → Int → Zs → Int × Zs
  | 0, m, Z => (m, Z)
  | k + 1, m, Z => if cnt m Z = 0 then (m, Z) else wl k (m - cnt m Z) (nxt m Z)
def raw (sz : List Int) : Zs := sz.map fun s => (s, false)
def fin (m : Int) (sz : List Int) : Int × Zs := if 0 < m then wl (sz.length + 1) m (raw sz) else (m, raw sz)
def fr (m L : Int) (z : Int × Bool) : Int × Int := if z.2 = true then (1, 1) else low (z.1 * m) L
def wsh (sz : List Int) (m : Int) : List (Int × Int) := if (sz.length : Int) ≤ m then sz.map fun _ => (1, 1) else (fin m sz).2.map (fr (fin m sz).1 (left (fin m sz).2))
theorem hit_f {m L : Int} {z : Int × Bool} (h : hit m L z = true) : z.2 = false := by
  unfold hit at h
  rw [Bool.and_eq_true] at h
  simpa using h.1
theorem cnt_na (m L : Int) : ∀ Z : Zs, (Z.filter (hit m L)).length + ((Z.map fun z => (z.1, z.2 || hit m L z)).filter (!·.2)).length = (Z.filter (!·.2)).length
  | [] => rfl
  | z :: Z => by
    have ih := cnt_na m L Z
    rw [List.map_cons, List.filter_cons, List.filter_cons, List.filter_cons]
    by_cases h : hit m L z = true
    · have h2 := hit_f h
      rw [if_pos h, h, h2]
      simp
      omega
    · have h : hit m L z = false := by simpa using h
      rw [h]
      cases h2 : z.2 <;> simp <;> omega
theorem na_nxt (m : Int) (Z : Zs) : cnt m Z + na (nxt m Z) = na Z := cnt_na m (left Z) Z
theorem sum_ge : ∀ (L m : Int) (W : List Int), (∀ s ∈ W, L ≤ s * m) → (W.length : Int) * L ≤ W.sum * m
  | L, m, [], _ => by simp
  | L, m, s :: W, h => by
    have ih := sum_ge L m W fun x hx => h x (List.mem_cons_of_mem _ hx)
    have h1 := h s (List.mem_cons_self ..)
    rw [List.length_cons, List.sum_cons, Int.add_mul]
    have : ((W.length + 1 : Nat) : Int) * L = W.length * L + L := by rw [Int.natCast_add, Int.add_mul]; simp
    omega
theorem sum_sub (m L : Int) : ∀ Z : Zs, (∀ z ∈ Z, 1 ≤ z.1) → ((Z.filter (hit m L)).map (·.1)).sum ≤ left Z ∧ (na Z : Int) ≤ left Z
  | [], _ => by simp [left, na]
  | z :: Z, h => by
    have ih := sum_sub m L Z fun x hx => h x (List.mem_cons_of_mem _ hx)
    have h1 := h z (List.mem_cons_self ..)
    unfold left na at *
    rw [List.filter_cons, List.filter_cons]
    by_cases c : hit m L z = true
    · have h2 := hit_f c
      rw [if_pos c, if_pos (by rw [h2]; rfl), List.map_cons, List.map_cons, List.sum_cons, List.sum_cons, List.length_cons]
      omega
    · rw [if_neg c]
      split
      · rw [List.map_cons, List.sum_cons, List.length_cons]
        omega
      · exact ih
/-- what stands while some are put aside -/
structure IW (m0 : Int) (sz : List Int) (m : Int) (Z : Zs) : Prop where
  z : Z.map (·.1) = sz
  s : ∀ s ∈ sz, 1 ≤ s ∧ s ≤ 24000000
  n : (na Z : Int) = sz.length - m0 + m
  m : 0 ≤ m
  m0 : m0 < sz.length
theorem IW.one {m0 m : Int} {sz : List Int} {Z : Zs} (w : IW m0 sz m Z) : ∀ z ∈ Z, 1 ≤ z.1 := fun z hz => (w.s z.1 (by rw [← w.z]; exact List.mem_map_of_mem hz)).1
theorem IW.pos {m0 m : Int} {sz : List Int} {Z : Zs} (w : IW m0 sz m Z) : 0 < left Z := by
  have h1 := (sum_sub m (left Z) Z w.one).2
  have := w.n
  have := w.m
  have := w.m0
  omega
theorem IW.nxt {m0 m : Int} {sz : List Int} {Z : Zs} (w : IW m0 sz m Z) : IW m0 sz (m - cnt m Z) (nxt m Z) := by
  have hp := w.pos
  have h1 := (sum_sub m (left Z) Z w.one).1
  have h2 := sum_ge (left Z) m ((Z.filter (hit m (left Z))).map (·.1)) fun s hs => by
    obtain ⟨z, hz, rfl⟩ := List.mem_map.mp hs
    have := (List.mem_filter.mp hz).2
    unfold hit at this
    rw [Bool.and_eq_true] at this
    exact of_decide_eq_true this.2
  rw [List.length_map] at h2
  have h3 : ((Z.filter (hit m (left Z))).map (·.1)).sum * m ≤ m * left Z := by
    rw [Int.mul_comm m]
    exact Int.mul_le_mul_of_nonneg_right h1 w.m
  have h4 : (cnt m Z : Int) ≤ m := Int.le_of_mul_le_mul_right (Int.le_trans h2 h3) hp
  have h5 := na_nxt m Z
  have h6 := w.n
  refine ⟨?_, w.s, by omega, by omega, w.m0⟩
  unfold My.nxt
  rw [List.map_map]
  exact w.z
theorem IW.wl {m0 : Int} {sz : List Int} : ∀ (k : Nat) {m : Int} {Z : Zs}, IW m0 sz m Z → IW m0 sz (wl k m Z).1 (wl k m Z).2
  | 0, _, _, w => w
  | k + 1, m, Z, w => by
    unfold My.wl
    split
    · exact w
    · exact IW.wl k w.nxt
theorem left_lt {m0 m : Int} {sz : List Int} {Z : Zs} (w : IW m0 sz m Z) (h : Z.length ≤ 24) : left Z < 1000000000 := by
  have h3 : ∀ W : Zs, (∀ z ∈ W, z.1 ≤ 24000000) → (∀ z ∈ W, 1 ≤ z.1) → 0 ≤ left W ∧ left W ≤ 24000000 * W.length := fun W => by
    induction W with
    | nil => intro _ _; simp [left]
    | cons z W ih =>
      intro h4 h5
      obtain ⟨i1, i2⟩ := ih (fun y hy => h4 y (List.mem_cons_of_mem _ hy)) fun y hy => h5 y (List.mem_cons_of_mem _ hy)
      have h4 := h4 z (List.mem_cons_self ..)
      have h5 := h5 z (List.mem_cons_self ..)
      unfold left at *
      rw [List.filter_cons, List.length_cons]
      split
      · rw [List.map_cons, List.sum_cons]; omega
      · omega
  have := (h3 Z (fun z hz => (w.s z.1 (by rw [← w.z]; exact List.mem_map_of_mem hz)).2) w.one).2
  omega
theorem raw_na (sz : List Int) : na (raw sz) = sz.length := by
  unfold na raw
  rw [List.filter_map, List.length_map, List.filter_eq_self.mpr (by simp)]
theorem iw_raw {m : Int} {sz : List Int} (h : ∀ s ∈ sz, 1 ≤ s ∧ s ≤ 24000000) (h0 : 0 ≤ m) (h1 : m < sz.length) : IW m sz m (raw sz) :=
  ⟨by unfold raw; rw [List.map_map]; exact (List.map_congr_left (fun _ _ => rfl)).trans (List.map_id _), h, by rw [raw_na]; omega, h0, h1⟩
theorem iw_fin {m : Int} {sz : List Int} (h : ∀ s ∈ sz, 1 ≤ s ∧ s ≤ 24000000) (h0 : 0 ≤ m) (h1 : m < sz.length) : IW m sz (fin m sz).1 (fin m sz).2 := by
  unfold fin
  split
  · exact (iw_raw h h0 h1).wl _
  · exact iw_raw h h0 h1
/-! sums of shares -/
def add (T f : Int × Int) : Int × Int := low (T.1 * f.2 + f.1 * T.2) (T.2 * f.2)
/-- f is s through L -/
def Of (L : Int) (f : Int × Int) (s : Int) : Prop := 1 ≤ f.2 ∧ f.1 * L = s * f.2
theorem add_of {L s S : Int} {T f : Int × Int} (hL : 0 < L) (hT : Of L T S) (hf : Of L f s) : Of L (add T f) (S + s) ∧ gc (add T f).1 (add T f).2 = 1 := by
  obtain ⟨t1, t2⟩ := hT
  obtain ⟨f1, f2⟩ := hf
  have hb : 0 < T.2 * f.2 := Int.mul_pos (by omega) (by omega)
  refine ⟨⟨low_pos hb, ?_⟩, low_gc hb⟩
  have e := low_eq (t := T.1 * f.2 + f.1 * T.2) hb
  have e2 : (T.1 * f.2 + f.1 * T.2) * L = (S + s) * (T.2 * f.2) := by
    calc (T.1 * f.2 + f.1 * T.2) * L = T.1 * L * f.2 + f.1 * L * T.2 := by grind
      _ = S * T.2 * f.2 + s * f.2 * T.2 := by rw [t2, f2]
      _ = (S + s) * (T.2 * f.2) := by grind
  refine Int.eq_of_mul_eq_mul_right (a := T.2 * f.2) (by omega) ?_
  calc (add T f).1 * L * (T.2 * f.2) = (low (T.1 * f.2 + f.1 * T.2) (T.2 * f.2)).1 * (T.2 * f.2) * L := by unfold add; grind
    _ = (T.1 * f.2 + f.1 * T.2) * (add T f).2 * L := by rw [e]; rfl
    _ = (T.1 * f.2 + f.1 * T.2) * L * (add T f).2 := by grind
    _ = (S + s) * (T.2 * f.2) * (add T f).2 := by rw [e2]
    _ = (S + s) * (add T f).2 * (T.2 * f.2) := by grind
/-- a whole number in lowest terms -/
theorem of_whole {L n : Int} {T : Int × Int} (hL : 0 < L) (h : Of L T (n * L)) (g : gc T.1 T.2 = 1) : T = (n, 1) := by
  obtain ⟨h1, h2⟩ := h
  have e : T.1 = n * T.2 := by
    refine Int.eq_of_mul_eq_mul_right (a := L) (by omega) ?_
    rw [h2]; grind
  have e2 : T.2 = 1 := by
    have : T.2 ∣ gc T.1 T.2 := by
      unfold gc
      exact Int.dvd_coe_gcd (by rw [e]; exact Int.dvd_mul_left ..) (Int.dvd_refl _)
    rw [g] at this
    have := Int.le_of_dvd (by decide) this
    omega
  rw [e2, Int.mul_one] at e
  exact Prod.ext e e2
theorem fr_of {m L : Int} (hL : 0 < L) (z : Int × Bool) : Of L (fr m L z) (if z.2 = true then L else z.1 * m) := by
  unfold fr
  split
  · exact ⟨by decide, by simp⟩
  · exact ⟨low_pos hL, low_eq hL⟩
theorem fr_sum (m L : Int) : ∀ Z : Zs, (Z.map fun z => if z.2 = true then L else z.1 * m).sum = ((Z.length : Int) - na Z) * L + left Z * m
  | [] => by simp [left, na]
  | z :: Z => by
    have ih := fr_sum m L Z
    unfold left na at *
    rw [List.map_cons, List.sum_cons, ih, List.filter_cons, List.length_cons]
    cases h : z.2 with
    | true =>
      simp only [Bool.not_true, Bool.false_eq_true, if_false, if_true]
      rw [Int.natCast_add]
      grind
    | false =>
      simp only [Bool.not_false, Bool.false_eq_true, if_false, if_true]
      rw [List.map_cons, List.sum_cons, List.length_cons, Int.natCast_add, Int.natCast_add]
      grind
theorem fold_of {L : Int} (hL : 0 < L) : ∀ (fs : List (Int × Int)) (ss : List Int) (T : Int × Int) (S : Int), Paired (Of L) fs ss → Of L T S → gc T.1 T.2 = 1 → Of L (fs.foldl add T) (S + ss.sum) ∧ gc (fs.foldl add T).1 (fs.foldl add T).2 = 1
  | [], _, T, S, h, hT, g => by cases h; exact ⟨by simpa using hT, g⟩
  | f :: fs, _, T, S, h, hT, g => by
    cases h with
    | cons h1 h2 =>
      obtain ⟨a, b⟩ := add_of hL hT h1
      have := fold_of hL fs _ _ _ h2 a b
      rw [Int.add_assoc, ← List.sum_cons] at this
      exact this
theorem paired_map {α β γ : Type} {F : β → γ → Prop} {f : α → β} {g : α → γ} (h : ∀ a, F (f a) (g a)) : ∀ l : List α, Paired F (l.map f) (l.map g)
  | [] => .nil
  | a :: l => .cons (h a) (paired_map h l)
/-- together the number, or how many there are -/
theorem wsh_sum {m : Int} {sz : List Int} (h : ∀ s ∈ sz, 1 ≤ s ∧ s ≤ 24000000) (h0 : 0 ≤ m) : (wsh sz m).foldl add (0, 1) = (min m sz.length, 1) := by
  unfold wsh
  split
  · rename_i hc
    have p := paired_map (F := Of 1) (f := fun _ : Int => ((1, 1) : Int × Int)) (g := fun _ : Int => (1 : Int)) (fun _ => ⟨by decide, rfl⟩) sz
    obtain ⟨a, b⟩ := fold_of (by decide) _ _ (0, 1) 0 p ⟨by decide, rfl⟩ (by decide)
    have e : (sz.map fun _ => (1 : Int)).sum = sz.length := by
      clear a b p hc h h0
      induction sz with
      | nil => rfl
      | cons s sz ih => rw [List.map_cons, List.sum_cons, ih, List.length_cons]; omega
    rw [e, Int.zero_add] at a
    rw [Int.min_eq_right hc]
    exact of_whole (L := 1) (by decide) (by rw [Int.mul_one]; exact a) b
  · rename_i hc
    have w := iw_fin h h0 (by omega)
    generalize fin m sz = F at w
    have p := paired_map (F := Of (left F.2)) (f := fr F.1 (left F.2)) (g := fun z => if z.2 = true then left F.2 else z.1 * F.1) (fun z => fr_of w.pos z) F.2
    obtain ⟨a, b⟩ := fold_of w.pos _ _ (0, 1) 0 p ⟨by decide, by simp⟩ (by decide)
    rw [fr_sum, Int.zero_add] at a
    have hl : F.2.length = sz.length := by rw [← w.z, List.length_map]
    rw [Int.min_eq_left (by omega)]
    refine of_whole w.pos ?_ b
    have e : ((F.2.length : Int) - na F.2) * left F.2 + left F.2 * F.1 = m * left F.2 := by
      rw [w.n, hl]
      grind
    rw [← e]
    exact a
/-- the dict of those put aside -/
def Flags (kvs : List (Key × V)) (Z : Zs) : Prop := ∀ (i : Nat) (z : Int × Bool), Z[i]? = some z → (valV kvs (Sum.inl (i : Int))).isSome = z.2
def sp_size_left (K : PySem.W.Frag) (mg : Str → Option Value) : Sp := fun vs H Q _ => match vs with | [.ref a, .ref d] => ∃ (Z : Zs) (kvs : List (Key × V)), SqL K H a ((Z.map (·.1)).map V.int) ∧ H d = some (.dK kvs) ∧ Flags kvs Z ∧ Z.length ≤ 24 ∧ ∀ H', Same H H' → Q (.int (left Z)) H' | _ => False
theorem q_size_left {H : Hp} {Q : VK} {E : XK} {a : Addr} {d : Addr} (q : ∃ (Z : Zs) (kvs : List (Key × V)), SqL K H a ((Z.map (·.1)).map V.int) ∧ H d = some (.dK kvs) ∧ Flags kvs Z ∧ Z.length ≤ 24 ∧ ∀ H', Same H H' → Q (.int (left Z)) H') : sp_size_left K mg [.ref a, .ref d] H Q E := q
local macro_rules | `(tactic| walk_at "op") => `(tactic| with_reducible refine q_size_left ?_)
theorem c_size_left (T : Txt K mg base) : Cal P w K mg base 1 "size_left" (sp_size_left K mg) := by
  refine T.d_size_left.cal (k := 0) sc_size_left (by intro vs H Q E h; unfold sp_size_left at h; split at h <;> first | rfl | exact h.elim) fun f cdv A outer s H vs Q E hr h => ?_
  refine ⟨_, (pss_one (ps_ret (pe_callB (cr_sum rfl) (by rfl) T.n_sum (by decide +kernel) (pa_cons (pe_lc (own := [("at", 2), ("size", 3)]) (g := (gTup K 2 (gCons (gName 2) (gCons (gName 3) gNil)))) (tt := (tB (tDNotIn (tVar 2) (tVar 1)))) (te := (tVar 3)) rfl sc_size_left.nd (pi_enum (by rfl) T.n_enumerate (pa_cons (pv 0) pa_nil)) (blkOk_by (N := ["sizes", "aside", "at", "size"]) (sc := defScope s_size_left) (by decide +kernel)) (fun _ _ _ _ _ => by exact (pg_tup rfl (pgs_cons (pg_name (i := 2) sc_size_left.nd rfl (.inl rfl)) (pgs_cons (pg_name (i := 3) sc_size_left.nd rfl (.inl rfl)) pgs_nil)))) (fun _ _ _ _ _ => by exact pts_one (pt_cmp (pc_dnotin (hu_of hr) (pv 2) (pv 1)) (by rfl))) (fun _ _ _ _ _ => by exact (pv 3))) pa_nil)))), ?_⟩
  try simp only [cxOf_K, cxOf_K', cxOf_mg, cxOf_mg']
  unfold sp_size_left at h
  split at h
  case h_2 => exact h.elim
  rename_i a d
  rw [show L2.start ["sizes", "aside", "at", "size"] [V.ref a, V.ref d] = [some (V.ref a), some (V.ref d), none, none] from rfl]
  obtain ⟨Z, kvs, hL, hd, hf, hl, q⟩ := h
  walk_at "sts"
  refine L_re hL ?_
  refine lc_fm walk_enum (fun i => (Z[i]?).bind fun z => if (!z.2) = true then some (V.int z.1) else none) (by rw [List.length_map, List.length_map]; omega) (fun H' e => e.seq hL) ?_ ?_
  · rintro i x1 H2 H' R R' hi sm ⟨T1, k0, t0, rfl, hT, rfl, hk, ht⟩ r1 r2
    cases hk
    replace ht : ((Z.map (·.1)).map V.int)[i]? = some t0 := ht
    rw [List.getElem?_map, List.getElem?_map, Option.map_map] at ht
    obtain ⟨z, hz, he⟩ := Option.map_eq_some_iff.mp ht
    obtain rfl : t0 = V.int z.1 := he.symm
    refine L_gTup (.of upd_same) rfl ?_
    have s2 := same_upd (o := HO.tup [V.int (i : Int), V.int z.1]) sm hT
    walk_at "sts"
    refine ⟨rfl, ?_⟩
    walk_at "sts"
    refine L_dinv (k := .inl (i : Int)) (R := fun o => ∃ k, V.bl (!o.isSome) = V.bl k ∧ _) rfl (s2 _ _ hd) ?_
    rw [hf i z hz]
    walk_at "sts"
    refine L_b (fun c => ?_) (fun c => ?_)
    · walk_at "sts"
      exact r1 _ _ (by rw [hz, Option.bind_some, if_pos c]) (same_new hT)
    · exact r2 _ (by rw [hz, Option.bind_some, if_neg (by rw [c]; exact Bool.false_ne_true)]) (same_new hT)
  · intro p H' hp s e
    rw [show ((Z.map (·.1)).map V.int).length = Z.length by rw [List.length_map, List.length_map], fm_flt] at e
    walk_at "sts"
    refine L_sum (ns := (Z.filter (!·.2)).map (·.1)) (.of (by rw [e, List.map_map]; rfl)) ?_
    exact q _ s
def pos (m : Int) (Z : Zs) : List Int := (List.range Z.length).filterMap fun (i : Nat) => (Z[i]?).bind fun z => if hit m (left Z) z = true then some (i : Int) else none
theorem fm_pos {α : Type} (c : α → Bool) : ∀ (l : List α) (n : Nat), ((List.range l.length).filterMap fun (i : Nat) => (l[i]?).bind fun x => if c x = true then some (((i + n : Nat)) : Int) else none).length = (l.filter c).length
  | [], _ => rfl
  | a :: l, n => by
    have ih := fm_pos c l (n + 1)
    rw [List.length_cons, List.range_succ_eq_map, List.filterMap_cons, List.filterMap_map]
    have e : ((fun i => ((a :: l)[i]?).bind fun x => if c x = true then some (((i + n : Nat)) : Int) else none) ∘ Nat.succ) = fun i => (l[i]?).bind fun x => if c x = true then some (((i + (n + 1) : Nat)) : Int) else none := by
      funext i
      simp only [Function.comp_def, Nat.succ_eq_add_one, List.getElem?_cons_succ]
      rw [show i + 1 + n = i + (n + 1) by omega]
    rw [e]
    cases h : c a
    · rw [List.filter_cons_of_neg (by simp [h])]
      simp only [List.getElem?_cons_zero, Option.bind_some, h, Bool.false_eq_true, if_false]
      exact ih
    · rw [List.filter_cons_of_pos h]
      simp only [List.getElem?_cons_zero, Option.bind_some, h, if_true, List.length_cons, ih]
theorem pos_len (m : Int) (Z : Zs) : (pos m Z).length = cnt m Z := fm_pos (hit m (left Z)) Z 0
theorem pos_mem {m : Int} {Z : Zs} {i : Nat} {z : Int × Bool} (h : Z[i]? = some z) : (i : Int) ∈ pos m Z ↔ hit m (left Z) z = true := by
  unfold pos
  rw [List.mem_filterMap]
  constructor
  · rintro ⟨j, hj, e⟩
    cases hz : Z[j]? with
    | none => rw [hz] at e; cases e
    | some y =>
      rw [hz, Option.bind_some] at e
      split at e
      · rename_i hh
        have : (j : Int) = (i : Int) := Option.some.inj e
        have hji : j = i := by omega
        rw [hji, h] at hz
        cases hz
        exact hh
      · cases e
  · intro hh
    exact ⟨i, List.mem_range.mpr (List.getElem?_eq_some_iff.mp h).1, by rw [h, Option.bind_some, if_pos hh]⟩
theorem pos_in {m : Int} {Z : Zs} {j : Int} (h : j ∈ pos m Z) : ∃ (i : Nat) (z : Int × Bool), j = (i : Int) ∧ Z[i]? = some z := by
  unfold pos at h
  obtain ⟨i, hi, e⟩ := List.mem_filterMap.mp h
  have hi := List.mem_range.mp hi
  refine ⟨i, Z[i], ?_, List.getElem?_eq_getElem hi⟩
  rw [List.getElem?_eq_getElem hi, Option.bind_some] at e
  split at e
  · exact (Option.some.inj e).symm
  · cases e
theorem nxt_at {m : Int} {Z : Zs} {i : Nat} {y : Int × Bool} (h : (nxt m Z)[i]? = some y) : ∃ z, Z[i]? = some z ∧ y = (z.1, z.2 || hit m (left Z) z) := by
  unfold nxt at h
  rw [List.getElem?_map] at h
  obtain ⟨z, h1, h2⟩ := Option.map_eq_some_iff.mp h
  exact ⟨z, h1, h2.symm⟩
theorem nxt_id {m : Int} {Z : Zs} (h : cnt m Z = 0) : nxt m Z = Z := by
  unfold nxt
  refine (List.map_congr_left fun z hz => ?_).trans (List.map_id _)
  have : hit m (left Z) z = false := by
    cases e : hit m (left Z) z with
    | false => rfl
    | true =>
      have := List.length_pos_of_mem (List.mem_filter.mpr ⟨hz, e⟩)
      unfold cnt at h
      omega
  rw [this, Bool.or_false]
  rfl
theorem shp_ints' {l : List Int} : SeqAt.shaped (.list (l.map .int)) = true := (shp_ints (n := 0)).ok
def sp_wished (K : PySem.W.Frag) (mg : Str → Option Value) : Sp := fun vs H Q _ => match vs with | [.ref a, .int m] => ∃ sz : List Int, SqL K H a (sz.map V.int) ∧ sz.length ≤ 24 ∧ (∀ s ∈ sz, 1 ≤ s ∧ s ≤ 24000000) ∧ 0 ≤ m ∧ m ≤ 24 ∧ ∀ p us H', H p = none → Same H H' → H' p = some (.lst us) → DpAll K (rs (· ≠ p) H') us ((wsh sz m).map d2) → Q (.ref p) H' | _ => False
theorem q_wished {H : Hp} {Q : VK} {E : XK} {a : Addr} {m : Int} (q : ∃ sz : List Int, SqL K H a (sz.map V.int) ∧ sz.length ≤ 24 ∧ (∀ s ∈ sz, 1 ≤ s ∧ s ≤ 24000000) ∧ 0 ≤ m ∧ m ≤ 24 ∧ ∀ p us H', H p = none → Same H H' → H' p = some (.lst us) → DpAll K (rs (· ≠ p) H') us ((wsh sz m).map d2) → Q (.ref p) H') : sp_wished K mg [.ref a, .int m] H Q E := q
local macro_rules | `(tactic| walk_at "op") => `(tactic| with_reducible refine q_wished ?_)
theorem c_wished (T : Txt K mg base) : Cal P w K mg base 3 "wished" (sp_wished K mg) := by
  refine T.d_wished.cal (k := 2) sc_wished (by intro vs H Q E h; unfold sp_wished at h; split at h <;> first | rfl | exact h.elim) fun f cdv A outer s H vs Q E hr h => ?_
  refine ⟨_, (pss_cons (ps_if (pt_cmpR op_ge (pv 1) (pe_callB call_lenA (by rfl) T.n_len (by decide +kernel) (pa_cons (pv 0) pa_nil)) (nomark _))
    (pss_one (ps_ret (pe_lc (own := [("size", 7)]) (g := (gName 7)) (tt := tYes) (te := (tTup (tCons (tC (.int 1)) (tCons (tC (.int 1)) tNil)))) rfl sc_wished.nd (pi_list (pv 0)) (blkOk_by (N := ["sizes", "many", "aside", "more", "total", "at", "found", "size"]) (sc := defScope s_wished) (by decide +kernel)) (fun _ _ _ _ _ => by exact (pg_name (i := 7) sc_wished.nd rfl (.inl rfl))) (fun _ _ _ _ _ => pts_nil) (fun _ _ _ _ _ => by exact (pe_tup (pa_cons pe_int (pa_cons pe_int pa_nil)))))))
    pss_nil)
    (pss_cons (ps_set (i := 2) sc_wished.nd rfl (.inr rfl) pe_dnewK)
    (pss_cons (ps_set (i := 3) sc_wished.nd rfl (.inl rfl) (pe_cmpR op_gt (pv 1) pe_int (nomark _)))
    (pss_cons (ps_while PassesOwn.never (pt_val (pv 3))
    (pss_cons (ps_set (i := 4) sc_wished.nd rfl (.inr rfl) (pe_c (c_size_left T) hr (by decide) (by rfl) (pa_cons (pv 0) (pa_cons (pv 2) pa_nil))))
    (pss_cons (ps_setLc (i := 6) (own := [("at", 5), ("size", 7)]) (g := (gTup K 2 (gCons (gName 5) (gCons (gName 7) gNil)))) (tt := (tAnd (tB (tDNotIn (tVar 5) (tVar 2))) (tTest (tOp (rI0 fun i j => .bl (decide (j ≤ i))) (tOp aMul (tVar 7) (tVar 1)) (tVar 4))))) (te := (tVar 5)) rfl sc_wished.nd rfl rfl (sw_true rfl rfl rfl (by decide +kernel)) (pi_enum (by rfl) T.n_enumerate (pa_cons (pv 0) pa_nil)) (blkOk_by (N := ["sizes", "many", "aside", "more", "total", "at", "found", "size"]) (sc := defScope s_wished) (by decide +kernel)) (fun _ _ _ _ _ => by exact (pg_tup rfl (pgs_cons (pg_name (i := 5) sc_wished.nd rfl (.inl rfl)) (pgs_cons (pg_name (i := 7) sc_wished.nd rfl (.inl rfl)) pgs_nil)))) (fun _ _ _ _ _ => by exact pts_one (PW.pt (pw_and (pt_cmp (pc_dnotin (hu_of hr) (pv 5) (pv 2)) (by rfl)) (pw_and1 (pt_cmpR op_ge (pe_op op_mulA (pv 7) (pv 1)) (pv 4) (nomark _)))))) (fun _ _ _ _ _ => by exact (pv 5)))
    (pss_cons (ps_for PassesOwn.never rfl (pi_list (pv 6)) (pg_name (i := 5) sc_wished.nd rfl (.inl rfl))
    (pss_one (ps_dput (hu_of hr) (pv 2) (pv 5) pe_bl rfl)))
    (pss_cons (ps_set (i := 1) sc_wished.nd rfl (.inr rfl) (pe_op op_sub (pv 1) (pe_callB call_lenA (by rfl) T.n_len (by decide +kernel) (pa_cons (pv 6) pa_nil))))
    (pss_one (ps_set (i := 3) sc_wished.nd rfl (.inl rfl) (pe_cmpR (op_neA hr) (pv 6) (pe_lst pa_nil) (nomark _)))))))))
    (pss_cons (ps_set (i := 4) sc_wished.nd rfl (.inr rfl) (pe_c (c_size_left T) hr (by decide) (by rfl) (pa_cons (pv 0) (pa_cons (pv 2) pa_nil))))
    (pss_one (ps_ret (pe_lc (own := [("at", 5), ("size", 7)]) (g := (gTup K 2 (gCons (gName 5) (gCons (gName 7) gNil)))) (tt := tYes) (te := (tIf (tB (tDIn (tVar 5) (tVar 2))) (tTup (tCons (tC (.int 1)) (tCons (tC (.int 1)) tNil))) (tCall (sp_share K mg) [] E0 (tCons (tOp aMul (tVar 7) (tVar 1)) (tCons (tVar 4) tNil))))) rfl sc_wished.nd (pi_enum (by rfl) T.n_enumerate (pa_cons (pv 0) pa_nil)) (blkOk_by (N := ["sizes", "many", "aside", "more", "total", "at", "found", "size"]) (sc := defScope s_wished) (by decide +kernel)) (fun _ _ _ _ _ => by exact (pg_tup rfl (pgs_cons (pg_name (i := 5) sc_wished.nd rfl (.inl rfl)) (pgs_cons (pg_name (i := 7) sc_wished.nd rfl (.inl rfl)) pgs_nil)))) (fun _ _ _ _ _ => pts_nil) (fun _ _ _ _ _ => by exact (pe_ifExp (pt_cmp (pc_din (hu_of hr) (pv 5) (pv 2)) (by rfl)) (pe_tup (pa_cons pe_int (pa_cons pe_int pa_nil))) (pe_c (c_share T) hr (by decide) (by rfl) (pa_cons (pe_op op_mulA (pv 7) (pv 1)) (pa_cons (pv 4) pa_nil))))))))))))), ?_⟩
  try simp only [cxOf_K, cxOf_K', cxOf_mg, cxOf_mg']
  unfold sp_wished at h
  split at h
  case h_2 => exact h.elim
  rename_i a m
  rw [show L2.start ["sizes", "many", "aside", "more", "total", "at", "found", "size"] [V.ref a, V.int m] = [some (V.ref a), some (V.int m), none, none, none, none, none, none] from rfl]
  obtain ⟨sz, hL, hl, hs, h0, h1, q⟩ := h
  unfold wsh at q
  walk_at "sts"
  refine L_lenL hL ?_
  walk_at "sts"
  rw [List.length_map]
  refine L_d (fun c => ?_) (fun c => ?_)
  · rw [if_pos c] at q
    walk_at "sts"
    refine L_rl hL ?_
    refine lc_dp (K := K) walk_list (fun i => (sz[i]?).map fun _ => d2 (1, 1)) (by rw [List.length_map]; omega) (fun H' e => e.seq hL) ?_ ?_
    · rintro j x2 p0 H3 H3' R1 R2 hj np s3 ⟨o, ho⟩ ⟨e, hx⟩ r1 r2
      subst e
      rw [List.getElem?_map] at hx
      obtain ⟨y, hy, rfl⟩ := Option.map_eq_some_iff.mp hx
      walk_at "sts"
      refine ⟨rfl, ?_⟩
      walk_at "sts"
      walk_at "nw"
      rename_i p6 hp6 H6 s6 e6
      exact r1 _ _ _ (by rw [hy]; rfl) s6 (dp_tupN e6 (ne_new hp6 ⟨_, ho⟩) (.cons (.int _) (.cons (.int _) .nil)))
    · intro p5 H5 vs5 hp5 s5 e5 d5
      rw [List.length_map, fm_get] at d5
      exact q p5 vs5 H5 hp5 s5 e5 (by rw [List.map_map]; exact d5)
  rw [if_neg c] at q
  have w0 := iw_raw hs h0 (by omega)
  have wF := iw_fin hs h0 (show m < sz.length by omega)
  walk_at "sts"
  walk_at "nwp"
  rename_i pd hpd H1 s1 e1
  walk_at "sts"
  refine L_while (fun mm σ' H' => ∃ (k : Nat) (m' : Int) (Z : Zs) (kvs : List (Key × V)) (more : Bool) (v4 v5 v6 v7 : Option V), σ' = [some (.ref a), some (.int m'), some (.ref pd), some (.bl more), v4, v5, v6, v7] ∧ Same H H' ∧ H' pd = some (.dK kvs) ∧ Flags kvs Z ∧ kvs.length + na Z ≤ sz.length ∧ IW m sz m' Z ∧ (if more = true then wl k m' Z = fin m sz ∧ na Z < k else (m', Z) = fin m sz) ∧ mm = (if more = true then k else 0))
    ⟨_, sz.length + 1, m, raw sz, [], _, _, _, _, _, rfl, s1, e1, fun i z hz => ?_, by rw [raw_na]; simp, w0, ?_, rfl⟩ ?_
  · unfold raw at hz
    rw [List.getElem?_map] at hz
    obtain ⟨y, _, rfl⟩ := Option.map_eq_some_iff.mp hz
    rfl
  · unfold fin
    by_cases hm : 0 < m
    · rw [decide_eq_true hm, if_pos rfl, if_pos hm, raw_na]
      exact ⟨rfl, by omega⟩
    · rw [decide_eq_false hm, if_neg Bool.false_ne_true, if_neg hm]
  rintro mm σ' H2 ⟨k, m', Z, kvs, more, v4, v5, v6, v7, rfl, s2, e2, hf, hk, w, hmore, rfl⟩
  have hzl : Z.length = sz.length := by rw [← w.z, List.length_map]
  have hm24 : m' ≤ 24 := by
    have h1 := w.n
    have h2 : na Z ≤ Z.length := List.length_filter_le ..
    omega
  have hL2 : SqL K H2 a ((Z.map (·.1)).map V.int) := by rw [w.z]; exact s2.seq hL
  have hlb : left Z < 1000000000 := left_lt w (by omega)
  have hzb : ∀ z ∈ Z, 1 ≤ z.1 ∧ z.1 ≤ 24000000 := fun z hz => w.s z.1 (by rw [← w.z]; exact List.mem_map_of_mem hz)
  walk_at "sts"
  refine L_b (fun hm => ?_) (fun hm => ?_)
  · subst hm
    rw [if_pos rfl] at hmore
    obtain ⟨hw, hna⟩ := hmore
    obtain ⟨k, rfl⟩ : ∃ k', k = k' + 1 := ⟨k - 1, by omega⟩
    refine ⟨fun σ' H' => ∃ m'', m'' < k + 1 ∧ ∃ (k : Nat) (m' : Int) (Z : Zs) (kvs : List (Key × V)) (more : Bool) (v4 v5 v6 v7 : Option V), σ' = [some (.ref a), some (.int m'), some (.ref pd), some (.bl more), v4, v5, v6, v7] ∧ Same H H' ∧ H' pd = some (.dK kvs) ∧ Flags kvs Z ∧ kvs.length + na Z ≤ sz.length ∧ IW m sz m' Z ∧ (if more = true then wl k m' Z = fin m sz ∧ na Z < k else (m', Z) = fin m sz) ∧ m'' = (if more = true then k else 0), fun _ _ h => h, ?_⟩
    walk_at "sts"
    refine ⟨Z, kvs, hL2, e2, hf, by omega, fun H3 s3 => ?_⟩
    have e3 := s3 _ _ e2
    walk_at "sts"
    refine L_re (s3.seq hL2) ?_
    refine lc_fm walk_enum (fun i => ((Z[i]?).bind fun z => if hit m' (left Z) z = true then some (i : Int) else none).map V.int) (by rw [List.length_map, List.length_map]; omega) (fun H' e => e.seq (s3.seq hL2)) ?_ ?_
    · rintro i x1 H4 H4' R R' hi sm ⟨T1, k0, t0, rfl, hT, rfl, hk, ht⟩ r1 r2
      cases hk
      replace ht : ((Z.map (·.1)).map V.int)[i]? = some t0 := ht
      rw [List.getElem?_map, List.getElem?_map, Option.map_map] at ht
      obtain ⟨z, hz, he⟩ := Option.map_eq_some_iff.mp ht
      obtain rfl : t0 = V.int z.1 := he.symm
      refine L_gTup (.of upd_same) rfl ?_
      have s4 := same_upd (o := HO.tup [V.int (i : Int), V.int z.1]) sm hT
      walk_at "sts"
      refine ⟨rfl, ?_⟩
      walk_at "sts"
      refine L_dinv (k := .inl (i : Int)) (R := fun o => ∃ k, V.bl (!o.isSome) = V.bl k ∧ _) rfl (s4 _ _ e3) ?_
      rw [hf i z hz]
      walk_at "sts"
      have hzb1 := hzb z (List.mem_of_getElem? hz)
      have hm0 := w.m
      have hh : hit m' (left Z) z = (!z.2 && decide (left Z ≤ z.1 * m')) := rfl
      refine L_b (fun c => ?_) (fun c => ?_)
      · rw [c, Bool.true_and] at hh
        walk_at "sts"
        refine L_mulI ((bd_64 (by show _ < z.1 ∧ z.1 < _; omega)).cmul (bd_64 (by omega))) ?_
        walk_at "sts"
        refine L_d (fun c2 => ?_) (fun c2 => ?_)
        · walk_at "sts"
          rw [decide_eq_true (show left Z ≤ z.1 * m' from c2)] at hh
          exact r1 _ _ (by rw [hz, Option.bind_some, if_pos hh]; rfl) (same_new hT)
        · rw [decide_eq_false (show ¬ left Z ≤ z.1 * m' from c2)] at hh
          exact r2 _ (by rw [hz, Option.bind_some, if_neg (by rw [hh]; exact Bool.false_ne_true)]; rfl) (same_new hT)
      · rw [c, Bool.false_and] at hh
        walk_at "sts"
        exact r2 _ (by rw [hz, Option.bind_some, if_neg (by rw [hh]; exact Bool.false_ne_true)]; rfl) (same_new hT)
    intro p4 H4 hp4 s4 e4
    rw [show ((Z.map (·.1)).map V.int).length = Z.length by rw [List.length_map, List.length_map], ← List.map_filterMap] at e4
    have e4 : H4 p4 = some (.lst ((pos m' Z).map V.int)) := e4
    have hpl := pos_len m' Z
    have hcl : cnt m' Z ≤ Z.length := List.length_filter_le ..
    have s24 := s3.trans s4
    have e24 := s4 _ _ e3
    walk_at "sts"
    refine L_rl (.of e4) ?_
    refine f_it walk_list (fun j σ' H' => ∃ (kvs' : List (Key × V)) (v5 : Option V), σ' = [some (.ref a), some (.int m'), some (.ref pd), some (.bl true), some (.int (left Z)), v5, some (.ref p4), v7] ∧ Same H H' ∧ H' p4 = some (.lst ((pos m' Z).map V.int)) ∧ H' pd = some (.dK kvs') ∧ kvs'.length ≤ kvs.length + j ∧ ∀ (i : Nat) (z : Int × Bool), Z[i]? = some z → (valV kvs' (Sum.inl (i : Int))).isSome = (z.2 || decide ((i : Int) ∈ (pos m' Z).take j))) ⟨kvs, _, rfl, s2.trans s24, e4, e24, by omega, fun i z hz => by rw [hf i z hz]; simp⟩ (fun _ _ _ _ ⟨_, _, _, _, e, _⟩ => .of e) ?_ ?_
    · rintro j x σ' H5 H5' hj ⟨kvs', v5, rfl, s5, e45, e5, hkl, hfl⟩ ⟨e, hx⟩
      subst e
      rw [List.getElem?_map] at hx
      obtain ⟨y, hy, rfl⟩ := Option.map_eq_some_iff.mp hx
      obtain ⟨i0, z0, rfl, hz0⟩ := pos_in (List.mem_of_getElem? hy)
      rw [List.length_map, hpl] at hj
      walk_at "sts"
      refine L_dputv (k := .inl (i0 : Int)) rfl e5 (by omega) ?_
      have hne : p4 ≠ pd := fun z => by rw [z, e5] at e45; cases e45
      refine ⟨putK kvs' (.inl (i0 : Int)) (.bl true), _, rfl, same_mut s5 hpd, by rw [upd_ne hne]; exact e45, upd_same, by have := putK_len (kvs := kvs') (k := .inl (i0 : Int)) (v := .bl true); omega, fun i z hz => ?_⟩
      rw [L2.valV_put, List.take_add_one, hy, Option.toList_some]
      by_cases he : i0 = i
      · subst he
        rw [if_pos rfl, decide_eq_true (List.mem_append_right _ (List.mem_singleton.mpr rfl)), Bool.or_true]
        rfl
      · rw [if_neg (fun e => he (by injection e with e; omega)), hfl i z hz]
        congr 1
        refine decide_eq_decide.mpr ⟨fun h => List.mem_append_left _ h, fun h => ?_⟩
        rcases List.mem_append.mp h with h | h
        · exact h
        · have := List.mem_singleton.mp h
          omega
    · rintro σ' H5 ⟨kvs', v5, rfl, s5, e45, e5, hkl, hfl⟩
      rw [List.length_map, hpl] at hkl
      rw [List.length_map, List.take_length] at hfl
      walk_at "sts"
      refine L_lenL (.of e45) ?_
      walk_at "sts"
      rw [List.length_map, hpl]
      walk_at "sts"
      walk_at "nw"
      rename_i p6 hp6 H6 s6 e6
      refine L_neD (d := .list ((pos m' Z).map .int)) (e := .list []) (.lst (.of (s6 _ _ e45)) (dp_ints _)) (.lst (.of e6) .nil) shp_ints' (shp_lst (n := 0) shp_nil).ok ?_
      rw [eqv_nil, List.isEmpty_map]
      walk_at "sts"
      have hfn : Flags kvs' (nxt m' Z) := fun i y hy => by
        obtain ⟨z, hz, rfl⟩ := nxt_at hy
        rw [hfl i z hz]
        congr 1
        cases hh : hit m' (left Z) z with
        | true => exact decide_eq_true ((pos_mem hz).mpr hh)
        | false => exact decide_eq_false fun z' => by rw [(pos_mem hz).mp z'] at hh; cases hh
      have hnn := na_nxt m' Z
      refine ⟨if (!(pos m' Z).isEmpty) = true then k else 0, ?_, k, m' - cnt m' Z, nxt m' Z, kvs', !(pos m' Z).isEmpty, _, _, _, _, rfl, s5.trans s6, s6 _ _ e5, hfn, by omega, w.nxt, ?_, rfl⟩
      · split <;> omega
      · by_cases hc : cnt m' Z = 0
        · have he : pos m' Z = [] := List.eq_nil_of_length_eq_zero (by rw [hpl]; exact hc)
          rw [he, if_neg (by decide), hc, nxt_id hc, ← hw, wl, if_pos hc]
          simp
        · have he : (pos m' Z).isEmpty = false := by
            cases h : pos m' Z with
            | nil => rw [h] at hpl; exact absurd hpl.symm hc
            | cons _ _ => rfl
          rw [he, if_pos (show (!false) = true from rfl), ← hw]
          conv => lhs; rhs; rw [wl, if_neg hc]
          exact ⟨rfl, by omega⟩
  · subst hm
    rw [if_neg Bool.false_ne_true] at hmore
    walk_at "sts"
    refine ⟨Z, kvs, hL2, e2, hf, by omega, fun H3 s3 => ?_⟩
    have e3 := s3 _ _ e2
    walk_at "sts"
    rw [← hmore] at q
    have hp := w.pos
    refine L_re (s3.seq hL2) ?_
    refine lc_dp (K := K) walk_enum (fun i => (Z[i]?).map fun z => d2 (fr m' (left Z) z)) (by rw [List.length_map, List.length_map]; omega) (fun H' e => e.seq (s3.seq hL2)) ?_ ?_
    · rintro i x1 p0 H4 H4' R R' hi np sm ⟨o, ho⟩ ⟨T1, k0, t0, rfl, hT, rfl, hk, ht⟩ r1 r2
      cases hk
      replace ht : ((Z.map (·.1)).map V.int)[i]? = some t0 := ht
      rw [List.getElem?_map, List.getElem?_map, Option.map_map] at ht
      obtain ⟨z, hz, he⟩ := Option.map_eq_some_iff.mp ht
      obtain rfl : t0 = V.int z.1 := he.symm
      refine L_gTup (.of upd_same) rfl ?_
      have s4 := same_upd (o := HO.tup [V.int (i : Int), V.int z.1]) sm hT
      have ho4 := same_new (o := HO.tup [V.int (i : Int), V.int z.1]) hT _ _ ho
      have hzb1 := hzb z (List.mem_of_getElem? hz)
      have hm0 := w.m
      have sT : Same H4 (upd H4 T1 (HO.tup [V.int (i : Int), V.int z.1])) := same_new hT
      generalize upd H4 T1 (HO.tup [V.int (i : Int), V.int z.1]) = H5 at s4 ho4 sT
      walk_at "sts"
      refine ⟨rfl, ?_⟩
      walk_at "sts"
      refine L_dinv (k := .inl (i : Int)) (R := fun o => ∃ k, V.bl o.isSome = V.bl k ∧ _) rfl (s4 _ _ e3) ?_
      rw [hf i z hz]
      walk_at "sts"
      refine L_b (fun c => ?_) (fun c => ?_)
      · walk_at "sts"
        walk_at "nw"
        rename_i p6 hp6 H6 s6 e6
        exact r1 _ _ _ (by rw [hz, Option.map_some]; rfl) (sT.trans s6) (dp_tupN (xs := [.int (fr m' (left Z) z).1, .int (fr m' (left Z) z).2]) (by rw [e6]; unfold fr; rw [if_pos c]) (ne_new hp6 ⟨_, ho4⟩) (.cons (.int _) (.cons (.int _) .nil)))
      · walk_at "sts"
        refine L_mulI ((bd_64 (by show _ < z.1 ∧ z.1 < _; omega)).cmul (bd_64 (by omega))) ?_
        walk_at "sts"
        refine ⟨by omega, (bd_64 (by omega)).mono (by decide), fun p6 H6 hp6 s6 e6 => ?_⟩
        exact r1 _ _ _ (by rw [hz, Option.map_some]; rfl) (sT.trans s6) (dp_tupN (xs := [.int (fr m' (left Z) z).1, .int (fr m' (left Z) z).2]) (by rw [e6, show fr m' (left Z) z = shr (z.1 * m') (left Z) by unfold fr shr; rw [if_neg (show ¬ z.2 = true by rw [c]; exact Bool.false_ne_true), if_neg (show ¬ left Z < 0 by omega)]]) (ne_new hp6 ⟨_, ho4⟩) (.cons (.int _) (.cons (.int _) .nil)))
    · intro p5 H5 vs5 hp5 s5 e5 d5
      rw [show ((Z.map (·.1)).map V.int).length = Z.length by rw [List.length_map, List.length_map], fm_get] at d5
      exact q p5 vs5 H5 ((s2.trans s3).free hp5) (s2.trans (s3.trans s5)) e5 (by rw [List.map_map]; exact d5)
/-- shares over L -/
structure ShOk (L : Int) (S : List Int) : Prop where
  l1 : 1 ≤ L
  l2 : L ≤ 1000000000
  b : ∀ s ∈ S, 0 ≤ s ∧ s ≤ L
  n : S.length ≤ 24
/-! wished shares as whole numbers over one bottom -/
def wshN (sz : List Int) (m : Int) : Int × List Int := if (sz.length : Int) ≤ m then (1, sz.map fun _ => 1) else (left (fin m sz).2, (fin m sz).2.map fun z => if z.2 = true then left (fin m sz).2 else z.1 * (fin m sz).1)
theorem wl_end : ∀ (k : Nat) (m : Int) (Z : Zs), na Z < k → cnt (wl k m Z).1 (wl k m Z).2 = 0
  | 0, _, _, h => absurd h (Nat.not_lt_zero _)
  | k + 1, m, Z, h => by
    unfold wl
    split
    · rename_i c
      exact c
    · rename_i c
      exact wl_end k _ _ (by have := na_nxt m Z; omega)
theorem fin_end {m : Int} {sz : List Int} (h : ∀ s ∈ sz, 1 ≤ s ∧ s ≤ 24000000) (h0 : 0 ≤ m) (h1 : m < sz.length) : cnt (fin m sz).1 (fin m sz).2 = 0 := by
  unfold fin
  split
  · exact wl_end _ _ _ (by rw [raw_na]; omega)
  · rename_i c
    have w := (iw_raw h h0 h1).pos
    show ((raw sz).filter (hit m (left (raw sz)))).length = 0
    rw [List.filter_eq_nil_iff.mpr]
    · rfl
    · intro z _ hz
      unfold hit at hz
      rw [Bool.and_eq_true] at hz
      have := of_decide_eq_true hz.2
      rw [show m = 0 by omega, Int.mul_zero] at this
      exact absurd this (by show ¬ left (raw sz) ≤ 0; omega)
theorem wshN_ok {m : Int} {sz : List Int} (h : ∀ s ∈ sz, 1 ≤ s ∧ s ≤ 24000000) (hl : sz.length ≤ 24) (h0 : 0 ≤ m) : ShOk (wshN sz m).1 (wshN sz m).2 ∧ (wshN sz m).2.length = sz.length ∧ wsh sz m = (wshN sz m).2.map (fun s => low s (wshN sz m).1) ∧ (wshN sz m).2.sum = min m sz.length * (wshN sz m).1 := by
  unfold wshN wsh
  split
  · rename_i hc
    refine ⟨⟨by show (1 : Int) ≤ 1; decide, by show (1 : Int) ≤ 1000000000; decide, fun s hs => ?_, by show (sz.map _).length ≤ 24; rw [List.length_map]; exact hl⟩, by show (sz.map _).length = _; rw [List.length_map], ?_, ?_⟩
    · obtain ⟨_, _, rfl⟩ := List.mem_map.mp hs
      exact ⟨by decide, by show (1 : Int) ≤ 1; decide⟩
    · show _ = List.map _ (sz.map _)
      rw [List.map_map]
      refine List.map_congr_left fun _ _ => ?_
      exact ((low_one (a := 1) (L := 1) (by decide)).mpr rfl).symm
    · rw [Int.min_eq_right hc]
      show (sz.map fun _ => (1 : Int)).sum = sz.length * 1
      clear hc h h0 hl
      induction sz with
      | nil => rfl
      | cons s sz ih => rw [List.map_cons, List.sum_cons, ih, List.length_cons]; omega
  · rename_i hc
    have w := iw_fin h h0 (by omega)
    have e := fin_end h h0 (by omega)
    generalize fin m sz = F at w e
    have pos := w.pos
    have zl : F.2.length = sz.length := by rw [← w.z, List.length_map]
    have lt := left_lt w (by omega)
    refine ⟨⟨by show 1 ≤ left F.2; omega, by show left F.2 ≤ _; omega, fun s hs => ?_, by show (F.2.map _).length ≤ 24; rw [List.length_map]; omega⟩, by show (F.2.map _).length = _; rw [List.length_map, zl], ?_, ?_⟩
    · obtain ⟨z, hz, rfl⟩ := List.mem_map.mp hs
      show 0 ≤ (if z.2 = true then left F.2 else z.1 * F.1) ∧ (if z.2 = true then left F.2 else z.1 * F.1) ≤ left F.2
      split
      · omega
      · rename_i c
        have h1 := w.s z.1 (by rw [← w.z]; exact List.mem_map_of_mem hz)
        refine ⟨Int.mul_nonneg (by omega) w.m, ?_⟩
        refine Int.not_lt.mp fun z2 => ?_
        have : hit F.1 (left F.2) z = true := by
          unfold hit
          rw [Bool.and_eq_true]
          exact ⟨by simpa using c, by rw [decide_eq_true_iff]; omega⟩
        have hm := List.length_pos_of_mem (List.mem_filter.mpr ⟨hz, this⟩)
        unfold cnt at e
        omega
    · show _ = List.map _ (F.2.map _)
      rw [List.map_map]
      refine List.map_congr_left fun z _ => ?_
      show fr F.1 (left F.2) z = low (if z.2 = true then left F.2 else z.1 * F.1) (left F.2)
      unfold fr
      split
      · exact ((low_one pos).mpr rfl).symm
      · rfl
    · rw [Int.min_eq_left (by omega)]
      show (F.2.map fun z => if z.2 = true then left F.2 else z.1 * F.1).sum = m * left F.2
      rw [fr_sum, w.n, zl]
      grind
theorem sizes_ok {cr : List Mem} (h : CrOk cr) : ∀ s ∈ cr.map (·.2.1), 1 ≤ s ∧ s ≤ 24000000 := fun s hs => by
  obtain ⟨m, hm, rfl⟩ := List.mem_map.mp hs
  exact h.sz m hm
def sp_wished_of (K : PySem.W.Frag) (mg : Str → Option Value) : Sp := fun vs H Q _ => match vs with | [.ref c, .int m] => ∃ cr : List Mem, CrdS K H c cr ∧ 0 ≤ m ∧ m ≤ 24 ∧ ∀ p us H', H p = none → Same H H' → H' p = some (.lst us) → DpAll K (rs (· ≠ p) H') us ((wsh (cr.map (·.2.1)) m).map d2) → Q (.ref p) H' | _ => False
theorem q_wished_of {H : Hp} {Q : VK} {E : XK} {c : Addr} {m : Int} (q : ∃ cr : List Mem, CrdS K H c cr ∧ 0 ≤ m ∧ m ≤ 24 ∧ ∀ p us H', H p = none → Same H H' → H' p = some (.lst us) → DpAll K (rs (· ≠ p) H') us ((wsh (cr.map (·.2.1)) m).map d2) → Q (.ref p) H') : sp_wished_of K mg [.ref c, .int m] H Q E := q
local macro_rules | `(tactic| walk_at "op") => `(tactic| with_reducible refine q_wished_of ?_)
theorem c_wished_of (T : Txt K mg base) : Cal P w K mg base 4 "wished_of" (sp_wished_of K mg) := by
  refine T.d_wished_of.cal (k := 3) sc_wished_of (by intro vs H Q E h; unfold sp_wished_of at h; split at h <;> first | rfl | exact h.elim) fun f cdv A outer s H vs Q E hr h => ?_
  refine ⟨_, (pss_one (ps_ret (pe_c (c_wished T) hr (by decide) (by rfl) (pa_cons (pe_lc (own := [("place", 2), ("size", 3), ("path", 4)]) (g := (gTup K 3 (gCons (gName 2) (gCons (gName 3) (gCons (gName 4) gNil))))) (tt := tYes) (te := (tVar 3)) rfl sc_wished_of.nd (pi_list (pv 0)) (blkOk_by (N := ["crowd", "many", "place", "size", "path"]) (sc := defScope s_wished_of) (by decide +kernel)) (fun _ _ _ _ _ => by exact (pg_tup rfl (pgs_cons (pg_name (i := 2) sc_wished_of.nd rfl (.inl rfl)) (pgs_cons (pg_name (i := 3) sc_wished_of.nd rfl (.inl rfl)) (pgs_cons (pg_name (i := 4) sc_wished_of.nd rfl (.inl rfl)) pgs_nil))))) (fun _ _ _ _ _ => pts_nil) (fun _ _ _ _ _ => by exact (pv 3))) (pa_cons (pv 1) pa_nil))))), ?_⟩
  try simp only [cxOf_K, cxOf_K', cxOf_mg, cxOf_mg']
  unfold sp_wished_of at h
  split at h
  case h_2 => exact h.elim
  rename_i c m
  rw [show L2.start ["crowd", "many", "place", "size", "path"] [V.ref c, V.int m] = [some (V.ref c), some (V.int m), none, none, none] from rfl]
  obtain ⟨cr, ⟨⟨us, hS, hD⟩, hok⟩, m0, m1, q⟩ := h
  have hul : us.length = cr.length := by rw [hD.len, List.length_map]
  have hl := hok.len
  walk_at "sts"
  refine L_rl hS ?_
  refine lc_fm walk_list (fun i => cr[i]?.map fun m => V.int m.2.1) (by omega) (fun H' e => e.seq hS) ?_ ?_
  · rintro j x1 Ha Hb R R' hj sm ⟨rfl, hx1⟩ q1 q2
    obtain ⟨mm, t, q0, hr, rfl, hq, _⟩ := hit3 hD hx1
    refine L_gTup (sm.seqT hq) rfl ?_
    walk_at "sts"
    refine ⟨rfl, ?_⟩
    walk_at "sts"
    exact q1 _ _ (by rw [hr]; rfl) (.refl _)
  intro p3 H3 hp3 s3 e3
  rw [hul, fm_get (fun m : Mem => V.int m.2.1) cr] at e3
  have e3' : H3 p3 = some (.lst ((cr.map (·.2.1)).map V.int)) := by rw [e3, List.map_map]; rfl
  walk_at "sts"
  exact ⟨cr.map (·.2.1), .of e3', by rw [List.length_map]; omega, sizes_ok hok, m0, m1, fun p us H' hp s e d => q p us H' (s3.free hp) (s3.trans s) e d⟩
theorem wsh_len (sz : List Int) (m : Int) (h : ∀ s ∈ sz, 1 ≤ s ∧ s ≤ 24000000) (h0 : 0 ≤ m) : (wsh sz m).length = sz.length := by
  unfold wsh
  split
  · rw [List.length_map]
  · have w := iw_fin h h0 (by omega)
    have e := congrArg List.length w.z
    rw [List.length_map] at e
    rw [List.length_map]
    exact e
/-- Loose's node -/
def looN (cr : List Mem) (m : Int) : Nd := skipL (cr.map (·.1)) (wsh (cr.map (·.2.1)) m) []
def sp_Loose_node (K : PySem.W.Frag) (mg : Str → Option Value) : Sp := fun vs H Q _ => match vs with | [.ref x, .ref c] => ∃ (P : Addr → Prop) (m : Int) (cr : List Mem), NL P H ∧ LooA mg x m H ∧ 0 ≤ m ∧ m ≤ 24 ∧ CrdS K H c cr ∧ Tabs (tabsL K mg) H ∧ NodeQ K mg P (looN cr m) H Q | _ => False
theorem q_Loose_node {H : Hp} {Q : VK} {E : XK} {x : Addr} {c : Addr} (q : ∃ (P : Addr → Prop) (m : Int) (cr : List Mem), NL P H ∧ LooA mg x m H ∧ 0 ≤ m ∧ m ≤ 24 ∧ CrdS K H c cr ∧ Tabs (tabsL K mg) H ∧ NodeQ K mg P (looN cr m) H Q) : sp_Loose_node K mg [.ref x, .ref c] H Q E := q
local macro_rules | `(tactic| walk_at "op") => `(tactic| with_reducible refine q_Loose_node ?_)
theorem c_Loose_node (T : Txt K mg base) : Met P w K mg base 5 (cA mg "Loose") "node" (sp_Loose_node K mg) := by
  refine MethAt.met T.k_Loose T.d_Loose_node (k := 4) sc_Loose_node (by intro vs H Q E h; unfold sp_Loose_node at h; split at h <;> first | rfl | exact h.elim) fun f cdv A outer s H vs Q E hr h => ?_
  refine ⟨_, (pss_one (ps_ret (pe_c (c_loose_node T) hr (by decide) (by rfl) (pa_cons (pe_c (c_places_of T) hr (by decide) (by rfl) (pa_cons (pv 1) pa_nil)) (pa_cons (pe_c (c_wished_of T) hr (by decide) (by rfl) (pa_cons (pv 1) (pa_cons (pe_fld (pv 0) rfl) pa_nil))) (pa_cons (pe_lst pa_nil) pa_nil)))))), ?_⟩
  try simp only [cxOf_K, cxOf_K', cxOf_mg, cxOf_mg']
  unfold sp_Loose_node at h
  split at h
  case h_2 => exact h.elim
  rename_i x c
  rw [show L2.start ["self", "crowd"] [V.ref x, V.ref c] = [some (V.ref x), some (V.ref c)] from rfl]
  obtain ⟨P, m, cr, hn, ⟨dx, hx⟩, m0, m1, hc, hT, q⟩ := h
  walk_at "sts"
  refine ⟨cr.map (·.1), hc.crd, fun p1 H1 hp1 s1 e1 => ?_⟩
  walk_at "sts"
  refine L_fldv (s1 _ _ hx) T.k_Loose T.na_Loose_many rfl ?_
  walk_at "sts"
  refine ⟨cr, hc.ev (Ev.same (T := []) s1), m0, m1, fun p2 us H2 hp2 s2 e2 d2' => ?_⟩
  walk_at "sts"
  walk_at "nw"
  rename_i p3 hp3 H3 s3 e3
  have s13 := s1.trans (s2.trans s3)
  have ev : Ev (tabsL K mg) H H3 := .same s13
  have wl := wsh_len (cr.map (·.2.1)) m (sizes_ok hc.ok) m0
  have cl := hc.ok.len
  exact ⟨P, cr.map fun z : Mem => z.1, wsh (cr.map fun z : Mem => z.2.1) m, [], ⟨(s2.trans s3) _ _ e1, ⟨us, s3 _ _ e2, (d2'.same rs_sub).same s3⟩, e3, hn.new hp1, hn.new (s1.free hp2), hn.new ((s1.trans s2).free hp3)⟩, ⟨by rw [wl, List.length_map, List.length_map], by rw [List.length_map]; simpa using cl⟩, hn.ev ev, ev.tb hT, fun y H' ev2 at1 => q y H' (ev.trans ev2) at1⟩
def sp_Loose___init__ (K : PySem.W.Frag) (mg : Str → Option Value) : Sp := fun vs H Q E => match vs with | [.ref x, v] => Ini K mg (cA mg "Loose") "many" 0 24 x v H Q E | _ => False
theorem q_Loose___init__ {H : Hp} {Q : VK} {E : XK} {x : Addr} {v : V} (q : Ini K mg (cA mg "Loose") "many" 0 24 x v H Q E) : sp_Loose___init__ K mg [.ref x, v] H Q E := q
local macro_rules | `(tactic| walk_at "op") => `(tactic| with_reducible refine q_Loose___init__ ?_)
theorem m_Loose (T : Txt K mg base) : MakX P w K mg base 3 "Loose" (cA mg "Loose") (sp_Loose___init__ K mg) := by
  refine InitAt.makX T.m_Loose T.i_Loose (k := 2) sc_Loose___init__ (by intro vs H Q E h; unfold sp_Loose___init__ at h; split at h <;> first | rfl | exact h.elim) fun f cdv A outer s H vs Q E hr h => ?_
  refine ⟨_, (pss_cons (ps_if (pt_not (pt_val (pe_c (c_is_whole T) hr (by decide) (by rfl) (pa_cons (pv 1) (pa_cons pe_int (pa_cons (pe_gc (by rfl) T.g_MOST_DRAWN) pa_nil))))))
    (pss_one (ps_raise rfl (takes_of rfl rfl rfl rfl) (pmk_x (x_NoPlan T) T.o_NoPlan hr (by decide) (by rfl) (pa_cons pe_int pa_nil))))
    pss_nil)
    (pss_one (ps_fld (pv 0) (pv 1) rfl))), ?_⟩
  try simp only [cxOf_K, cxOf_K', cxOf_mg, cxOf_mg']
  unfold sp_Loose___init__ at h
  split at h
  case h_2 => exact h.elim
  rename_i x v
  rw [show L2.start ["self", "many"] [V.ref x, v] = [some (V.ref x), some (v)] from rfl]
  obtain ⟨dx, hx, ⟨hb, q⟩ | ⟨t, rfl, h1, h2, q⟩⟩ := h
  · walk_at "sts"
    refine q_wholeB hb ?_
    walk_at "sts"
    refine L_mkO ?_
    walk_at "sts"
    exact q_noPlan q
  · walk_at "sts"
    refine L_sFldv hx T.k_Loose T.na_Loose_many (by decide) ?_
    refine q _ (fun b o hb ne => by rw [upd_ne ne]; exact hb) upd_same
theorem paired_set {α β : Type} {F : α → β → Prop} : ∀ {xs : List α} {ys : List β} {i : Nat} {x : α} {y : β}, Paired F xs ys → F x y → Paired F (xs.set i x) (ys.set i y)
  | _, _, _, _, _, .nil, _ => .nil
  | _, _, 0, _, _, .cons _ t, h => .cons h t
  | _, _, i + 1, _, _, .cons h0 t, h => .cons h0 (paired_set t h)
/-- the share in which both of two are drawn -/
def chW (ss : List (Int × Int)) (i j : Nat) : Int × Int := if i = j then ss.getD i (0, 1) else shr ((ss.getD i (0, 1)).1 * (ss.getD j (0, 1)).1) ((ss.getD i (0, 1)).2 * (ss.getD j (0, 1)).2)
def matW (ss : List (Int × Int)) : List (List (Int × Int)) := (List.range ss.length).map fun i => (List.range ss.length).map fun j => chW ss i j
def sp_Loose_text (K : PySem.W.Frag) (mg : Str → Option Value) : Sp := fun vs H Q _ => match vs with | [.ref x] => ∃ m, LooA mg x m H ∧ 0 ≤ m ∧ m ≤ 24 ∧ Q (.str ("loose " ++ (↑(toString m) : Str))) H | _ => False
theorem q_Loose_text {H : Hp} {Q : VK} {E : XK} {x : Addr} (q : ∃ m, LooA mg x m H ∧ 0 ≤ m ∧ m ≤ 24 ∧ Q (.str ("loose " ++ (↑(toString m) : Str))) H) : sp_Loose_text K mg [.ref x] H Q E := q
local macro_rules | `(tactic| walk_at "op") => `(tactic| with_reducible refine q_Loose_text ?_)
theorem c_Loose_text (T : Txt K mg base) : Met P w K mg base 1 (cA mg "Loose") "text" (sp_Loose_text K mg) := by
  refine MethAt.met T.k_Loose T.d_Loose_text (k := 0) sc_Loose_text (by intro vs H Q E h; unfold sp_Loose_text at h; split at h <;> first | rfl | exact h.elim) fun f cdv A outer s H vs Q E hr h => ?_
  refine ⟨_, (pss_one (ps_ret (pe_op op_addA pe_str (pe_callTy call_str1A (by rfl) T.n_str (by decide +kernel) (pa_cons (pe_fld (pv 0) rfl) pa_nil))))), ?_⟩
  try simp only [cxOf_K, cxOf_K', cxOf_mg, cxOf_mg']
  unfold sp_Loose_text at h
  split at h
  case h_2 => exact h.elim
  rename_i x
  rw [show L2.start ["self"] [V.ref x] = [some (V.ref x)] from rfl]
  obtain ⟨m, ⟨dx, hx⟩, m0, m1, q⟩ := h
  walk_at "sts"
  refine L_fldv hx T.k_Loose T.na_Loose_many rfl ?_
  walk_at "sts"
  refine L_str1 (by omega) ?_
  refine L_addS (txt_short _ (by decide) (by omega) (by omega)) ?_
  walk_at "sts"
  exact q
/-- a fraction at a -/
def Fr2 (K : PySem.W.Frag) (H : Hp) (a : Addr) (x y : Int) : Prop := SqT K H a [.int x, .int y] ∧ 1 ≤ y ∧ Bd 990 x ∧ Bd 990 y
def sp_times (K : PySem.W.Frag) (mg : Str → Option Value) : Sp := fun vs H Q _ => match vs with | [.ref a, .ref b] => ∃ x y u v, Fr2 K H a x y ∧ Fr2 K H b u v ∧ NewT H [.int (shr (x * u) (y * v)).1, .int (shr (x * u) (y * v)).2] Q | _ => False
theorem q_times {H : Hp} {Q : VK} {E : XK} {a : Addr} {b : Addr} (q : ∃ x y u v, Fr2 K H a x y ∧ Fr2 K H b u v ∧ NewT H [.int (shr (x * u) (y * v)).1, .int (shr (x * u) (y * v)).2] Q) : sp_times K mg [.ref a, .ref b] H Q E := q
local macro_rules | `(tactic| walk_at "op") => `(tactic| with_reducible refine q_times ?_)
theorem c_times (T : Txt K mg base) : Cal P w K mg base 3 "times" (sp_times K mg) := by
  refine T.d_times.cal (k := 2) sc_times (by intro vs H Q E h; unfold sp_times at h; split at h <;> first | rfl | exact h.elim) fun f cdv A outer s H vs Q E hr h => ?_
  refine ⟨_, (pss_one (ps_ret (pe_c (c_share T) hr (by decide) (by rfl) (pa_cons (pe_op op_mulA (pe_ix ix_seq (pv 0) pe_int (fun _ _ => rfl)) (pe_ix ix_seq (pv 1) pe_int (fun _ _ => rfl))) (pa_cons (pe_op op_mulA (pe_ix ix_seq (pv 0) pe_int (fun _ _ => rfl)) (pe_ix ix_seq (pv 1) pe_int (fun _ _ => rfl))) pa_nil))))), ?_⟩
  try simp only [cxOf_K, cxOf_K', cxOf_mg, cxOf_mg']
  unfold sp_times at h
  split at h
  case h_2 => exact h.elim
  rename_i a b
  rw [show L2.start ["one", "other"] [V.ref a, V.ref b] = [some (V.ref a), some (V.ref b)] from rfl]
  obtain ⟨x, y, u, v, ⟨ha, h1, bx, by_⟩, ⟨hb, h2, bu, bv⟩, q⟩ := h
  walk_at "sts"
  refine L_ixT ha rfl ?_
  walk_at "sts"
  refine L_ixT hb rfl ?_
  refine L_mulI (bx.cmul bu) ?_
  walk_at "sts"
  refine L_ixT ha rfl ?_
  walk_at "sts"
  refine L_ixT hb rfl ?_
  refine L_mulI (by_.cmul bv) ?_
  walk_at "sts"
  exact ⟨Int.mul_ne_zero (by omega) (by omega), (by_.mul bv).mono (by decide), q⟩
theorem wsh_b (sz : List Int) (m : Int) (h : ∀ s ∈ sz, 1 ≤ s ∧ s ≤ 24000000) (hl : sz.length ≤ 24) (h0 : 0 ≤ m) : ∀ s ∈ wsh sz m, 1 ≤ s.2 ∧ Bd 64 s.1 ∧ Bd 64 s.2 := by
  unfold wsh
  split
  · intro s hs
    obtain ⟨_, _, rfl⟩ := List.mem_map.mp hs
    exact ⟨by decide, bd_64 (by decide), bd_64 (by decide)⟩
  · rename_i c
    have w := iw_fin h h0 (by omega)
    generalize (fin m sz).1 = m' at w
    generalize (fin m sz).2 = Z at w
    intro s hs
    obtain ⟨z, hz, rfl⟩ := List.mem_map.mp hs
    unfold fr
    split
    · exact ⟨by decide, bd_64 (by decide), bd_64 (by decide)⟩
    · have zl : Z.length ≤ 24 := by
        have e := congrArg List.length w.z
        rw [List.length_map] at e
        omega
      have lt := left_lt w zl
      have pos := w.pos
      have hn := w.n
      have hna : na Z ≤ Z.length := List.length_filter_le _ _
      have hz1 := w.s z.1 (by rw [← w.z]; exact List.mem_map_of_mem hz)
      have hm := w.m
      have hm0 := w.m0
      have e := congrArg List.length w.z
      rw [List.length_map] at e
      have p1 : z.1 * m' ≤ 24000000 * 24 := Int.mul_le_mul hz1.2 (by omega) hm (by decide)
      have p0 : 0 ≤ z.1 * m' := Int.mul_nonneg (by omega) hm
      exact ⟨low_pos pos, low_bd pos (bd_64 (by omega)) (bd_64 (by omega))⟩
def sp_Loose_matrix (K : PySem.W.Frag) (mg : Str → Option Value) : Sp := fun vs H Q _ => match vs with | [.ref x, .ref c] => ∃ (m : Int) (cr : List Mem), LooA mg x m H ∧ 0 ≤ m ∧ m ≤ 24 ∧ CrdS K H c cr ∧ ∀ p H' os, H p = none → Same H H' → H' p = some (.lst (os.map V.ref)) → RowsN K H H' p os (matW (wsh (cr.map (·.2.1)) m)) → Q (.ref p) H' | _ => False
theorem q_Loose_matrix {H : Hp} {Q : VK} {E : XK} {x : Addr} {c : Addr} (q : ∃ (m : Int) (cr : List Mem), LooA mg x m H ∧ 0 ≤ m ∧ m ≤ 24 ∧ CrdS K H c cr ∧ ∀ p H' os, H p = none → Same H H' → H' p = some (.lst (os.map V.ref)) → RowsN K H H' p os (matW (wsh (cr.map (·.2.1)) m)) → Q (.ref p) H') : sp_Loose_matrix K mg [.ref x, .ref c] H Q E := q
local macro_rules | `(tactic| walk_at "op") => `(tactic| with_reducible refine q_Loose_matrix ?_)
theorem c_Loose_matrix (T : Txt K mg base) : Met P w K mg base 5 (cA mg "Loose") "matrix" (sp_Loose_matrix K mg) := by
  refine MethAt.met T.k_Loose T.d_Loose_matrix (k := 4) sc_Loose_matrix (by intro vs H Q E h; unfold sp_Loose_matrix at h; split at h <;> first | rfl | exact h.elim) fun f cdv A outer s H vs Q E hr h => ?_
  refine ⟨_, (pss_cons (ps_set (i := 2) sc_Loose_matrix.nd rfl (.inl rfl) (pe_c (c_wished_of T) hr (by decide) (by rfl) (pa_cons (pv 1) (pa_cons (pe_fld (pv 0) rfl) pa_nil))))
    (pss_cons (ps_set (i := 3) sc_Loose_matrix.nd rfl (.inl rfl) (pe_lst pa_nil))
    (pss_cons (ps_for PassesOwn.never rfl (pi_enum (by rfl) T.n_enumerate (pa_cons (pv 2) pa_nil)) (pg_tup rfl (pgs_cons (pg_name (i := 4) sc_Loose_matrix.nd rfl (.inl rfl)) (pgs_cons (pg_name (i := 5) sc_Loose_matrix.nd rfl (.inr rfl)) pgs_nil)))
    (pss_cons (ps_setLc (i := 6) (own := [("other", 7)]) (g := (gName 7)) (tt := tYes) (te := (tCall (sp_times K mg) [] E0 (tCons (tVar 5) (tCons (tVar 7) tNil)))) rfl sc_Loose_matrix.nd rfl rfl (sw_true rfl rfl rfl (by decide +kernel)) (pi_list (pv 2)) (blkOk_by (N := ["self", "crowd", "shares", "found", "at", "one", "row", "other"]) (sc := defScope s_Loose_matrix) (by decide +kernel)) (fun _ _ _ _ _ => by exact (pg_name (i := 7) sc_Loose_matrix.nd rfl (.inl rfl))) (fun _ _ _ _ _ => pts_nil) (fun _ _ _ _ _ => by exact (pe_c (c_times T) hr (by decide) (by rfl) (pa_cons (pv 5) (pa_cons (pv 7) pa_nil)))))
    (pss_cons (ps_asg (pv 5) (pg_sub (pv 6) (pv 4) set_list))
    (pss_one (ps_expr (pe_bm PySem.F.plainAttrs_list PySem.F.slot_list_append PySem.F.type_list_append mt_append (pv 3) (pa_cons (pv 6) pa_nil)))))))
    (pss_one (ps_ret (pv 3)))))), ?_⟩
  try simp only [cxOf_K, cxOf_K', cxOf_mg, cxOf_mg']
  unfold sp_Loose_matrix at h
  split at h
  case h_2 => exact h.elim
  rename_i x c
  rw [show L2.start ["self", "crowd", "shares", "found", "at", "one", "row", "other"] [V.ref x, V.ref c] = [some (V.ref x), some (V.ref c), none, none, none, none, none, none] from rfl]
  obtain ⟨m, cr, ⟨dx, hx⟩, m0, m1, hc, q⟩ := h
  have cl := hc.ok.len
  have wl := wsh_len (cr.map (·.2.1)) m (sizes_ok hc.ok) m0
  have wb := wsh_b (cr.map (·.2.1)) m (sizes_ok hc.ok) (by rw [List.length_map]; exact cl) m0
  rw [List.length_map] at wl
  generalize hss : wsh (cr.map (·.2.1)) m = ss at wl wb q
  walk_at "sts"
  refine L_fldv hx T.k_Loose T.na_Loose_many rfl ?_
  walk_at "sts"
  refine ⟨cr, hc, m0, m1, fun sp us H1 hsp s1 e1 d1 => ?_⟩
  rw [hss] at d1
  have dA : DpAll K H1 us (ss.map d2) := d1.same rs_sub
  have hul : us.length = ss.length := by rw [dA.len, List.length_map]
  have frk : ∀ {j : Nat} {y : Int × Int} {t : Addr} {H' : Hp}, ss[j]? = some y → SqT K H' t [.int y.1, .int y.2] → Fr2 K H' t y.1 y.2 := fun hy ht => by
    have := wb _ (List.mem_of_getElem? hy)
    exact ⟨ht, this.1, this.2.1.mono (by decide), this.2.2.mono (by decide)⟩
  walk_at "sts"
  walk_at "nw"
  rename_i F hF H2 s2 e2
  walk_at "sts"
  refine L_re (.of (s2 _ _ e1)) ?_
  refine f_it walk_enum (fun i σ' H' => ∃ (os : List Addr) (v4 v5 v6 v7 : Option V), σ' = [some (.ref x), some (.ref c), some (.ref sp), some (.ref F), v4, v5, v6, v7] ∧ Same H1 H' ∧ H' F = some (.lst (os.map V.ref)) ∧ RowsN K H1 H' F os ((List.range i).map fun i : Nat => (List.range ss.length).map fun j : Nat => chW ss i j)) ⟨[], _, _, _, _, rfl, s2, e2, ⟨.nil, (fun _ h => nomatch h), .nil⟩⟩ (fun _ _ _ _ ⟨_, _, _, _, _, _, s, _⟩ => .of (s _ _ e1)) ?_ ?_
  · rintro i y σ' H3 H4 hi ⟨os, v4, v5, v6, v7, rfl, s3, e3, rn⟩ ⟨T1, k0, y, rfl, hTn, rfl, hk0, hy⟩
    cases hk0
    replace hy : us[i]? = some y := hy
    obtain ⟨a, t, ha, rfl, ht⟩ := hit2 dA hy
    refine L_gTup (.of upd_same) rfl ?_
    have s4 : Same H3 (upd H3 T1 (.tup [.int (i : Int), .ref t])) := same_new hTn
    generalize upd H3 T1 (.tup [.int (i : Int), .ref t]) = H4 at s4 ⊢
    walk_at "sts"
    have s14 := s3.trans s4
    refine L_rl (.of (s14 _ _ e1)) ?_
    refine lc_ob (Q2 K) (fun _ _ _ _ s h => Q2.same h s) (fun H D us us' v a e h => Q2.mu h e) walk_list (fun j => ss[j]?.map fun b => shr (a.1 * b.1) (a.2 * b.2)) (by omega) (fun H' e => .of (e _ _ (s14 _ _ e1))) ?_ ?_
    · rintro j x2 H5 H5' R1 R1' hj s5 ⟨rfl, hx2⟩ q1 q2
      obtain ⟨b, t2, hb, rfl, ht2⟩ := hit2 dA hx2
      walk_at "sts"
      refine ⟨rfl, ?_⟩
      walk_at "sts"
      have s15 := s14.trans s5
      refine ⟨a.1, a.2, b.1, b.2, frk ha (s15.seqT ht), frk hb (s15.seqT ht2), fun p6 H6 hp6 s6 e6 => ?_⟩
      exact q1 _ _ _ (by rw [hb]; rfl) s6 ⟨p6, rfl, .of e6⟩
    intro R H5 vs5 hR s5 e5 h5
    walk_at "sts"
    rw [hul, fm_get (fun b : Int × Int => shr (a.1 * b.1) (a.2 * b.2)) ss] at h5
    have vl : vs5.length = ss.length := by rw [Paired.length h5, List.length_map]
    refine L_setL e5 (ixN_of (by omega) (by omega)) ?_
    have s15 := s14.trans s5
    have hil : i < ss.length := by omega
    have hset : Paired (Q2 K H5) (vs5.set ((i : Int)).toNat (.ref t)) ((List.range ss.length).map fun j : Nat => chW ss i j) := by
      have e : ((List.range ss.length).map fun j : Nat => chW ss i j) = (ss.map fun b => shr (a.1 * b.1) (a.2 * b.2)).set i a := by
        refine List.ext_getElem (by simp) fun j h1 h2 => ?_
        rw [List.getElem_set]
        simp only [List.getElem_map, List.getElem_range]
        have hj : j < ss.length := by simpa using h1
        have ga : ss.getD i (0, 1) = a := by rw [List.getD_eq_getElem?_getD, ha]; rfl
        unfold chW
        rw [ga]
        by_cases c : i = j
        · rw [if_pos c, if_pos c]
        · rw [if_neg c, if_neg c, List.getD_eq_getElem?_getD, List.getElem?_eq_getElem hj]
          rfl
      rw [e, show ((i : Int)).toNat = i by omega]
      exact paired_set h5 ⟨t, rfl, s15.seqT ht⟩
    have hset2 : Paired (Q2 K (upd H5 R (.lst (vs5.set ((i : Int)).toNat (.ref t))))) (vs5.set ((i : Int)).toNat (.ref t)) ((List.range ss.length).map fun j : Nat => chW ss i j) := paired_imp2 (fun _ _ h => Q2.mu h e5) hset
    have e6R : upd H5 R (.lst (vs5.set ((i : Int)).toNat (.ref t))) R = some (.lst (vs5.set ((i : Int)).toNat (.ref t))) := upd_same
    have s6 : Same H3 (upd H5 R (.lst (vs5.set ((i : Int)).toNat (.ref t)))) := same_mut (s4.trans s5) (s4.free hR)
    generalize upd H5 R (.lst (vs5.set ((i : Int)).toNat (.ref t))) = H6 at hset2 e6R s6 ⊢
    walk_at "sts"
    refine L_tyL (.of (s6 _ _ e3)) ?_
    walk_at "sts"
    have ol := rn.len
    rw [List.length_map, List.length_range] at ol
    refine L_app (s6 _ _ e3) (by rw [List.length_map]; exact sz_lt (by omega)) ?_
    walk_at "sts"
    refine ⟨os ++ [R], _, _, _, _, rfl, same_mut (s3.trans s6) hF, by rw [List.map_append]; exact upd_same, ?_⟩
    rw [List.range_succ, List.map_append]
    exact rn.grow s6 s3 (s4.free hR) e3 e6R hset2
  · rintro σ' H3 ⟨os, v4, v5, v6, v7, rfl, s3, e3, rn⟩
    walk_at "sts"
    refine q F H3 os (s1.free hF) (s1.trans s3) e3 ?_
    rw [hul] at rn
    exact ⟨rn.nd, fun o ho => ⟨s1.free (rn.new o ho).1, (rn.new o ho).2⟩, rn.at_⟩
theorem cnt_ne (a : Int × Int) : ∀ ss : List (Int × Int), (ss.filter fun b => !decide (b = a)).length + ss.count a = ss.length
  | [] => rfl
  | b :: ss => by
    have ih := cnt_ne a ss
    rw [List.filter_cons, List.count_cons]
    by_cases c : b = a
    · rw [decide_eq_true c, c]
      simp
      omega
    · rw [decide_eq_false c, show (b == a) = false from by simpa using c]
      simp
      omega
def sp_Loose_bounds (K : PySem.W.Frag) (mg : Str → Option Value) : Sp := fun vs H Q _ => match vs with | [.ref x, .ref c] => ∃ (m : Int) (cr : List Mem), LooA mg x m H ∧ 0 ≤ m ∧ m ≤ 24 ∧ CrdS K H c cr ∧ NewT H [.int ((wsh (cr.map (·.2.1)) m).count (1, 1) : Nat), .int (((wsh (cr.map (·.2.1)) m).length : Int) - ((wsh (cr.map (·.2.1)) m).count (0, 1) : Nat))] Q | _ => False
theorem q_Loose_bounds {H : Hp} {Q : VK} {E : XK} {x : Addr} {c : Addr} (q : ∃ (m : Int) (cr : List Mem), LooA mg x m H ∧ 0 ≤ m ∧ m ≤ 24 ∧ CrdS K H c cr ∧ NewT H [.int ((wsh (cr.map (·.2.1)) m).count (1, 1) : Nat), .int (((wsh (cr.map (·.2.1)) m).length : Int) - ((wsh (cr.map (·.2.1)) m).count (0, 1) : Nat))] Q) : sp_Loose_bounds K mg [.ref x, .ref c] H Q E := q
local macro_rules | `(tactic| walk_at "op") => `(tactic| with_reducible refine q_Loose_bounds ?_)
theorem c_Loose_bounds (T : Txt K mg base) : Met P w K mg base 5 (cA mg "Loose") "bounds" (sp_Loose_bounds K mg) := by
  refine MethAt.met T.k_Loose T.d_Loose_bounds (k := 4) sc_Loose_bounds (by intro vs H Q E h; unfold sp_Loose_bounds at h; split at h <;> first | rfl | exact h.elim) fun f cdv A outer s H vs Q E hr h => ?_
  refine ⟨_, (pss_cons (ps_set (i := 2) sc_Loose_bounds.nd rfl (.inl rfl) (pe_c (c_wished_of T) hr (by decide) (by rfl) (pa_cons (pv 1) (pa_cons (pe_fld (pv 0) rfl) pa_nil))))
    (pss_one (ps_ret (pe_tup (pa_cons (pe_callB call_lenA (by rfl) T.n_len (by decide +kernel) (pa_cons (pe_lc (own := [("one", 3)]) (g := (gName 3)) (tt := (tTest (tOp (aEq K) (tVar 3) (tTup (tCons (tC (.int 1)) (tCons (tC (.int 1)) tNil)))))) (te := (tVar 3)) rfl sc_Loose_bounds.nd (pi_list (pv 2)) (blkOk_by (N := ["self", "crowd", "shares", "one"]) (sc := defScope s_Loose_bounds) (by decide +kernel)) (fun _ _ _ _ _ => by exact (pg_name (i := 3) sc_Loose_bounds.nd rfl (.inl rfl))) (fun _ _ _ _ _ => by exact pts_one (pt_cmpR (op_eqA hr) (pv 3) (pe_tup (pa_cons pe_int (pa_cons pe_int pa_nil))) (nomark _))) (fun _ _ _ _ _ => by exact (pv 3))) pa_nil)) (pa_cons (pe_callB call_lenA (by rfl) T.n_len (by decide +kernel) (pa_cons (pe_lc (own := [("one", 3)]) (g := (gName 3)) (tt := (tTest (tOp (aNe K) (tVar 3) (tTup (tCons (tC (.int 0)) (tCons (tC (.int 1)) tNil)))))) (te := (tVar 3)) rfl sc_Loose_bounds.nd (pi_list (pv 2)) (blkOk_by (N := ["self", "crowd", "shares", "one"]) (sc := defScope s_Loose_bounds) (by decide +kernel)) (fun _ _ _ _ _ => by exact (pg_name (i := 3) sc_Loose_bounds.nd rfl (.inl rfl))) (fun _ _ _ _ _ => by exact pts_one (pt_cmpR (op_neA hr) (pv 3) (pe_tup (pa_cons pe_int (pa_cons pe_int pa_nil))) (nomark _))) (fun _ _ _ _ _ => by exact (pv 3))) pa_nil)) pa_nil)))))), ?_⟩
  try simp only [cxOf_K, cxOf_K', cxOf_mg, cxOf_mg']
  unfold sp_Loose_bounds at h
  split at h
  case h_2 => exact h.elim
  rename_i x c
  rw [show L2.start ["self", "crowd", "shares", "one"] [V.ref x, V.ref c] = [some (V.ref x), some (V.ref c), none, none] from rfl]
  obtain ⟨m, cr, ⟨dx, hx⟩, m0, m1, hc, q⟩ := h
  have cl := hc.ok.len
  have wl := wsh_len (cr.map (·.2.1)) m (sizes_ok hc.ok) m0
  rw [List.length_map] at wl
  generalize hss : wsh (cr.map (·.2.1)) m = ss at wl q
  walk_at "sts"
  refine L_fldv hx T.k_Loose T.na_Loose_many rfl ?_
  walk_at "sts"
  refine ⟨cr, hc, m0, m1, fun sp us H1 hsp s1 e1 d1 => ?_⟩
  rw [hss] at d1
  have dA : DpAll K H1 us (ss.map d2) := d1.same rs_sub
  have hul : us.length = ss.length := by rw [dA.len, List.length_map]
  have hx1 := s1 _ _ hx
  walk_at "sts"
  refine L_rl (.of e1) ?_
  refine lc_ob (Q2 K) (fun _ _ _ _ s h => Q2.same h s) (fun H D us us' v a e h => Q2.mu h e) walk_list (fun j => (ss[j]?).bind fun b => if decide (b = (1, 1)) = true then some b else none) (by omega) (fun H' e => .of (e _ _ e1)) ?_ ?_
  · rintro j x2 H5 H5' R1 R1' hj s5 ⟨rfl, hx2⟩ q1 q2
    obtain ⟨b, t2, hb, rfl, ht2⟩ := hit2 dA hx2
    walk_at "sts"
    refine ⟨rfl, ?_⟩
    walk_at "sts"
    walk_at "nw"
    rename_i p6 hp6 H6 s6 e6
    walk_at "sts"
    refine L_eqD (d := d2 b) (e := d2 (1, 1)) (.tup ((s5.trans s6).seqT ht2) (.cons (.int _) (.cons (.int _) .nil))) (.tup (.of e6) (.cons (.int _) (.cons (.int _) .nil))) (shp_tup (n := 0) (shp_cons shp_int (shp_cons shp_int shp_nil))).ok (shp_tup (n := 0) (shp_cons shp_int (shp_cons shp_int shp_nil))).ok ?_
    rw [eqv_d2]
    walk_at "sts"
    refine L_d (fun c => ?_) (fun c => ?_)
    · walk_at "sts"
      exact q1 _ b _ (by rw [hb]; show (if decide (b = (1, 1)) = true then some b else none) = some b; rw [if_pos (decide_eq_true c)]) s6 ⟨t2, rfl, (s5.trans s6).seqT ht2⟩
    · exact q2 _ (by rw [hb]; show (if decide (b = (1, 1)) = true then some b else none) = none; rw [if_neg (by simpa using c)]) s6
  intro R H5 vs5 hR s5 e5 h5
  replace h5 : Paired (Q2 K H5) vs5 (ss.filter fun b => decide (b = (1, 1))) := by
    have e := fm_flt (fun b : Int × Int => decide (b = (1, 1))) (fun b => b) ss
    rw [List.map_id'] at e
    rw [hul] at h5
    rw [← e]
    exact h5
  walk_at "sts"
  refine L_lenL (.of e5) ?_
  walk_at "sts"
  refine L_rl (.of (s5 _ _ e1)) ?_
  refine lc_ob (Q2 K) (fun _ _ _ _ s h => Q2.same h s) (fun H D us us' v a e h => Q2.mu h e) walk_list (fun j => (ss[j]?).bind fun b => if (!decide (b = (0, 1))) = true then some b else none) (by omega) (fun H' e => .of (e _ _ (s5 _ _ e1))) ?_ ?_
  · rintro j x2 H6 H6' R1 R1' hj s6 ⟨rfl, hx2⟩ q1 q2
    obtain ⟨b, t2, hb, rfl, ht2⟩ := hit2 dA hx2
    walk_at "sts"
    refine ⟨rfl, ?_⟩
    walk_at "sts"
    walk_at "nw"
    rename_i p7 hp7 H7 s7 e7
    walk_at "sts"
    have s57 := s5.trans (s6.trans s7)
    refine L_neD (d := d2 b) (e := d2 (0, 1)) (.tup (s57.seqT ht2) (.cons (.int _) (.cons (.int _) .nil))) (.tup (.of e7) (.cons (.int _) (.cons (.int _) .nil))) (shp_tup (n := 0) (shp_cons shp_int (shp_cons shp_int shp_nil))).ok (shp_tup (n := 0) (shp_cons shp_int (shp_cons shp_int shp_nil))).ok ?_
    rw [eqv_d2]
    walk_at "sts"
    refine L_nd (fun c => ?_) (fun c => ?_)
    · walk_at "sts"
      exact q1 _ b _ (by rw [hb]; show (if (!decide (b = (0, 1))) = true then some b else none) = some b; rw [if_pos (by simpa using c)]) s7 ⟨t2, rfl, s57.seqT ht2⟩
    · exact q2 _ (by rw [hb]; show (if (!decide (b = (0, 1))) = true then some b else none) = none; rw [if_neg (by simpa using c)]) s7
  intro R2 H6 vs6 hR2 s6 e6 h6
  replace h6 : Paired (Q2 K H6) vs6 (ss.filter fun b => !decide (b = (0, 1))) := by
    have e := fm_flt (fun b : Int × Int => !decide (b = (0, 1))) (fun b => b) ss
    rw [List.map_id'] at e
    rw [hul] at h6
    rw [← e]
    exact h6
  walk_at "sts"
  refine L_lenL (.of e6) ?_
  walk_at "sts"
  walk_at "nw"
  rename_i p8 hp8 H8 s8 e8
  have l5 := Paired.length h5
  have l6 := Paired.length h6
  refine q p8 H8 ((s1.trans (s5.trans s6)).free hp8) (s1.trans (s5.trans (s6.trans s8))) ?_
  rw [e8, l5, l6]
  have c1 : (ss.filter fun b => decide (b = (1, 1))).length = ss.count (1, 1) := by
    rw [List.count, List.countP_eq_length_filter]
    congr 1
    refine List.filter_congr fun b _ => ?_
    rw [Bool.eq_iff_iff, decide_eq_true_iff, beq_iff_eq]
  have c2 : (ss.filter fun b => !decide (b = (0, 1))).length + ss.count (0, 1) = ss.length := cnt_ne _ ss
  rw [c1, show ((ss.filter fun b => !decide (b = (0, 1))).length : Int) = (ss.length : Int) - (ss.count (0, 1) : Nat) by omega]
theorem gc_abs {a b : Int} : gc (if a < 0 then -a else a) b = gc a b := by
  unfold gc
  split
  · rw [Int.neg_gcd]
  · rfl
def sp__law_low (K : PySem.W.Frag) (mg : Str → Option Value) : Sp := fun vs H Q _ => match vs with | [.int t, .int b] => 0 < b ∧ Bd 2000 b ∧ NewT H [.int (low t b).1, .int (low t b).2] Q | _ => False
theorem q__law_low {H : Hp} {Q : VK} {E : XK} {t : Int} {b : Int} (q : 0 < b ∧ Bd 2000 b ∧ NewT H [.int (low t b).1, .int (low t b).2] Q) : sp__law_low K mg [.int t, .int b] H Q E := q
local macro_rules | `(tactic| walk_at "op") => `(tactic| with_reducible refine q__law_low ?_)
theorem c__law_low (T : Txt K mg base) : Cal P w K mg base 1 "_law_low" (sp__law_low K mg) := by
  refine T.d__law_low.cal (k := 0) sc__law_low (by intro vs H Q E h; unfold sp__law_low at h; split at h <;> first | rfl | exact h.elim) fun f cdv A outer s H vs Q E hr h => ?_
  refine ⟨_, (pss_cons (ps_set (i := 2) sc__law_low.nd rfl (.inl rfl) (pe_callB call_absA (by rfl) T.n_abs (by decide +kernel) (pa_cons (pv 0) pa_nil)))
    (pss_cons (ps_set (i := 3) sc__law_low.nd rfl (.inl rfl) (pv 1))
    (pss_cons (ps_while PassesOwn.never (pt_cmpR op_gt (pv 3) pe_int (nomark _))
    (pss_one (ps_par (i := 2) (j := 3) rfl sc__law_low.nd rfl rfl (by decide) rfl rfl (pa_cons (pv 3) (pa_cons (pe_op op_mod (pv 2) (pv 3)) pa_nil)) (by rfl))))
    (pss_one (ps_ret (pe_tup (pa_cons (pe_op op_fdivW (pv 0) (pv 2)) (pa_cons (pe_op op_fdivW (pv 1) (pv 2)) pa_nil)))))))), ?_⟩
  try simp only [cxOf_K, cxOf_K', cxOf_mg, cxOf_mg']
  unfold sp__law_low at h
  split at h
  case h_2 => exact h.elim
  rename_i t b
  rw [show L2.start ["_law_top", "_law_bottom", "_law_one", "_law_other"] [V.int t, V.int b] = [some (V.int t), some (V.int b), none, none] from rfl]
  obtain ⟨hb, hd, q⟩ := h
  have key : CDivW t (gc t b) ∧ CDivW b (gc t b) := by
    have g := gc_pos (a := t) hb
    have l := gc_le (a := t) hb
    have z : Bd 2000 (gc t b) := by
      unfold Bd at *
      omega
    exact ⟨z.cdiv g, z.cdiv g⟩
  have g := gc_pos (a := t) hb
  walk_at "sts"
  refine L_while (fun m σ' H' => ∃ x y : Int, σ' = [some (.int t), some (.int b), some (.int x), some (.int y)] ∧ 0 ≤ x ∧ 0 ≤ y ∧ gc x y = gc t b ∧ m = y.toNat ∧ H' = H) ⟨_, _, b, rfl, by split <;> omega, by omega, gc_abs, rfl, rfl⟩ ?_
  rintro m σ' H' ⟨x, y, rfl, hx, hy, e, rfl, rfl⟩
  walk_at "sts"
  refine L_d (fun c => ?_) (fun c => ?_)
  · refine L_N ?_
    walk_at "sts"
    refine L_I c ?_
    walk_at "sts"
    have h1 := Int.emod_nonneg x (show y ≠ 0 by omega)
    have h2 := Int.emod_lt_of_pos x c
    exact ⟨(x % y).toNat, by omega, y, x % y, rfl, by omega, h1, (gc_step c).trans e, rfl, rfl⟩
  · have hy0 : y = 0 := by omega
    subst hy0
    have hx2 : x = gc t b := by
      rw [← e, ← gc_zero, if_neg (by omega)]
    subst hx2
    walk_at "sts"
    refine L_I key.1 ?_
    walk_at "sts"
    refine L_I key.2 ?_
    walk_at "sts"
    exact L_new (sz_dec (by show 2 ≤ 1000000; decide)) q.at
def sp__law_fraction (K : PySem.W.Frag) (mg : Str → Option Value) : Sp := fun vs H Q _ => match vs with | [.ref a, .ref b] => ∃ x y : Int, SqT K H a [.int x, .int y] ∧ SqT K H b [.int x, .int y] ∧ Q (.bl true) H | _ => False
theorem q__law_fraction {H : Hp} {Q : VK} {E : XK} {a : Addr} {b : Addr} (q : ∃ x y : Int, SqT K H a [.int x, .int y] ∧ SqT K H b [.int x, .int y] ∧ Q (.bl true) H) : sp__law_fraction K mg [.ref a, .ref b] H Q E := q
local macro_rules | `(tactic| walk_at "op") => `(tactic| with_reducible refine q__law_fraction ?_)
theorem c__law_fraction (T : Txt K mg base) : Cal P w K mg base 2 "_law_fraction" (sp__law_fraction K mg) := by
  refine T.d__law_fraction.cal (k := 1) sc__law_fraction (by intro vs H Q E h; unfold sp__law_fraction at h; split at h <;> first | rfl | exact h.elim) fun f cdv A outer s H vs Q E hr h => ?_
  refine ⟨_, (pss_cons (ps_if (PW.pt (pw_or (pt_not (pt_val (pe_callB call_isi (by rfl) T.n_isinstance (by decide +kernel) (pa_cons (pv 0) (pa_cons (pe_ty "tuple" (by rfl) T.n_tuple (by decide +kernel)) pa_nil))))) (pw_or (pt_cmpR (op_neA hr) (pe_callB call_lenA (by rfl) T.n_len (by decide +kernel) (pa_cons (pv 0) pa_nil)) pe_int (nomark _)) (pw_or (pt_not (pt_val (pe_c (c__law_whole T) hr (by decide) (by rfl) (pa_cons (pe_ix ix_seq (pv 0) pe_int (fun _ _ => rfl)) pa_nil)))) (pw_or1 (pt_not (pt_val (pe_c (c__law_whole T) hr (by decide) (by rfl) (pa_cons (pe_ix ix_seq (pv 0) pe_int (fun _ _ => rfl)) pa_nil)))))))))
    (pss_one (ps_ret pe_bl))
    pss_nil)
    (pss_one (ps_ret (pe_cmpR (op_eqA hr) (pv 0) (pv 1) (nomark _))))), ?_⟩
  try simp only [cxOf_K, cxOf_K', cxOf_mg, cxOf_mg']
  unfold sp__law_fraction at h
  split at h
  case h_2 => exact h.elim
  rename_i a b
  rw [show L2.start ["_law_found", "_law_due"] [V.ref a, V.ref b] = [some (V.ref a), some (V.ref b)] from rfl]
  obtain ⟨x, y, ha, hb, q⟩ := h
  walk_at "sts"
  refine L_isi (tyx_T ha) (b := true) (by decide +kernel) ?_
  walk_at "sts"
  refine L_lenT ha ?_
  walk_at "sts"
  refine L_ndF rfl ?_
  walk_at "sts"
  refine L_ixT ha rfl ?_
  walk_at "sts"
  refine L_ixT ha rfl ?_
  walk_at "sts"
  refine L_eqR (d := .tuple [.int x, .int y]) (.tup ha (.cons (.int _) (.cons (.int _) .nil))) (.tup hb (.cons (.int _) (.cons (.int _) .nil))) (shp_tup (n := 0) (shp_cons shp_int (shp_cons shp_int shp_nil))).ok ?_
  exact q
theorem hitR {K : PySem.W.Frag} {H : Hp} {us : List V} {rows : List (List (Int × Int))} (hA : DpAll K H us (rows.map d2r)) {i : Nat} {x : V} (hx : us[i]? = some x) : ∃ r a vs, rows[i]? = some r ∧ x = V.ref a ∧ SqL K H a vs ∧ DpAll K H vs (r.map d2) := by
  obtain ⟨d, h1, h2⟩ := hA.of hx
  rw [List.getElem?_map] at h1
  obtain ⟨r, h3, rfl⟩ := Option.map_eq_some_iff.mp h1
  obtain ⟨a, xs, rfl, h4, h5⟩ := of_lst h2
  exact ⟨r, a, xs, h3, rfl, h4, h5⟩
theorem dpLen {K : PySem.W.Frag} {H : Hp} : ∀ {us : List V} {ds : List PyData}, DpAll K H us ds → us.length = ds.length
  | _, [], h => by cases h; rfl
  | _, d :: ds, h => by
    cases h with | cons h1 h2 => rw [List.length_cons, List.length_cons, dpLen h2]
def sp__law_matrix (K : PySem.W.Frag) (mg : Str → Option Value) : Sp := fun vs H Q _ => match vs with | [.ref a, .ref b] => ∃ (rows : List (List (Int × Int))) (us ws : List V), SqL K H a us ∧ SqL K H b ws ∧ DpAll K H us (rows.map d2r) ∧ DpAll K H ws (rows.map d2r) ∧ rows.length ≤ 24 ∧ (∀ r ∈ rows, r.length ≤ 24) ∧ ∀ H', Same H H' → Q (.bl true) H' | _ => False
theorem q__law_matrix {H : Hp} {Q : VK} {E : XK} {a : Addr} {b : Addr} (q : ∃ (rows : List (List (Int × Int))) (us ws : List V), SqL K H a us ∧ SqL K H b ws ∧ DpAll K H us (rows.map d2r) ∧ DpAll K H ws (rows.map d2r) ∧ rows.length ≤ 24 ∧ (∀ r ∈ rows, r.length ≤ 24) ∧ ∀ H', Same H H' → Q (.bl true) H') : sp__law_matrix K mg [.ref a, .ref b] H Q E := q
local macro_rules | `(tactic| walk_at "op") => `(tactic| with_reducible refine q__law_matrix ?_)
theorem c__law_matrix (T : Txt K mg base) : Cal P w K mg base 3 "_law_matrix" (sp__law_matrix K mg) := by
  refine T.d__law_matrix.cal (k := 2) sc__law_matrix (by intro vs H Q E h; unfold sp__law_matrix at h; split at h <;> first | rfl | exact h.elim) fun f cdv A outer s H vs Q E hr h => ?_
  refine ⟨_, (pss_cons (ps_if (PW.pt (pw_or (pt_not (pt_val (pe_callB call_isi (by rfl) T.n_isinstance (by decide +kernel) (pa_cons (pv 0) (pa_cons (pe_ty "list" (by rfl) T.n_list (by decide +kernel)) pa_nil))))) (pw_or1 (pt_cmpR (op_neA hr) (pe_callB call_lenA (by rfl) T.n_len (by decide +kernel) (pa_cons (pv 0) pa_nil)) (pe_callB call_lenA (by rfl) T.n_len (by decide +kernel) (pa_cons (pv 1) pa_nil)) (nomark _)))))
    (pss_one (ps_ret pe_bl))
    pss_nil)
    (pss_cons (ps_for PassesOwn.never rfl (pi_zip (by rfl) T.n_zip (pa_cons (pv 0) (pa_cons (pv 1) pa_nil))) (pg_tup rfl (pgs_cons (pg_name (i := 2) sc__law_matrix.nd rfl (.inl rfl)) (pgs_cons (pg_name (i := 3) sc__law_matrix.nd rfl (.inl rfl)) pgs_nil)))
    (pss_cons (ps_if (PW.pt (pw_or (pt_not (pt_val (pe_callB call_isi (by rfl) T.n_isinstance (by decide +kernel) (pa_cons (pv 2) (pa_cons (pe_ty "list" (by rfl) T.n_list (by decide +kernel)) pa_nil))))) (pw_or1 (pt_cmpR (op_neA hr) (pe_callB call_lenA (by rfl) T.n_len (by decide +kernel) (pa_cons (pv 2) pa_nil)) (pe_callB call_lenA (by rfl) T.n_len (by decide +kernel) (pa_cons (pv 3) pa_nil)) (nomark _)))))
    (pss_one (ps_ret pe_bl))
    pss_nil)
    (pss_one (ps_for PassesOwn.never rfl (pi_zip (by rfl) T.n_zip (pa_cons (pv 2) (pa_cons (pv 3) pa_nil))) (pg_tup rfl (pgs_cons (pg_name (i := 4) sc__law_matrix.nd rfl (.inl rfl)) (pgs_cons (pg_name (i := 5) sc__law_matrix.nd rfl (.inl rfl)) pgs_nil)))
    (pss_one (ps_if (pt_not (pt_val (pe_c (c__law_fraction T) hr (by decide) (by rfl) (pa_cons (pv 4) (pa_cons (pv 5) pa_nil)))))
    (pss_one (ps_ret pe_bl))
    pss_nil))))))
    (pss_one (ps_ret pe_bl)))), ?_⟩
  try simp only [cxOf_K, cxOf_K', cxOf_mg, cxOf_mg']
  unfold sp__law_matrix at h
  split at h
  case h_2 => exact h.elim
  rename_i a b
  rw [show L2.start ["_law_found", "_law_due", "_law_row_here", "_law_others", "_law_one", "_law_other"] [V.ref a, V.ref b] = [some (V.ref a), some (V.ref b), none, none, none, none] from rfl]
  obtain ⟨rows, us, ws, ha, hb, dA, dB, hl, hr, q⟩ := h
  have lA := dpLen dA
  have lB := dpLen dB
  rw [List.length_map] at lA lB
  walk_at "sts"
  refine L_isi (tyx_L ha) (b := true) (by decide +kernel) ?_
  walk_at "sts"
  refine L_lenL ha ?_
  walk_at "sts"
  refine L_lenL hb ?_
  walk_at "sts"
  refine L_ndF (by omega) ?_
  walk_at "sts"
  refine L_rz ha hb ?_
  refine f_it (walk_zip (n := rows.length) (by omega)) (fun i σ' H' => ∃ v2 v3 v4 v5 : Option V, σ' = [some (.ref a), some (.ref b), v2, v3, v4, v5] ∧ Same H H') ⟨_, _, _, _, rfl, .refl _⟩ (fun i σ' H' _ ⟨_, _, _, _, _, e⟩ => ⟨e.seq ha, e.seq hb⟩) ?_ ?_
  · rintro i x σ' H' H'' hi ⟨v2, v3, v4, v5, rfl, s⟩ ⟨T1, y, z, rfl, hT, rfl, hy, hz⟩
    obtain ⟨r, a1, vs1, hr1, rfl, h1, d1⟩ := hitR dA hy
    obtain ⟨r2, a2, vs2, hr2, rfl, h2, d2'⟩ := hitR dB hz
    rw [hr1] at hr2
    cases hr2
    have rl := hr r (List.mem_of_getElem? hr1)
    have l1 := dpLen d1
    have l2 := dpLen d2'
    rw [List.length_map] at l1 l2
    have s4 := same_upd (o := HO.tup [V.ref a1, V.ref a2]) s hT
    refine L_gTup (.of upd_same) rfl ?_
    generalize upd H' T1 (HO.tup [V.ref a1, V.ref a2]) = H4 at s4 ⊢
    walk_at "sts"
    refine L_isi (tyx_L (s4.seq h1)) (b := true) (by decide +kernel) ?_
    walk_at "sts"
    refine L_lenL (s4.seq h1) ?_
    walk_at "sts"
    refine L_lenL (s4.seq h2) ?_
    walk_at "sts"
    refine L_ndF (by omega) ?_
    walk_at "sts"
    refine L_rz (s4.seq h1) (s4.seq h2) ?_
    refine f_it (walk_zip (n := r.length) (by omega)) (fun j σ' H' => ∃ v4 v5 : Option V, σ' = [some (.ref a), some (.ref b), some (.ref a1), some (.ref a2), v4, v5] ∧ Same H H') ⟨_, _, rfl, s4⟩ (fun j σ' H' _ ⟨_, _, _, e⟩ => ⟨e.seq h1, e.seq h2⟩) ?_ ?_
    · rintro j x σ' H5 H6 hj ⟨v4, v5, rfl, s5⟩ ⟨T2, y, z, rfl, hT2, rfl, hy2, hz2⟩
      obtain ⟨p, t1, hp1, rfl, g1⟩ := hit2 d1 hy2
      obtain ⟨p2, t2, hp2, rfl, g2⟩ := hit2 d2' hz2
      rw [hp1] at hp2
      cases hp2
      have s6 := same_upd (o := HO.tup [V.ref t1, V.ref t2]) s5 hT2
      refine L_gTup (.of upd_same) rfl ?_
      generalize upd H5 T2 (HO.tup [V.ref t1, V.ref t2]) = H7 at s6 ⊢
      walk_at "sts"
      refine ⟨p.1, p.2, s6.seqT g1, s6.seqT g2, ?_⟩
      walk_at "sts"
      exact ⟨_, _, rfl, s6⟩
    · rintro σ' H5 ⟨v4, v5, rfl, s5⟩
      walk_at "sts"
      exact ⟨_, _, _, _, rfl, s5⟩
  · rintro σ' H5 ⟨v2, v3, v4, v5, rfl, s5⟩
    walk_at "sts"
    exact q _ s5
/-! rationals that are whole; quotients -/
def isI (r : Rat) : Prop := ∃ z : Int, r = (z : Rat)
theorem isI_mul {a b : Rat} (h : isI a) (k : isI b) : isI (a * b) := by
  obtain ⟨x, rfl⟩ := h
  obtain ⟨y, rfl⟩ := k
  exact ⟨x * y, by rw [Rat.intCast_mul]⟩
theorem isI_add {a b : Rat} (h : isI a) (k : isI b) : isI (a + b) := by
  obtain ⟨x, rfl⟩ := h
  obtain ⟨y, rfl⟩ := k
  exact ⟨x + y, by rw [Rat.intCast_add]⟩
theorem isI_sub {a b : Rat} (h : isI a) (k : isI b) : isI (a - b) := by
  obtain ⟨x, rfl⟩ := h
  obtain ⟨y, rfl⟩ := k
  exact ⟨x - y, by rw [Rat.intCast_sub]⟩
theorem isI_0 : isI 0 := ⟨0, rfl⟩
theorem isI_int (z : Int) : isI (z : Rat) := ⟨z, rfl⟩
theorem iq_pos {L : Int} (h : 0 < L) : (0 : Rat) < (L : Rat) := Rat.intCast_pos.mpr h
theorem div_pos' {a b : Rat} (ha : 0 < a) (hb : 0 < b) : 0 < a / b := by
  rw [Rat.lt_div_iff hb]
  grind
theorem div_nn {a b : Rat} (ha : 0 ≤ a) (hb : 0 < b) : 0 ≤ a / b := by
  rcases Rat.le_iff_lt_or_eq.mp ha with h | h
  · exact Rat.le_of_lt (div_pos' h hb)
  · rw [← h]
    grind
theorem div_le1 {a b : Rat} (h : a ≤ b) (hb : 0 < b) : a / b ≤ 1 := by
  have e : a / b * b = a := by grind
  rcases (Rat.le_total : a / b ≤ 1 ∨ 1 ≤ a / b) with z | z
  · exact z
  · have : b ≤ a / b * b := by
      have := Rat.mul_le_mul_of_nonneg_right z (Rat.le_of_lt hb)
      grind
    have : a / b = 1 := by
      have hne : b ≠ 0 := by grind
      have : a = b := by grind
      rw [this]
      grind
    grind
theorem bdq_isI {r : Rat} {D : Int} {n : Nat} (h0 : 0 < D) (hD : D ≤ 2 ^ n) (hi : isI (r * D)) (r0 : 0 ≤ r) (r1 : r ≤ 1) : BdQ (n + 1) r := by
  obtain ⟨z, hz⟩ := hi
  have hDq := iq_pos h0
  have e : r = (z : Rat) / D := by
    rw [← hz]
    grind
  have z0 : 0 ≤ z := by
    have : (0 : Rat) ≤ (z : Rat) := by rw [← hz]; exact Rat.mul_nonneg r0 (Rat.le_of_lt hDq)
    exact Rat.intCast_nonneg.mp this
  have z1 : z ≤ D := by
    have : (z : Rat) ≤ (D : Rat) := by
      rw [← hz]
      have := Rat.mul_le_mul_of_nonneg_right r1 (Rat.le_of_lt hDq)
      grind
    exact Rat.intCast_le_intCast.mp this
  have p2 : (2 : Int) ^ n < 2 ^ (n + 1) := by
    have : (0 : Int) < 2 ^ n := Int.pow_pos (by decide)
    rw [Int.pow_succ]
    omega
  have bd : ∀ x : Int, 0 ≤ x → x ≤ D → Bd (n + 1) x := fun x h1 h2 => by
    unfold Bd
    have : (x.natAbs : Int) < ((2 ^ (n + 1) : Nat) : Int) := by
      rw [Int.natCast_pow]
      show (x.natAbs : Int) < (2 : Int) ^ (n + 1)
      omega
    exact Int.ofNat_lt.mp this
  exact bdq_of (by omega) e (bd z z0 z1) (bd D (by omega) (by omega))
theorem pow32 (n : Nat) : (2 : Int) ^ (32 * (n + 1)) = 2 ^ (32 * n) * 4294967296 := by
  rw [Nat.mul_succ, Int.pow_add]
  rfl
theorem grow32 {n : Nat} {D d : Int} (d0 : 0 < D) (d1 : D ≤ 2 ^ (32 * n)) (e0 : 0 < d) (e1 : d ≤ 4294967296) : 0 < D * d ∧ D * d ≤ 2 ^ (32 * (n + 1)) := by
  rw [pow32]
  exact ⟨Int.mul_pos d0 e0, Int.mul_le_mul d1 e1 (by omega) (by omega)⟩
theorem bdq_mul {n m : Nat} {a b : Rat} (h : BdQ n a) (k : BdQ m b) : BdQ (n + m) (a * b) := by
  have e := q_mul a b
  have hd : (qt a).2 * (qt b).2 ≠ 0 := Int.mul_ne_zero (by have := q_dp a; show (a.den : Int) ≠ 0; omega) (by have := q_dp b; show (b.den : Int) ≠ 0; omega)
  have := shr_bd hd (h.1.mul k.1) (h.2.mul k.2)
  rw [e] at this
  exact this
/-- a fraction in the heap -/
def QtA (K : PySem.W.Frag) (H : Hp) (a : Addr) (r : Rat) : Prop := SqT K H a [.int (qt r).1, .int (qt r).2]
def sp__law_plus (K : PySem.W.Frag) (mg : Str → Option Value) : Sp := fun vs H Q _ => match vs with | [.ref a, .ref b] => ∃ r s : Rat, QtA K H a r ∧ QtA K H b s ∧ BdQ 990 r ∧ BdQ 990 s ∧ NewT H [.int (qt (r + s)).1, .int (qt (r + s)).2] Q | _ => False
theorem q__law_plus {H : Hp} {Q : VK} {E : XK} {a : Addr} {b : Addr} (q : ∃ r s : Rat, QtA K H a r ∧ QtA K H b s ∧ BdQ 990 r ∧ BdQ 990 s ∧ NewT H [.int (qt (r + s)).1, .int (qt (r + s)).2] Q) : sp__law_plus K mg [.ref a, .ref b] H Q E := q
local macro_rules | `(tactic| walk_at "op") => `(tactic| with_reducible refine q__law_plus ?_)
theorem c__law_plus (T : Txt K mg base) : Cal P w K mg base 2 "_law_plus" (sp__law_plus K mg) := by
  refine T.d__law_plus.cal (k := 1) sc__law_plus (by intro vs H Q E h; unfold sp__law_plus at h; split at h <;> first | rfl | exact h.elim) fun f cdv A outer s H vs Q E hr h => ?_
  refine ⟨_, (pss_one (ps_ret (pe_c (c__law_low T) hr (by decide) (by rfl) (pa_cons (pe_op op_addA (pe_op op_mulA (pe_ix ix_seq (pv 0) pe_int (fun _ _ => rfl)) (pe_ix ix_seq (pv 1) pe_int (fun _ _ => rfl))) (pe_op op_mulA (pe_ix ix_seq (pv 1) pe_int (fun _ _ => rfl)) (pe_ix ix_seq (pv 0) pe_int (fun _ _ => rfl)))) (pa_cons (pe_op op_mulA (pe_ix ix_seq (pv 0) pe_int (fun _ _ => rfl)) (pe_ix ix_seq (pv 1) pe_int (fun _ _ => rfl))) pa_nil))))), ?_⟩
  try simp only [cxOf_K, cxOf_K', cxOf_mg, cxOf_mg']
  unfold sp__law_plus at h
  split at h
  case h_2 => exact h.elim
  rename_i a b
  rw [show L2.start ["_law_one", "_law_other"] [V.ref a, V.ref b] = [some (V.ref a), some (V.ref b)] from rfl]
  obtain ⟨r, s, ha, hb, ⟨r1, r2⟩, ⟨s1, s2⟩, q⟩ := h
  walk_at "sts"
  refine L_ixT ha rfl ?_
  walk_at "sts"
  refine L_ixT hb rfl ?_
  refine L_mulI (r1.cmul s2) ?_
  walk_at "sts"
  refine L_ixT hb rfl ?_
  walk_at "sts"
  refine L_ixT ha rfl ?_
  refine L_mulI (s1.cmul r2) ?_
  walk_at "sts"
  refine L_ixT ha rfl ?_
  walk_at "sts"
  refine L_ixT hb rfl ?_
  refine L_mulI (r2.cmul s2) ?_
  walk_at "sts"
  have hp : 0 < (qt r).2 * (qt s).2 := Int.mul_pos (q_dp r) (q_dp s)
  refine ⟨hp, (r2.mul s2).mono (by decide), ?_⟩
  rw [← shr_low hp, q_add]
  exact q
def sp__law_times (K : PySem.W.Frag) (mg : Str → Option Value) : Sp := fun vs H Q _ => match vs with | [.ref a, .ref b] => ∃ r s : Rat, QtA K H a r ∧ QtA K H b s ∧ BdQ 990 r ∧ BdQ 990 s ∧ NewT H [.int (qt (r * s)).1, .int (qt (r * s)).2] Q | _ => False
theorem q__law_times {H : Hp} {Q : VK} {E : XK} {a : Addr} {b : Addr} (q : ∃ r s : Rat, QtA K H a r ∧ QtA K H b s ∧ BdQ 990 r ∧ BdQ 990 s ∧ NewT H [.int (qt (r * s)).1, .int (qt (r * s)).2] Q) : sp__law_times K mg [.ref a, .ref b] H Q E := q
local macro_rules | `(tactic| walk_at "op") => `(tactic| with_reducible refine q__law_times ?_)
theorem c__law_times (T : Txt K mg base) : Cal P w K mg base 2 "_law_times" (sp__law_times K mg) := by
  refine T.d__law_times.cal (k := 1) sc__law_times (by intro vs H Q E h; unfold sp__law_times at h; split at h <;> first | rfl | exact h.elim) fun f cdv A outer s H vs Q E hr h => ?_
  refine ⟨_, (pss_one (ps_ret (pe_c (c__law_low T) hr (by decide) (by rfl) (pa_cons (pe_op op_mulA (pe_ix ix_seq (pv 0) pe_int (fun _ _ => rfl)) (pe_ix ix_seq (pv 1) pe_int (fun _ _ => rfl))) (pa_cons (pe_op op_mulA (pe_ix ix_seq (pv 0) pe_int (fun _ _ => rfl)) (pe_ix ix_seq (pv 1) pe_int (fun _ _ => rfl))) pa_nil))))), ?_⟩
  try simp only [cxOf_K, cxOf_K', cxOf_mg, cxOf_mg']
  unfold sp__law_times at h
  split at h
  case h_2 => exact h.elim
  rename_i a b
  rw [show L2.start ["_law_one", "_law_other"] [V.ref a, V.ref b] = [some (V.ref a), some (V.ref b)] from rfl]
  obtain ⟨r, s, ha, hb, ⟨r1, r2⟩, ⟨s1, s2⟩, q⟩ := h
  walk_at "sts"
  refine L_ixT ha rfl ?_
  walk_at "sts"
  refine L_ixT hb rfl ?_
  refine L_mulI (r1.cmul s1) ?_
  walk_at "sts"
  refine L_ixT ha rfl ?_
  walk_at "sts"
  refine L_ixT hb rfl ?_
  refine L_mulI (r2.cmul s2) ?_
  walk_at "sts"
  have hp : 0 < (qt r).2 * (qt s).2 := Int.mul_pos (q_dp r) (q_dp s)
  refine ⟨hp, (r2.mul s2).mono (by decide), ?_⟩
  rw [← shr_low hp, q_mul]
  exact q
/-! what is kept, with its share: a table by what is kept -/
abbrev Wt := List (List Int × Rat)
def kL (k : List Int) : List Key := k.map Sum.inl
theorem kL_inj {k l : List Int} : kL k = kL l ↔ k = l := by
  unfold kL
  constructor
  · intro h
    exact (List.map_inj_right (fun _ _ e => Sum.inl.inj e)).mp h
  · rintro rfl
    rfl
theorem kL_v (k : List Int) : (kL k).map kV = k.map V.int := by
  unfold kL
  rw [List.map_map]
  rfl
def evW (g : List Int → Rat) : Wt → Rat
  | [] => 0
  | z :: Z => z.2 * g z.1 + evW g Z
def addW : Wt → List Int → Rat → Wt
  | [], k, v => [(k, 0 + v)]
  | z :: Z, k, v => if z.1 = k then (z.1, z.2 + v) :: Z else z :: addW Z k v
theorem evW_add (g : List Int → Rat) : ∀ (Z : Wt) (k : List Int) (v : Rat), evW g (addW Z k v) = evW g Z + v * g k
  | [], k, v => by
    show (0 + v) * g k + 0 = 0 + v * g k
    grind
  | z :: Z, k, v => by
    have ih := evW_add g Z k v
    unfold addW
    split
    · rename_i c
      subst c
      show (z.2 + v) * g z.1 + evW g Z = z.2 * g z.1 + evW g Z + v * g z.1
      grind
    · show z.2 * g z.1 + evW g (addW Z k v) = z.2 * g z.1 + evW g Z + v * g k
      rw [ih]
      grind
theorem evW_snoc (g : List Int → Rat) : ∀ (Z : Wt) (z : List Int × Rat), evW g (Z ++ [z]) = evW g Z + z.2 * g z.1
  | [], z => by
    show z.2 * g z.1 + 0 = 0 + z.2 * g z.1
    grind
  | y :: Z, z => by
    show y.2 * g y.1 + evW g (Z ++ [z]) = y.2 * g y.1 + evW g Z + z.2 * g z.1
    rw [evW_snoc g Z z]
    grind
def rowsW (W : Wt) : Wt := W.foldl (fun Z w => addW Z w.1 w.2) []
theorem evW_rows (g : List Int → Rat) (W : Wt) : evW g (rowsW W) = evW g W := by
  have key : ∀ (W acc : Wt), evW g (W.foldl (fun Z w => addW Z w.1 w.2) acc) = evW g acc + evW g W := by
    intro W
    induction W with
    | nil => intro acc; show evW g acc = evW g acc + 0; grind
    | cons w W ih =>
      intro acc
      rw [List.foldl_cons, ih, evW_add]
      show _ = evW g acc + (w.2 * g w.1 + evW g W)
      grind
  have := key W []
  rw [show evW g ([] : Wt) = 0 from rfl] at this
  unfold rowsW
  rw [this]
  grind
/-- shares that can be summed up -/
structure GoodW (D : Int) (Z : Wt) : Prop where
  p : ∀ z ∈ Z, 0 ≤ z.2 ∧ isI (z.2 * D)
  s : evW (fun _ => 1) Z ≤ 1
theorem mem_addW : ∀ {Z : Wt} {k : List Int} {v : Rat} {z : List Int × Rat}, z ∈ addW Z k v → (∃ y ∈ Z, z.1 = y.1 ∧ (z.2 = y.2 ∨ z.2 = y.2 + v)) ∨ (z.1 = k ∧ z.2 = 0 + v)
  | [], k, v, z, h => by
    rw [addW, List.mem_singleton] at h
    exact .inr (by rw [h]; exact ⟨rfl, rfl⟩)
  | y :: Z, k, v, z, h => by
    unfold addW at h
    split at h
    · rcases List.mem_cons.mp h with rfl | h
      · exact .inl ⟨y, List.mem_cons_self, rfl, .inr rfl⟩
      · exact .inl ⟨z, List.mem_cons_of_mem _ h, rfl, .inl rfl⟩
    · rcases List.mem_cons.mp h with rfl | h
      · exact .inl ⟨_, List.mem_cons_self, rfl, .inl rfl⟩
      · rcases mem_addW h with ⟨w, hw, e⟩ | e
        · exact .inl ⟨w, List.mem_cons_of_mem _ hw, e⟩
        · exact .inr e
theorem keys_addW : ∀ {Z : Wt} {k : List Int} {v : Rat}, (addW Z k v).map (·.1) = if k ∈ Z.map (·.1) then Z.map (·.1) else Z.map (·.1) ++ [k]
  | [], k, v => rfl
  | y :: Z, k, v => by
    have ih := keys_addW (Z := Z) (k := k) (v := v)
    unfold addW
    split
    · rename_i c
      rw [List.map_cons, List.map_cons, if_pos (by rw [c]; exact List.mem_cons_self)]
    · rename_i c
      rw [List.map_cons, List.map_cons, ih]
      by_cases d : k ∈ Z.map (·.1)
      · rw [if_pos d, if_pos (List.mem_cons_of_mem _ d)]
      · rw [if_neg d, if_neg (by
          rw [List.mem_cons]
          rintro (z | z)
          · exact c z.symm
          · exact d z), List.cons_append]
theorem nd_addW {Z : Wt} {k : List Int} {v : Rat} (h : (Z.map (·.1)).Nodup) : ((addW Z k v).map (·.1)).Nodup := by
  rw [keys_addW]
  split
  · exact h
  · rename_i d
    rw [List.nodup_append]
    exact ⟨h, by simp, fun a ha b hb => by rw [List.mem_singleton.mp hb]; exact fun e => d (e ▸ ha)⟩
theorem len_addW {Z : Wt} {k : List Int} {v : Rat} : (addW Z k v).length ≤ Z.length + 1 := by
  have h := congrArg List.length (keys_addW (Z := Z) (k := k) (v := v))
  rw [List.length_map] at h
  rw [h]
  split
  · rw [List.length_map]; omega
  · rw [List.length_append, List.length_map]; exact Nat.le_refl _
theorem GoodW.part {D : Int} {Z : Wt} {g : List Int → Rat} (d0 : 0 < D) (d1 : D ≤ 2 ^ 900) (h : GoodW D Z) (hg : ∀ k, g k = 0 ∨ g k = 1) (i : Nat) : BdQ 990 (evW g (Z.take i)) := by
  have key : ∀ Y : Wt, (∀ z ∈ Y, 0 ≤ z.2 ∧ isI (z.2 * (D : Rat))) → 0 ≤ evW g Y ∧ evW g Y ≤ evW (fun _ => 1) Y ∧ isI (evW g Y * (D : Rat)) ∧ 0 ≤ evW (fun _ => 1) Y := fun Y => by
    induction Y with
    | nil =>
      intro _
      refine ⟨by show (0 : Rat) ≤ 0; grind, by show (0 : Rat) ≤ 0; grind, by show isI (0 * _); rw [Rat.zero_mul]; exact isI_0, by show (0 : Rat) ≤ 0; grind⟩
    | cons y Y ih =>
      intro hy
      obtain ⟨a1, a2, a3, a4⟩ := ih fun z hz => hy z (List.mem_cons_of_mem _ hz)
      obtain ⟨b1, b2⟩ := hy y List.mem_cons_self
      have e : evW g (y :: Y) = y.2 * g y.1 + evW g Y := rfl
      have e1 : evW (fun _ => 1) (y :: Y) = y.2 * 1 + evW (fun _ => 1) Y := rfl
      rw [e, e1]
      rcases hg y.1 with z | z
      · rw [z]
        refine ⟨by grind, by grind, ?_, by grind⟩
        have : (y.2 * 0 + evW g Y) * (D : Rat) = evW g Y * (D : Rat) := by grind
        rw [this]
        exact a3
      · rw [z]
        refine ⟨by grind, by grind, ?_, by grind⟩
        have : (y.2 * 1 + evW g Y) * (D : Rat) = y.2 * (D : Rat) + evW g Y * (D : Rat) := by grind
        rw [this]
        exact isI_add b2 a3
  obtain ⟨a1, a2, a3, a4⟩ := key (Z.take i) fun z hz => h.p z (List.mem_of_mem_take hz)
  have tl : evW (fun _ => 1) (Z.take i) ≤ evW (fun _ => 1) Z := by
    have hz := h.p
    clear h a1 a2 a3 a4
    induction Z generalizing i with
    | nil => rw [List.take_nil]; grind
    | cons z Z ih =>
      have k4 := (key (z :: Z) hz).2.2.2
      cases i with
      | zero => exact k4
      | succ i =>
        rw [List.take_succ_cons]
        have := ih i fun y hy => hz y (List.mem_cons_of_mem _ hy)
        show z.2 * 1 + evW (fun _ => 1) (Z.take i) ≤ z.2 * 1 + evW (fun _ => 1) Z
        grind
  have hs := h.s
  exact (bdq_isI d0 d1 a3 a1 (by grind)).mono (by decide)
theorem GoodW.le1 {D : Int} : ∀ {Z : Wt} {z : List Int × Rat}, (∀ z ∈ Z, 0 ≤ z.2) → z ∈ Z → z.2 ≤ evW (fun _ => 1) Z
  | y :: Z, z, h, hz => by
    have h0 : ∀ Y : Wt, (∀ z ∈ Y, 0 ≤ z.2) → 0 ≤ evW (fun _ => 1) Y := fun Y => by
      induction Y with
      | nil => intro _; show (0 : Rat) ≤ 0; grind
      | cons y Y ih =>
        intro h
        have h1 := ih fun z hz => h z (List.mem_cons_of_mem _ hz)
        have h2 := h y List.mem_cons_self
        show 0 ≤ y.2 * 1 + evW (fun _ => 1) Y
        grind
    have h1 := h0 Z fun z hz => h z (List.mem_cons_of_mem _ hz)
    have h2 := h y List.mem_cons_self
    show z.2 ≤ y.2 * 1 + evW (fun _ => 1) Z
    rcases List.mem_cons.mp hz with rfl | hz
    · grind
    · have := GoodW.le1 (D := D) (fun z hz => h z (List.mem_cons_of_mem _ hz)) hz
      grind
theorem GoodW.bd {D : Int} {Z : Wt} (d0 : 0 < D) (d1 : D ≤ 2 ^ 900) (h : GoodW D Z) {z : List Int × Rat} (hz : z ∈ Z) : BdQ 990 z.2 := by
  obtain ⟨a, b⟩ := h.p z hz
  have := GoodW.le1 (D := D) (fun y hy => (h.p y hy).1) hz
  have hs := h.s
  exact (bdq_isI d0 d1 b a (by grind)).mono (by decide)
theorem GoodW.rows {D : Int} {W : Wt} (h : GoodW D W) (i : Nat) (hi : i ≤ W.length) : GoodW D (rowsW (W.take i)) ∧ ((rowsW (W.take i)).map (·.1)).Nodup ∧ (rowsW (W.take i)).length ≤ i := by
  have key : ∀ i, i ≤ W.length → (∀ z ∈ rowsW (W.take i), 0 ≤ z.2 ∧ isI (z.2 * (D : Rat))) ∧ ((rowsW (W.take i)).map (·.1)).Nodup ∧ (rowsW (W.take i)).length ≤ i := by
    intro i
    induction i with
    | zero => intro _; rw [List.take_zero]; exact ⟨(fun _ z => nomatch z), .nil, Nat.le_refl _⟩
    | succ i ih =>
      intro hi
      obtain ⟨a, b, c⟩ := ih (by omega)
      have e : rowsW (W.take (i + 1)) = addW (rowsW (W.take i)) W[i].1 W[i].2 := by
        rw [show W.take (i + 1) = W.take i ++ [W[i]] by rw [List.take_succ, List.getElem?_eq_getElem (by omega)]; rfl]
        unfold rowsW
        rw [List.foldl_append]
        rfl
      rw [e]
      obtain ⟨w0, w1⟩ := h.p W[i] (List.getElem_mem _)
      refine ⟨fun z hz => ?_, nd_addW b, by have := len_addW (Z := rowsW (W.take i)) (k := W[i].1) (v := W[i].2); omega⟩
      rcases mem_addW hz with ⟨y, hy, _, e | e⟩ | ⟨_, e⟩
      · rw [e]; exact a y hy
      · obtain ⟨y0, y1⟩ := a y hy
        rw [e]
        exact ⟨by grind, by rw [Rat.add_mul]; exact isI_add y1 w1⟩
      · have e2 : 0 + W[i].2 = W[i].2 := by grind
        rw [e, e2]
        exact ⟨w0, w1⟩
  obtain ⟨a, b, c⟩ := key i hi
  refine ⟨⟨a, ?_⟩, b, c⟩
  rw [evW_rows]
  have hz := h.p
  have hs := h.s
  have tl : ∀ (W : Wt) (i : Nat), (∀ z ∈ W, 0 ≤ z.2) → evW (fun _ => 1) (W.take i) ≤ evW (fun _ => 1) W := by
    intro W
    induction W with
    | nil => intro i _; rw [List.take_nil]; grind
    | cons z Z ih =>
      intro i hz
      have h0 : ∀ Y : Wt, (∀ z ∈ Y, 0 ≤ z.2) → 0 ≤ evW (fun _ => 1) Y := fun Y => by
        induction Y with
        | nil => intro _; show (0 : Rat) ≤ 0; grind
        | cons y Y ih =>
          intro h
          have h1 := ih fun z hz => h z (List.mem_cons_of_mem _ hz)
          have h2 := h y List.mem_cons_self
          show 0 ≤ y.2 * 1 + evW (fun _ => 1) Y
          grind
      cases i with
      | zero => exact h0 _ hz
      | succ i =>
        rw [List.take_succ_cons]
        have := ih i fun y hy => hz y (List.mem_cons_of_mem _ hy)
        show z.2 * 1 + evW (fun _ => 1) (Z.take i) ≤ z.2 * 1 + evW (fun _ => 1) Z
        grind
  have := tl W i fun z hz' => (hz z hz').1
  grind
def RtP (K : PySem.W.Frag) (H : Hp) (kv : List Key × V) (z : List Int × Rat) : Prop := kv.1 = kL z.1 ∧ ∃ t, kv.2 = .ref t ∧ QtA K H t z.2
theorem RtP.keep {K : PySem.W.Frag} {H H' : Hp} {d : Addr} {us : List (List Key × V)} {kv : List Key × V} {z : List Int × Rat} (h : RtP K H kv z) (hd : H d = some (.dT us)) (k : ∀ b o, H b = some o → b ≠ d → H' b = some o) : RtP K H' kv z := by
  obtain ⟨e, t, e2, ht⟩ := h
  refine ⟨e, t, e2, ?_⟩
  rcases ht with (ht | ⟨o, ht⟩) | ht
  · exact .of (k _ _ ht fun z => by rw [z, hd] at ht; cases ht)
  · exact .inl (.inr ⟨o, k _ _ ht fun z => by rw [z, hd] at ht; cases ht⟩)
  · exact .inr ht
theorem RtP.same {K : PySem.W.Frag} {H H' : Hp} {kv : List Key × V} {z : List Int × Rat} (h : RtP K H kv z) (s : Same H H') : RtP K H' kv z := by
  obtain ⟨e, t, e2, ht⟩ := h
  exact ⟨e, t, e2, s.seqT ht⟩
def lookW : Wt → List Int → Rat
  | [], _ => 0
  | z :: Z, k => if z.1 = k then z.2 else lookW Z k
theorem lookW_at : ∀ {Z : Wt} {k : List Int}, k ∈ Z.map (·.1) → ∃ z ∈ Z, z.1 = k ∧ z.2 = lookW Z k
  | [], _, h => nomatch h
  | z :: Z, k, h => by
    unfold lookW
    by_cases c : z.1 = k
    · rw [if_pos c]
      exact ⟨z, List.mem_cons_self, c, rfl⟩
    · rw [if_neg c]
      rw [List.map_cons, List.mem_cons] at h
      obtain ⟨y, hy, e⟩ := lookW_at (h.resolve_left fun z => c z.symm)
      exact ⟨y, List.mem_cons_of_mem _ hy, e⟩
theorem rt_val {K : PySem.W.Frag} {H : Hp} {k : List Int} : ∀ {kvs : List (List Key × V)} {Z : Wt}, Paired (RtP K H) kvs Z → (valV kvs (kL k) = none ∧ k ∉ Z.map (·.1) ∧ lookW Z k = 0) ∨ ∃ t, valV kvs (kL k) = some (.ref t) ∧ QtA K H t (lookW Z k) ∧ k ∈ Z.map (·.1)
  | _, _, .nil => .inl ⟨rfl, (fun h => nomatch h), rfl⟩
  | _, _, .cons (a := p) (b := z) (l₁ := kvs) (l₂ := Z) h t => by
    obtain ⟨e, t0, e2, ht⟩ := h
    by_cases c : z.1 = k
    · refine .inr ⟨t0, ?_, ?_, ?_⟩
      · rw [valV_pos (by rw [e, c]), e2]
      · unfold lookW
        rw [if_pos c]
        exact ht
      · rw [List.map_cons, c]
        exact List.mem_cons_self
    · rw [valV_neg (fun y => c (by rw [e] at y; exact kL_inj.mp y))]
      have l : lookW (z :: Z) k = lookW Z k := by
        show (if z.1 = k then z.2 else lookW Z k) = _
        rw [if_neg c]
      rw [l]
      rcases rt_val t with ⟨h1, h2, h3⟩ | ⟨t1, h1, h2, h3⟩
      · refine .inl ⟨h1, fun y => ?_, h3⟩
        rw [List.map_cons, List.mem_cons] at y
        exact y.elim (fun y => c y.symm) h2
      · exact .inr ⟨t1, h1, h2, by rw [List.map_cons]; exact List.mem_cons_of_mem _ h3⟩
theorem addW_no : ∀ {Z : Wt} {k : List Int} {v : Rat}, k ∉ Z.map (·.1) → addW Z k v = Z ++ [(k, 0 + v)]
  | [], _, _, _ => rfl
  | z :: Z, k, v, h => by
    rw [List.map_cons, List.mem_cons] at h
    unfold addW
    rw [if_neg fun y => h (.inl y.symm), addW_no fun y => h (.inr y)]
    rfl
theorem addW_in : ∀ {Z : Wt} {k : List Int} {v : Rat}, (Z.map (·.1)).Nodup → k ∈ Z.map (·.1) → addW Z k v = Z.map fun z => if z.1 = k then (z.1, lookW Z k + v) else z
  | [], _, _, _, h => nomatch h
  | z :: Z, k, v, n, h => by
    rw [List.map_cons, List.nodup_cons] at n
    rw [List.map_cons, List.mem_cons] at h
    unfold addW
    by_cases c : z.1 = k
    · have l : lookW (z :: Z) k = z.2 := by
        show (if z.1 = k then z.2 else lookW Z k) = _
        rw [if_pos c]
      rw [if_pos c, List.map_cons, if_pos c, l]
      congr 1
      refine (List.map_id' Z).symm.trans (List.map_congr_left fun y hy => ?_)
      rw [if_neg fun e => n.1 (by rw [c, ← e]; exact List.mem_map_of_mem hy)]
    · have l : lookW (z :: Z) k = lookW Z k := by
        show (if z.1 = k then z.2 else lookW Z k) = _
        rw [if_neg c]
      rw [if_neg c, List.map_cons, if_neg c, l, addW_in n.2 (h.resolve_left fun y => c y.symm)]
theorem rt_put {K : PySem.W.Frag} {H : Hp} {k : List Int} {v : Rat} {t : Addr} {kvs : List (List Key × V)} {Z : Wt} (h : Paired (RtP K H) kvs Z) (n : (Z.map (·.1)).Nodup) (ht : QtA K H t (lookW Z k + v)) : Paired (RtP K H) (putK kvs (kL k) (.ref t)) (addW Z k v) := by
  have hv := rt_val (k := k) h
  unfold putK
  rw [valV_any]
  rcases hv with ⟨h1, h2, h3⟩ | ⟨t1, h1, h2, h3⟩
  · rw [h1, if_neg (by simp), addW_no h2]
    rw [h3] at ht
    exact paired_app h (.cons ⟨rfl, t, rfl, ht⟩ .nil)
  · rw [h1, if_pos (show (some (V.ref t1)).isSome = true from rfl), addW_in n h3]
    clear h1 h2 h3 n
    generalize lookW Z k + v = r at ht
    induction h with
    | nil => exact .nil
    | @cons p z kvs Z h1 _ ih =>
      rw [List.map_cons, List.map_cons]
      refine .cons ?_ ih
      obtain ⟨e, t0, e2, h2⟩ := h1
      by_cases c : z.1 = k
      · rw [if_pos c, if_pos (by rw [e, c])]
        exact ⟨e, t, rfl, ht⟩
      · rw [if_neg c, if_neg (fun y => c (by rw [e] at y; exact kL_inj.mp y))]
        exact ⟨e, t0, e2, h2⟩
theorem rt_len {K : PySem.W.Frag} {H : Hp} {kvs : List (List Key × V)} {Z : Wt} (h : Paired (RtP K H) kvs Z) : kvs.length = Z.length := Paired.length h
theorem inV_ints (n : Int) : ∀ ns : List Int, inV (.int n) (ns.map V.int) = decide (n ∈ ns)
  | [] => by simp [inV]
  | k :: ns => by
    have ih := inV_ints n ns
    unfold inV at ih ⊢
    rw [List.map_cons, List.any_cons, ih]
    by_cases e : n = k
    · subst e
      simp [eqV]
    · have e' : ¬ k = n := fun z => e z.symm
      simp [eqV, e, e']
theorem flat_ints : ∀ ns : List Int, (ns.map V.int).all flatV = true
  | [] => rfl
  | _ :: ns => by rw [List.map_cons, List.all_cons, flat_ints ns]; rfl
theorem L_inTi {K : PySem.W.Frag} {H : Hp} {Q : VK} {p : Addr} {z : Int} {ns : List Int} (h : SqT K H p (ns.map V.int)) (q : Q (.bl (decide (z ∈ ns))) H) : aIn K (.int z) (.ref p) H Q := .inr ⟨p, _, rfl, .inr h, rfl, flat_ints _, by rw [if_neg (by decide), inV_ints]; exact q⟩
/-! the ways through a node's dice (wants Nd, told, parts, AtN, AtN.ev, AtN.mu, AtN.shr, AtN.wk) -/
/-- a part of a die: so many sides, and the node behind them -/
def PartN (K : PySem.W.Frag) (mg : Str → Option Value) (P : Addr → Prop) (H : Hp) (v : V) (p : Int × Nd) : Prop := ∃ q x, v = .ref q ∧ H q = some (.tup [.int p.1, x]) ∧ AtN K mg P p.2 x H
theorem PartN.ev {K : PySem.W.Frag} {mg : Str → Option Value} {P : Addr → Prop} {T : List (Addr × Str)} {H H' : Hp} {v : V} {p : Int × Nd} (h : PartN K mg P H v p) (e : Ev T H H') : PartN K mg P H' v p := by
  obtain ⟨q, x, e1, h1, h2⟩ := h
  exact ⟨q, x, e1, e.tup h1, AtN.ev h2 e⟩
theorem PartN.mu {K : PySem.W.Frag} {mg : Str → Option Value} {P : Addr → Prop} {H : Hp} {v : V} {p : Int × Nd} {D : Addr} {us : List V} {o : HO} (h : PartN K mg P H v p) (e : H D = some (.lst us)) (n : ¬ P D) : PartN K mg P (upd H D o) v p := by
  obtain ⟨q, x, e1, h1, h2⟩ := h
  exact ⟨q, x, e1, upd_keep e h1 (fun _ z => nomatch z), AtN.mu h2 e n⟩
theorem PartN.wk {K : PySem.W.Frag} {mg : Str → Option Value} {P P' : Addr → Prop} {H : Hp} {v : V} {p : Int × Nd} (k : ∀ b, P b → P' b) (h : PartN K mg P H v p) : PartN K mg P' H v p := by
  obtain ⟨q, x, e1, h1, h2⟩ := h
  exact ⟨q, x, e1, h1, AtN.wk k h2⟩
/-- a comprehension of new things that may not hold its own list -/
theorem lc_evD {α : Type} {T : List (Addr × Str)} (F : Addr → Hp → V → α → Prop) (st : ∀ D H H' v a, Ev T H H' → F D H v a → F D H' v a) {σ : L2.St} {H : Hp} (up : ∀ H1 D us us' v a, H1 D = some (.lst us) → F D H1 v a → F D (upd H1 D (.lst us')) v a)
     {g : TG} {tt : TT} {te : TE} {J : It} {n : Nat} {G : Hp → Prop} {Y : Nat → Hp → V → Hp → Prop} (w : L2.Walk J n G Y) {vs : List Nat} {Qd : Addr → Hp → Prop} (l : List α) (hl : l.length = n) (hn : n ≤ 1000000) (hG : ∀ H', Ev T H H' → G H')
    (hs : ∀ D us i x H2 H' (R : V → Hp → Prop) (R' : Hp → Prop), H D = none → H2 D = some (.lst us) → i < n → Ev T H H2 → Y i H2 x H' → (∀ v p H4, l[i]? = some p → Ev T H2 H4 → F D H4 v p → R v H4) →
      g x (wipe σ vs) H' fun σ2 H2 => wipe σ2 vs = wipe σ vs ∧ tt σ2 H2 fun b H3 => if b = true then te σ2 H3 R else R' H3)
    (q : ∀ p H' vs, H p = none → Ev T H H' → H' p = some (.lst vs) → Paired (F p H') vs l → Qd p H') :
    ∀ D, H D = none → ∃ W : Nat → Nat → Hp → Prop, (∃ m, W 0 m (upd H D (.lst []))) ∧ ∀ i m H, W i m H →
      (J.stop i H ∧ Qd D H) ∨ (J.go i H ∧ ∃ Nx : Hp → Prop, (∀ H', Nx H' → ∃ m', m' < m ∧ W (i + 1) m' H') ∧ ∀ x H', J.yld i H x H' → g x (wipe σ vs) H' fun σ2 H2 => wipe σ2 vs = wipe σ vs ∧ tt σ2 H2 fun b H3 =>
        if b = true then te σ2 H3 fun y H4 => ∃ acc, H4 D = some (.lst acc) ∧ acc.length < sizeLine ∧ Nx (upd H4 D (.lst (acc ++ [y]))) else Nx H3) := by
  intro D hD
  refine lc_it w (fun i H2 => Ev T H H2 ∧ ∃ us, H2 D = some (.lst us) ∧ Paired (F D H2) us (l.take i)) ⟨.same (same_new hD), [], upd_same, .nil⟩ (fun i H2 _ p => hG H2 p.1) ?_ (fun H2 ⟨p1, us, p2, p3⟩ => q D H2 us hD p1 p2 (by rwa [List.take_of_length_le (by omega)] at p3))
  rintro i x H2 H' hi ⟨p1, us, p2, p3⟩ y
  refine hs D us i x H2 H' _ _ hD p2 hi p1 y (fun v p H4 e s et => ?_)
  have e4 := s.lst p2
  have ln := Paired.length p3
  rw [List.length_take] at ln
  refine ⟨us, e4, sz_lt (by omega), (p1.trans s).mut hD e4, _, upd_same, ?_⟩
  rw [List.take_succ, e]
  exact paired_app (paired_imp2 (fun v p h => up _ _ _ _ _ _ e4 (st _ _ _ _ _ s h)) p3) (.cons (up _ _ _ _ _ _ e4 et) .nil)
def sp_Die_parts (K : PySem.W.Frag) (mg : Str → Option Value) : Sp := fun vs H Q _ => match vs with | [.ref a] => ∃ (P : Addr → Prop) (n : Nd), AtN K mg P n (.ref a) H ∧ told n = none ∧ NL P H ∧ Tabs (tabsL K mg) H ∧ ∀ p1 H' vs, H p1 = none → Ev (tabsL K mg) H H' → H' p1 = some (.lst vs) → Paired (PartN K mg P H') vs (parts n) → Q (.ref p1) H' | _ => False
theorem q_Die_parts {H : Hp} {Q : VK} {E : XK} {a : Addr} (q : ∃ (P : Addr → Prop) (n : Nd), AtN K mg P n (.ref a) H ∧ told n = none ∧ NL P H ∧ Tabs (tabsL K mg) H ∧ ∀ p1 H' vs, H p1 = none → Ev (tabsL K mg) H H' → H' p1 = some (.lst vs) → Paired (PartN K mg P H') vs (parts n) → Q (.ref p1) H') : sp_Die_parts K mg [.ref a] H Q E := q
local macro_rules | `(tactic| walk_at "op") => `(tactic| with_reducible refine q_Die_parts ?_)
theorem c_Die_parts (T : Txt K mg base) : Met P w K mg base 6 (cA mg "Die") "parts" (sp_Die_parts K mg) := by
  refine MethAt.met T.k_Die T.d_Die_parts (k := 5) sc_Die_parts (by intro vs H Q E h; unfold sp_Die_parts at h; split at h <;> first | rfl | exact h.elim) fun f cdv A outer s H vs Q E hr h => ?_
  refine ⟨_, (pss_one (ps_ret (pe_lc (own := [("many", 1), ("make", 2)]) (g := (gTup K 2 (gCons (gName 1) (gCons (gName 2) gNil)))) (tt := tYes) (te := (tTup (tCons (tVar 1) (tCons (tOrE (tClo_few_node_l0 K mg 2) (tOrE (tClo_few_node_l1 K mg 2) (tOrE (tClo_start_part_l0 K mg 2) (tOrE (tClo_loose_die_l0 K mg 2) (tClo_loose_die_l1 K mg 2))))) tNil)))) rfl sc_Die_parts.nd (pi_tup (pe_fld (pv 0) rfl)) (blkOk_by (N := ["self", "many", "make"]) (sc := defScope s_Die_parts) (by decide +kernel)) (fun _ _ _ _ _ => by exact (pg_tup rfl (pgs_cons (pg_name (i := 1) sc_Die_parts.nd rfl (.inl rfl)) (pgs_cons (pg_name (i := 2) sc_Die_parts.nd rfl (.inl rfl)) pgs_nil)))) (fun _ _ _ _ _ => pts_nil) (fun _ _ _ _ _ => by exact (pe_tup (pa_cons (pv 1) (pa_cons (PE.or (pe_clo (i := 2) (c_few_node_l0 T) hr (by decide) rfl (by first | exact Or.inl rfl | exact Or.inr (Or.inl rfl) | exact Or.inr (Or.inr rfl))) (PE.or (pe_clo (i := 2) (c_few_node_l1 T) hr (by decide) rfl (by first | exact Or.inl rfl | exact Or.inr (Or.inl rfl) | exact Or.inr (Or.inr rfl))) (PE.or (pe_clo (i := 2) (c_start_part_l0 T) hr (by decide) rfl (by first | exact Or.inl rfl | exact Or.inr (Or.inl rfl) | exact Or.inr (Or.inr rfl))) (PE.or (pe_clo (i := 2) (c_loose_die_l0 T) hr (by decide) rfl (by first | exact Or.inl rfl | exact Or.inr (Or.inl rfl) | exact Or.inr (Or.inr rfl))) (pe_clo (i := 2) (c_loose_die_l1 T) hr (by decide) rfl (by first | exact Or.inl rfl | exact Or.inr (Or.inl rfl) | exact Or.inr (Or.inr rfl))))))) pa_nil))))))), ?_⟩
  try simp only [cxOf_K, cxOf_K', cxOf_mg, cxOf_mg']
  unfold sp_Die_parts at h
  split at h
  case h_2 => exact h.elim
  rename_i a
  rw [show L2.start ["self", "many", "make"] [V.ref a] = [some (V.ref a), none, none] from rfl]
  obtain ⟨P, n, hat, ht, hNL, hT, q⟩ := h
  obtain ⟨a', dx, p, us, ws0, ea, ha, hp, hl, hP, hW⟩ := at_die hat ht hT hNL
  cases ea
  walk_at "sts"
  refine L_fldv ha T.k_Die T.na_Die_ways rfl ?_
  refine ⟨p, rfl, ⟨_, .of hp⟩, ?_⟩
  have wl : (parts n).length = us.length := by rw [← Paired.length hW, ← Paired.length hP]
  refine lc_evD (T := tabsL K mg) (fun D H v (w : Int × Nd) => PartN K mg (fun b => P b ∧ b ≠ D) H v w) (fun D H H' v w e h => h.ev e) (fun H1 D us us' v w e h => h.mu e (fun z => z.2 rfl)) walk_tup (parts n) wl (by omega) (fun H' e => .of (e.tup hp)) ?_ ?_
  · rintro D us2 j x1 Ha Hb R R' hD eD hj ev ⟨rfl, hx1⟩ q1
    have at2 := AtN.ev (AtN.shr hat hD) ev
    have nl2 : NL (fun b => P b ∧ b ≠ D) _ := fun b hb => ⟨hNL.ev ev b hb, fun z => hb us2 (by rw [z]; exact eD)⟩
    obtain ⟨a2, dx2, p2, us3, ws3, ea2, ha2, hp2, hl2, hP2, hW2⟩ := at_die at2 ht (ev.tb hT) nl2
    cases ea2
    have e1 := ev.ins ha
    rw [ha2] at e1
    cases e1
    have e2 := ev.tup hp
    rw [hp2] at e2
    cases e2
    obtain ⟨w, hw, q0, rfl, hq⟩ := paired_nth hP2 hx1
    obtain ⟨pn, hpn, e3, run⟩ := paired_nth hW2 hw
    refine L_gTup (.of hq) rfl ?_
    walk_at "sts"
    refine ⟨rfl, ?_⟩
    walk_at "sts"
    refine ru_at (run _ .refl _ fun x H2 ev2 atx => ?_) rfl
    walk_at "sts"
    walk_at "nw"
    rename_i p5 hp5 H5 s5 e5
    exact q1 _ pn _ hpn (ev2.trans (.same s5)) ⟨p5, x, rfl, by rw [← e3]; exact e5, AtN.ev atx (Ev.same (T := []) s5)⟩
  intro p1 H1 vs hp1 ev1 e1 hV
  walk_at "sts"
  exact q p1 H1 vs hp1 ev1 e1 (paired_imp2 (fun _ _ h => PartN.wk (fun _ z => z.1) h) hV)
theorem paired_fstW {K : PySem.W.Frag} {mg : Str → Option Value} {P : Addr → Prop} {H : Hp} {ws : List (Int × Addr)} {l : List (Int × Nd)} (h : Paired (WayN K mg P H) ws l) : ws.map (·.1) = l.map (·.1) := by
  induction h with
  | nil => rfl
  | cons h1 _ ih => rw [List.map_cons, List.map_cons, h1.1, ih]
theorem le_sumW : ∀ {l : List Nat} {x : Nat}, x ∈ l → x ≤ l.sum
  | y :: l, x, h => by
    rw [List.sum_cons]
    rcases List.mem_cons.mp h with rfl | h
    · omega
    · have := le_sumW h
      omega
def sidesN (n : Nd) : Int := ((parts n).map (·.1)).sum
def waysN : Nat → Nd → Rat → List (List Int × Rat)
  | 0, n, r => match told n with
    | some ks => [(ks, r)]
    | none => []
  | d + 1, n, r => match told n with
    | some ks => [(ks, r)]
    | none => (parts n).flatMap fun (p : Int × Nd) => waysN d p.2 (r * ((p.1 : Rat) / sidesN n))
/-- a tree of dice that can be gone through -/
def TreeOk : Nat → Nd → Prop
  | 0, n => told n ≠ none
  | d + 1, n => told n ≠ none ∨ (0 < sidesN n ∧ Bd 64 (sidesN n) ∧ (parts n).length ≤ 100 ∧ ∀ p ∈ parts n, Bd 64 p.1 ∧ TreeOk d p.2)
theorem waysN_some {d : Nat} {n : Nd} {r : Rat} {ks : List Int} (h : told n = some ks) : waysN d n r = [(ks, r)] := by
  cases d <;> unfold waysN <;> rw [h]
theorem waysN_none {d : Nat} {n : Nd} {r : Rat} (h : told n = none) : waysN (d + 1) n r = (parts n).flatMap fun (p : Int × Nd) => waysN d p.2 (r * ((p.1 : Rat) / sidesN n)) := by
  show (match told n with | some ks => [(ks, r)] | none => (parts n).flatMap fun (p : Int × Nd) => waysN d p.2 (r * ((p.1 : Rat) / sidesN n))) = _
  rw [h]
theorem waysN_len : ∀ (d : Nat) (n : Nd) (r s : Rat), (waysN d n r).length = (waysN d n s).length
  | 0, n, r, s => by
    unfold waysN
    cases told n <;> rfl
  | d + 1, n, r, s => by
    cases h : told n with
    | some ks => rw [waysN_some h, waysN_some h]; rfl
    | none =>
      rw [waysN_none h, waysN_none h, List.length_flatMap, List.length_flatMap]
      congr 1
      exact List.map_congr_left fun (p : Int × Nd) _ => waysN_len d p.2 _ _
/-- a way in the heap: what is kept, its share -/
def WayR (K : PySem.W.Frag) (H : Hp) (v : V) (w : List Int × Rat) : Prop := ∃ q kp m, v = .ref q ∧ H q = some (.tup [.ref kp, .ref m]) ∧ H kp = some (.tup (w.1.map V.int)) ∧ QtA K H m w.2
theorem WayR.ev {K : PySem.W.Frag} {T : List (Addr × Str)} {H H' : Hp} {v : V} {w : List Int × Rat} (h : WayR K H v w) (e : Ev T H H') : WayR K H' v w := by
  obtain ⟨q, kp, m, e1, h1, h2, h3⟩ := h
  exact ⟨q, kp, m, e1, e.tup h1, e.tup h2, e.seqT h3⟩
theorem WayR.mu {K : PySem.W.Frag} {H : Hp} {v : V} {w : List Int × Rat} {D : Addr} {us : List V} {o : HO} (h : WayR K H v w) (e : H D = some (.lst us)) : WayR K (upd H D o) v w := by
  obtain ⟨q, kp, m, e1, h1, h2, h3⟩ := h
  exact ⟨q, kp, m, e1, upd_keep e h1 (fun _ z => nomatch z), upd_keep e h2 (fun _ z => nomatch z), sqT_upd e h3⟩
def spq__law_ways (D : Nat) (K : PySem.W.Frag) (mg : Str → Option Value) : Sp := fun vs H Q _ => match vs with | [v, .ref m] => ∃ (n : Nd) (d b : Nat) (r : Rat), d ≤ D ∧ AtN K mg (fun _ => True) n v H ∧ TreeOk d n ∧ (waysN d n 1).length ≤ 1000 ∧ QtA K H m r ∧ BdQ b r ∧ b + 64 * d ≤ 990 ∧ Tabs (tabsL K mg) H ∧ ∀ p H' us, H p = none → Ev (tabsL K mg) H H' → H' p = some (.lst us) → Paired (WayR K H') us (waysN d n r) → Q (.ref p) H' | _ => False
def spr__law_ways : Nat → PySem.W.Frag → (Str → Option Value) → Sp
  | 0, _, _ => fun _ _ _ _ => False
  | D + 1, K, mg => spq__law_ways D K mg
abbrev sp__law_ways (K : PySem.W.Frag) (mg : Str → Option Value) : Sp := spr__law_ways 8 K mg
theorem cr__law_ways (T : Txt K mg base) : ∀ D : Nat, Cal P w K mg base (6 + D) "_law_ways" (spr__law_ways D K mg)
  | 0 => T.d__law_ways.calF
  | D + 1 => by
    have ih := cr__law_ways T D
    refine T.d__law_ways.cal (k := 6 + D) sc__law_ways (by intro vs H Q E h; replace h : spq__law_ways D K mg vs H Q E := h; unfold spq__law_ways at h; split at h <;> first | rfl | exact h.elim) fun f cdv A outer s H vs Q E hr h => ?_
    refine ⟨_, (pss_cons (ps_if (pt_val (PE.or (pe_mt0 (c_Told_is_told T) hr (by omega) (pv 0)) (pe_mt0 (c_Die_is_told T) hr (by omega) (pv 0))))
    (pss_one (ps_ret (pe_lst (pa_cons (pe_tup (pa_cons (PE.or (pe_mt0 (c_Told_kept T) hr (by omega) (pv 0)) (pe_mt0 (c_Die_kept T) hr (by omega) (pv 0))) (pa_cons (pv 1) pa_nil))) pa_nil))))
    pss_nil)
    (pss_cons (ps_set (i := 2) sc__law_ways.nd rfl (.inl rfl) (pe_lst pa_nil))
    (pss_cons (ps_for PassesOwn.never rfl (pi_list (PE.or (pe_mt0 (c_Told_parts T) hr (by omega) (pv 0)) (pe_mt0 (c_Die_parts T) hr (by omega) (pv 0)))) (pg_tup rfl (pgs_cons (pg_name (i := 3) sc__law_ways.nd rfl (.inl rfl)) (pgs_cons (pg_name (i := 4) sc__law_ways.nd rfl (.inl rfl)) pgs_nil)))
    (pss_one (ps_expr (pe_bm PySem.F.plainAttrs_list PySem.F.slot_list_extend PySem.F.type_list_extend mt_extend (pv 2) (pa_cons (pe_c ih hr (by omega) (by rfl) (pa_cons (pv 4) (pa_cons (pe_c (c__law_times T) hr (by omega) (by rfl) (pa_cons (pv 1) (pa_cons (pe_c (c__law_low T) hr (by omega) (by rfl) (pa_cons (pv 3) (pa_cons (PE.or (pe_mt0 (c_Told_sides T) hr (by omega) (pv 0)) (pe_mt0 (c_Die_sides T) hr (by omega) (pv 0))) pa_nil))) pa_nil))) pa_nil))) pa_nil)))))
    (pss_one (ps_ret (pv 2)))))), ?_⟩
    try simp only [cxOf_K, cxOf_K', cxOf_mg, cxOf_mg']
    replace h : spq__law_ways D K mg vs H Q E := h
    unfold spq__law_ways at h
    split at h
    case h_2 => exact h.elim
    rename_i v m
    rw [show L2.start ["_law_node", "_law_much", "_law_found", "_law_many", "_law_part"] [v, V.ref m] = [some (v), some (V.ref m), none, none, none] from rfl]
    obtain ⟨n, d, b, r, hd, hat, ok, hlen, hm, hb, hbd, hT, q⟩ := h
    obtain ⟨a, dx, p, rfl, hc⟩ := at_told hat hT NL.all
    walk_at "sts"
    rcases hc with ⟨ks, hk, h1, h2⟩ | ⟨hk, h1⟩
    · refine L_orl ?_
      walk_at "sts"
      refine L_methv h1 rfl ?_
      walk_at "sts"
      refine L_orl ?_
      walk_at "sts"
      refine L_methv h1 rfl ?_
      walk_at "sts"
      refine ⟨dx, p, h1, ?_⟩
      walk_at "sts"
      walk_at "nw"
      rename_i p1 hp1 H1 s1 e1
      walk_at "sts"
      walk_at "nw"
      rename_i p2 hp2 H2 s2 e2
      have s12 := s1.trans s2
      refine q p2 H2 _ (s1.free hp2) (.same s12) e2 ?_
      rw [waysN_some hk]
      exact .cons ⟨p1, p, m, rfl, s2 _ _ e1, s12 _ _ h2, s12.seqT hm⟩ .nil
    · refine L_orr ?_
      walk_at "sts"
      refine L_methv h1 rfl ?_
      walk_at "sts"
      walk_at "nw"
      rename_i f hf H1 s1 e1
      walk_at "sts"
      cases d with
      | zero => exact absurd hk ok
      | succ d =>
      obtain ⟨sp, bsd, pl, hps⟩ := ok.resolve_left (fun z => z hk)
      rw [waysN_none hk] at hlen
      have q' : ∀ p H' us, H p = none → Ev (tabsL K mg) H H' → H' p = some (.lst us) → Paired (WayR K H') us ((parts n).flatMap fun (p : Int × Nd) => waysN d p.2 (r * ((p.1 : Rat) / sidesN n))) → Q (.ref p) H' := by
        rw [← waysN_none hk]
        exact q
      have ev1 : Ev (tabsL K mg) H H1 := .same s1
      have at1 : AtN K mg (fun b => True ∧ b ≠ f) n (.ref a) H1 := AtN.ev (AtN.shr hat hf) ev1
      have nl1 : NL (fun b => True ∧ b ≠ f) H1 := fun b hb => ⟨trivial, fun z => hb [] (by rw [z]; exact e1)⟩
      refine L_orr ?_
      walk_at "sts"
      refine L_methv (s1 _ _ h1) rfl ?_
      walk_at "sts"
      refine ⟨_, n, at1, hk, nl1, ev1.tb hT, fun p2 H2 vs hp2 ev2 e2 hV => ?_⟩
      have vl : vs.length = (parts n).length := Paired.length hV
      refine L_rl (.of e2) ?_
      refine f_it walk_list (fun i σ' H' => ∃ (us : List V) (v3 v4 : Option V), σ' = [some (.ref a), some (.ref m), some (.ref f), v3, v4] ∧ Ev (tabsL K mg) H H' ∧ H' p2 = some (.lst vs) ∧ H' f = some (.lst us) ∧ Paired (PartN K mg (fun b => True ∧ b ≠ f) H') vs (parts n) ∧ AtN K mg (fun b => True ∧ b ≠ f) n (.ref a) H' ∧ NL (fun b => True ∧ b ≠ f) H' ∧ Paired (WayR K H') us (((parts n).take i).flatMap fun (p : Int × Nd) => waysN d p.2 (r * ((p.1 : Rat) / sidesN n)))) ⟨[], _, _, rfl, ev1.trans ev2, e2, ev2.lst e1, hV, AtN.ev at1 ev2, nl1.ev ev2, .nil⟩ (fun _ _ _ _ ⟨_, _, _, _, _, e, _⟩ => .of e) ?_ ?_
      · rintro i x σ' Hy H3 hi ⟨us, v3, v4, rfl, ev3, f3, g3, hV3, at3, nl3, hW3⟩ ⟨rfl, hx⟩
        obtain ⟨pn, hpn, q0, y, rfl, hq0, aty⟩ := paired_nth hV3 hx
        have hpm := List.mem_of_getElem? hpn
        obtain ⟨bp, okp⟩ := hps pn hpm
        refine L_gTup (.of hq0) rfl ?_
        walk_at "sts"
        refine L_tyL (.of g3) ?_
        walk_at "sts"
        obtain ⟨a2, dx2, p4, us4, ws4, ea4, ha4, hp4, hl4, hP4, hW4⟩ := at_die at3 hk (ev3.tb hT) nl3
        cases ea4
        refine L_orr ?_
        walk_at "sts"
        refine L_methv ha4 rfl ?_
        walk_at "sts"
        refine ⟨dx2, p4, us4, ws4, ha4, hp4, hP4, hl4, fun H4 s4 => ?_⟩
        have hsum : (ws4.map (·.1)).sum = sidesN n := by
          unfold sidesN
          rw [paired_fstW hW4]
        rw [hsum]
        walk_at "sts"
        refine ⟨sp, bsd.mono (by decide), fun p5 H5 hp5 s5 e5 => ?_⟩
        have elow : low pn.1 (sidesN n) = qt ((pn.1 : Rat) / sidesN n) := low_qt sp rfl
        rw [elow] at e5
        have s45 := s4.trans s5
        have ev35 : Ev (tabsL K mg) _ H5 := .same s45
        walk_at "sts"
        have brat : BdQ 64 ((pn.1 : Rat) / sidesN n) := bdq_of (by omega) rfl bp bsd
        refine ⟨r, _, (ev3.trans ev35).seqT hm, .of e5, hb.mono (by omega), brat.mono (by decide), fun p6 H6 hp6 s6 e6 => ?_⟩
        have ev36 := ev35.trans (.same s6)
        walk_at "sts"
        cases D with
        | zero => omega
        | succ D =>
        refine ⟨pn.2, d, b + 64, r * ((pn.1 : Rat) / sidesN n), by omega, AtN.wk (fun _ _ => trivial) (AtN.ev aty ev36), okp, ?_, .of e6, bdq_mul hb brat, by omega, (ev3.trans ev36).tb hT, fun p7 H7 us7 hp7 ev7 e7 hW7 => ?_⟩
        · rw [waysN_len d pn.2 1 (1 * ((pn.1 : Rat) / sidesN n))]
          refine Nat.le_trans ?_ hlen
          rw [List.length_flatMap]
          exact le_sumW (List.mem_map.mpr ⟨pn, hpm, rfl⟩)
        have ev37 := ev36.trans ev7
        have g7 := ev37.lst g3
        walk_at "sts"
        have lW3 := Paired.length hW3
        have lW7 := Paired.length hW7
        have tkn : ((parts n).take (i + 1)).flatMap (fun (p : Int × Nd) => waysN d p.2 (r * ((p.1 : Rat) / sidesN n))) = ((parts n).take i).flatMap (fun (p : Int × Nd) => waysN d p.2 (r * ((p.1 : Rat) / sidesN n))) ++ waysN d pn.2 (r * ((pn.1 : Rat) / sidesN n)) := by
          rw [show (parts n).take (i + 1) = (parts n).take i ++ [pn] by rw [List.take_succ, hpn]; rfl, List.flatMap_append]
          simp
        have tot : us.length + us7.length ≤ 1000 := by
          rw [lW3, lW7, ← List.length_append, ← tkn]
          refine Nat.le_trans ?_ hlen
          rw [List.length_flatMap, List.length_flatMap]
          have e : ((parts n).map fun (p : Int × Nd) => (waysN d p.2 (1 * ((p.1 : Rat) / sidesN n))).length) = (parts n).map fun (p : Int × Nd) => (waysN d p.2 (r * ((p.1 : Rat) / sidesN n))).length := List.map_congr_left fun p _ => waysN_len d p.2 _ _
          rw [e]
          conv => rhs; rw [← List.take_append_drop (i + 1) (parts n), List.map_append, List.sum_append]
          omega
        refine ⟨f, p7, us, us7, rfl, rfl, g7, e7, by rw [sizeLine_eq]; omega, ?_⟩
        walk_at "sts"
        have n2f : p2 ≠ f := fun z => by rw [z, e1] at hp2; cases hp2
        refine ⟨us ++ us7, _, _, rfl, (ev3.trans ev37).mut hf g7, by rw [upd_ne n2f]; exact ev37.lst f3, upd_same, paired_imp2 (fun _ _ h => (h.ev ev37).mu g7 (fun z => z.2 rfl)) hV3, AtN.mu (AtN.ev at3 ev37) g7 (fun z => z.2 rfl), (nl3.ev ev37).mu, ?_⟩
        rw [tkn]
        exact paired_app (paired_imp2 (fun _ _ h => (h.ev ev37).mu g7) hW3) (paired_imp2 (fun _ _ h => h.mu g7) hW7)
      · rintro σ' H3 ⟨us, v3, v4, rfl, ev3, f3, g3, hV3, at3, nl3, hW3⟩
        rw [vl, List.take_length] at hW3
        walk_at "sts"
        exact q' f H3 us hf ev3 g3 hW3
theorem c__law_ways (T : Txt K mg base) : Cal P w K mg base 14 "_law_ways" (sp__law_ways K mg) := cr__law_ways T 8
/-- how many sets of k among n -/
def ch : Nat → Nat → Nat
  | _, 0 => 1
  | 0, _ + 1 => 0
  | n + 1, k + 1 => ch n k + ch n (k + 1)
theorem ch_zero (n : Nat) : ch n 0 = 1 := by cases n <;> rfl
theorem ch_step (n k : Nat) : ch (n + 1) (k + 1) = ch n k + ch n (k + 1) := rfl
theorem ch_out : ∀ {n k : Nat}, n < k → ch n k = 0
  | 0, 0, h => absurd h (Nat.lt_irrefl _)
  | 0, _ + 1, _ => rfl
  | n + 1, 0, h => absurd h (Nat.not_lt_zero _)
  | n + 1, k + 1, h => by rw [ch_step, ch_out (by omega), ch_out (by omega)]
theorem ch_up : ∀ n k : Nat, (k + 1) * ch (n + 1) (k + 1) = (n + 1) * ch n k
  | 0, 0 => rfl
  | 0, k + 1 => by rw [ch_step]; rfl
  | n + 1, 0 => by
    have h := ch_up n 0
    rw [ch_step, ch_zero]
    rw [ch_zero] at h
    omega
  | n + 1, k + 1 => by
    have h1 := ch_up n k
    have h2 := ch_up n (k + 1)
    have e : ch (n + 1 + 1) (k + 1 + 1) = ch (n + 1) (k + 1) + ch (n + 1) (k + 1 + 1) := rfl
    have e2 : ch (n + 1) (k + 1) = ch n k + ch n (k + 1) := rfl
    rw [e, Nat.mul_add, h2, show (k + 1 + 1) * ch (n + 1) (k + 1) = (k + 1) * ch (n + 1) (k + 1) + ch (n + 1) (k + 1) by rw [Nat.succ_mul], h1, show (n + 1 + 1) * ch (n + 1) (k + 1) = (n + 1) * ch (n + 1) (k + 1) + ch (n + 1) (k + 1) by rw [Nat.succ_mul], e2, Nat.mul_add]
    omega
theorem ch_next {n k : Nat} (h : k ≤ n) : (k + 1) * ch n (k + 1) = (n - k) * ch n k := by
  have h1 := ch_up n k
  rw [ch_step, Nat.mul_add] at h1
  have e : (n + 1) * ch n k = (n - k) * ch n k + (k + 1) * ch n k := by
    rw [← Nat.add_mul]
    congr 1
    omega
  omega
theorem ch_pos : ∀ {n k : Nat}, k ≤ n → 1 ≤ ch n k
  | _, 0, _ => by rw [ch_zero]; exact Nat.le_refl _
  | 0, _ + 1, h => absurd h (Nat.not_succ_le_zero _)
  | n + 1, k + 1, h => by
    rw [ch_step]
    have := ch_pos (n := n) (k := k) (by omega)
    omega
theorem ch_self : ∀ n : Nat, ch n n = 1
  | 0 => rfl
  | n + 1 => by rw [ch_step, ch_self n, ch_out (Nat.lt_succ_self n)]
/-! ### the ways of Few -/
def subs : Nat → List Int → List (List Int)
  | 0, _ => [[]]
  | _ + 1, [] => []
  | k + 1, p :: ps => (subs k ps).map (p :: ·) ++ subs (k + 1) ps
theorem subs_zero (ps : List Int) : subs 0 ps = [[]] := by cases ps <;> rfl
theorem subs_len : ∀ (k : Nat) (ps : List Int), (subs k ps).length = ch ps.length k
  | 0, ps => by rw [subs_zero, ch_zero]; rfl
  | k + 1, [] => rfl
  | k + 1, p :: ps => by
    rw [subs, List.length_append, List.length_map, subs_len k ps, subs_len (k + 1) ps, List.length_cons, ch_step]
theorem subs_out : ∀ {k : Nat} {ps : List Int}, ps.length < k → subs k ps = []
  | 0, _, h => absurd h (Nat.not_lt_zero _)
  | k + 1, [], _ => rfl
  | k + 1, p :: ps, h => by
    rw [List.length_cons] at h
    rw [subs, subs_out (k := k) (by omega), subs_out (k := k + 1) (by omega)]
    rfl
theorem subs_all : ∀ ps : List Int, subs ps.length ps = [ps]
  | [] => rfl
  | p :: ps => by
    rw [List.length_cons, subs, subs_all ps, subs_out (Nat.lt_succ_self _)]
    rfl
theorem subs_sub : ∀ {k : Nat} {ps c : List Int}, c ∈ subs k ps → c.Sublist ps ∧ c.length = k
  | 0, ps, c, h => by
    rw [subs_zero, List.mem_singleton] at h
    subst h
    exact ⟨List.nil_sublist _, rfl⟩
  | k + 1, [], c, h => by cases h
  | k + 1, p :: ps, c, h => by
    rw [subs] at h
    rcases List.mem_append.mp h with h | h
    · obtain ⟨d, hd, rfl⟩ := List.mem_map.mp h
      obtain ⟨h1, h2⟩ := subs_sub hd
      exact ⟨h1.cons_cons p, by rw [List.length_cons, h2]⟩
    · obtain ⟨h1, h2⟩ := subs_sub h
      exact ⟨h1.cons p, h2⟩
theorem subs_nd : ∀ {k : Nat} {ps : List Int}, ps.Nodup → (subs k ps).Nodup
  | 0, ps, _ => by rw [subs_zero]; simp
  | k + 1, [], _ => .nil
  | k + 1, p :: ps, h => by
    rw [List.nodup_cons] at h
    rw [subs]
    refine List.nodup_append.mpr ⟨(subs_nd h.2).map (f := (p :: ·)) ?_ |> fun z => z, subs_nd h.2, fun a ha b hb e => ?_⟩
    · intro a b hab e
      exact hab (List.cons.inj e).2
    · obtain ⟨d, _, rfl⟩ := List.mem_map.mp ha
      have := (subs_sub hb).1
      rw [← e] at this
      exact h.1 (this.subset List.mem_cons_self)
theorem cnt_none {α : Type} {q : α → Bool} {l : List α} (h : ∀ c ∈ l, q c = false) : l.countP q = 0 := List.countP_eq_zero.mpr fun a ha => by rw [h a ha]; decide
theorem cnt_one {p : Int} : ∀ {ps : List Int} {k n : Nat}, ps.Nodup → p ∈ ps → ps.length = n + 1 → (subs (k + 1) ps).countP (fun c => decide (p ∈ c)) = ch n k
  | [], _, _, _, h, _ => by cases h
  | q :: ps, k, n, nd, hm, hl => by
    rw [List.nodup_cons] at nd
    rw [List.length_cons] at hl
    rw [subs, List.countP_append, List.countP_map]
    by_cases e : p = q
    · subst e
      have h1 : (subs k ps).countP ((fun c => decide (p ∈ c)) ∘ (p :: ·)) = (subs k ps).length := List.countP_eq_length.mpr fun c _ => decide_eq_true List.mem_cons_self
      have h2 : (subs (k + 1) ps).countP (fun c => decide (p ∈ c)) = 0 := cnt_none fun c hc => decide_eq_false fun z => nd.1 ((subs_sub hc).1.subset z)
      rw [h1, h2, subs_len, show ps.length = n by omega]
      rfl
    · have hm' : p ∈ ps := (List.mem_cons.mp hm).resolve_left e
      have hpos := List.length_pos_of_mem hm'
      obtain ⟨n', rfl⟩ : ∃ n', n = n' + 1 := ⟨n - 1, by omega⟩
      have h1 : (subs k ps).countP ((fun c => decide (p ∈ c)) ∘ (q :: ·)) = (subs k ps).countP (fun c => decide (p ∈ c)) := List.countP_congr fun c _ => by
        show decide (p ∈ q :: c) = true ↔ decide (p ∈ c) = true
        rw [decide_eq_true_eq, decide_eq_true_eq, List.mem_cons]
        exact ⟨fun z => z.resolve_left e, .inr⟩
      rw [h1, cnt_one nd.2 hm' (n := n') (by omega)]
      cases k with
      | zero =>
        rw [subs_zero, ch_zero, ch_zero]
        rfl
      | succ k => rw [cnt_one nd.2 hm' (n := n') (by omega), ch_step]
theorem cnt_two {p q : Int} (ne : p ≠ q) : ∀ {ps : List Int} {k n : Nat}, ps.Nodup → p ∈ ps → q ∈ ps → ps.length = n + 2 → (subs (k + 2) ps).countP (fun c => decide (p ∈ c ∧ q ∈ c)) = ch n k
  | [], _, _, _, h, _, _ => by cases h
  | t :: ps, k, n, nd, hp, hq, hl => by
    rw [List.nodup_cons] at nd
    rw [List.length_cons] at hl
    rw [subs, List.countP_append, List.countP_map]
    by_cases e : p = t
    · subst e
      have hq' : q ∈ ps := (List.mem_cons.mp hq).resolve_left fun z => ne z.symm
      have h1 : (subs (k + 1) ps).countP ((fun c => decide (p ∈ c ∧ q ∈ c)) ∘ (p :: ·)) = (subs (k + 1) ps).countP (fun c => decide (q ∈ c)) := List.countP_congr fun c _ => by
        show decide (p ∈ p :: c ∧ q ∈ p :: c) = true ↔ decide (q ∈ c) = true
        rw [decide_eq_true_eq, decide_eq_true_eq, List.mem_cons, List.mem_cons]
        exact ⟨fun z => z.2.resolve_left fun w => ne w.symm, fun z => ⟨.inl rfl, .inr z⟩⟩
      have h2 : (subs (k + 1 + 1) ps).countP (fun c => decide (p ∈ c ∧ q ∈ c)) = 0 := cnt_none fun c hc => decide_eq_false fun z => nd.1 ((subs_sub hc).1.subset z.1)
      rw [h1, h2, cnt_one nd.2 hq' (n := n) (by omega)]
      rfl
    · have hp' : p ∈ ps := (List.mem_cons.mp hp).resolve_left e
      by_cases e2 : q = t
      · subst e2
        have h1 : (subs (k + 1) ps).countP ((fun c => decide (p ∈ c ∧ q ∈ c)) ∘ (q :: ·)) = (subs (k + 1) ps).countP (fun c => decide (p ∈ c)) := List.countP_congr fun c _ => by
          show decide (p ∈ q :: c ∧ q ∈ q :: c) = true ↔ decide (p ∈ c) = true
          rw [decide_eq_true_eq, decide_eq_true_eq, List.mem_cons, List.mem_cons]
          exact ⟨fun z => z.1.resolve_left e, fun z => ⟨.inr z, .inl rfl⟩⟩
        have h2 : (subs (k + 1 + 1) ps).countP (fun c => decide (p ∈ c ∧ q ∈ c)) = 0 := cnt_none fun c hc => decide_eq_false fun z => nd.1 ((subs_sub hc).1.subset z.2)
        rw [h1, h2, cnt_one nd.2 hp' (n := n) (by omega)]
        rfl
      · have hq' : q ∈ ps := (List.mem_cons.mp hq).resolve_left e2
        have h1 : (subs (k + 1) ps).countP ((fun c => decide (p ∈ c ∧ q ∈ c)) ∘ (t :: ·)) = (subs (k + 1) ps).countP (fun c => decide (p ∈ c ∧ q ∈ c)) := List.countP_congr fun c _ => by
          show decide (p ∈ t :: c ∧ q ∈ t :: c) = true ↔ decide (p ∈ c ∧ q ∈ c) = true
          rw [decide_eq_true_eq, decide_eq_true_eq, List.mem_cons, List.mem_cons]
          exact ⟨fun z => ⟨z.1.resolve_left e, z.2.resolve_left e2⟩, fun z => ⟨.inr z.1, .inr z.2⟩⟩
        have h2l : 2 ≤ ps.length := by
          match ps, hp', hq' with
          | [a], h1, h2 =>
            rw [List.mem_singleton] at h1 h2
            exact absurd (h1.trans h2.symm) ne
          | _ :: _ :: _, _, _ => simp
        obtain ⟨n', rfl⟩ : ∃ n', n = n' + 1 := ⟨n - 1, by omega⟩
        rw [h1, cnt_two ne nd.2 hp' hq' (n := n') (by omega)]
        cases k with
        | zero =>
          have h3 : (subs (0 + 1) ps).countP (fun c => decide (p ∈ c ∧ q ∈ c)) = 0 := cnt_none fun c hc => decide_eq_false fun z => by
            have hc2 := (subs_sub hc).2
            match c, hc2, z with
            | [a], _, ⟨z1, z2⟩ =>
              rw [List.mem_singleton] at z1 z2
              exact ne (z1.trans z2.symm)
          rw [h3, ch_zero, ch_zero]
        | succ k => rw [cnt_two ne nd.2 hp' hq' (n := n') (by omega), ch_step]
theorem srtI_sub {ps c : List Int} (h : ps.Pairwise (· < ·)) (s : c.Sublist ps) : srtI c = c := (srtI_eq (List.Perm.refl c) ((h.sublist s).imp fun z => Int.le_of_lt z)).symm
theorem evW_app (g : List Int → Rat) : ∀ A B : Wt, evW g (A ++ B) = evW g A + evW g B
  | [], B => by show evW g B = 0 + evW g B; grind
  | z :: A, B => by
    show z.2 * g z.1 + evW g (A ++ B) = z.2 * g z.1 + evW g A + evW g B
    rw [evW_app g A B]
    grind
/-- the same share each: counted -/
theorem evW_cnt {q : List Int → Bool} {g : List Int → Rat} (hg : ∀ c, g c = if q c = true then 1 else 0) (x : Rat) : ∀ l : List (List Int), evW g (l.map fun c => (c, x)) = ((l.countP q : Nat) : Rat) * x
  | [] => by show (0 : Rat) = ((0 : Nat) : Rat) * x; rw [show (((0 : Nat) : Rat)) = 0 from rfl]; grind
  | c :: l => by
    rw [List.map_cons]
    show x * g c + evW g (l.map fun c => (c, x)) = _
    rw [evW_cnt hg x l, hg c, List.countP_cons]
    by_cases e : q c = true
    · rw [if_pos e, if_pos e]
      have : ((l.countP q + 1 : Nat) : Rat) = ((l.countP q : Nat) : Rat) + 1 := by rw [Rat.natCast_add]; rfl
      rw [this]
      grind
    · rw [if_neg e, if_neg e, Nat.add_zero]
      grind
theorem nq (n : Nat) : ((n : Nat) : Rat) = ((n : Int) : Rat) := by rw [Rat.intCast_natCast]
theorem ch_q {n k : Nat} (h : k ≤ n) : (0 : Rat) < ((ch n k : Nat) : Rat) := by
  have := ch_pos h
  rw [nq]
  exact Rat.intCast_pos.mpr (by omega)
theorem ch_up_q (n k : Nat) : ((k : Rat) + 1) * ((ch (n + 1) (k + 1) : Nat) : Rat) = ((n : Rat) + 1) * ((ch n k : Nat) : Rat) := by
  have h := congrArg (fun x : Nat => (x : Rat)) (ch_up n k)
  simp only [Rat.natCast_mul, Rat.natCast_add] at h
  exact h
theorem few_ways : ∀ (ps : List Int) (k : Nat) (ks : List Int) (d : Nat) (r : Rat), ps.length ≤ d → k ≤ ps.length → waysN d (.few (ps, (k : Int), ks)) r = (subs k ps).map fun c => (srtI (ks ++ c), r / ((ch ps.length k : Nat) : Rat)) := by
  intro ps
  induction ps with
  | nil =>
    intro k ks d r hd hk
    obtain rfl : k = 0 := by simpa using hk
    rw [waysN_some (show told (.few ([], ((0 : Nat) : Int), ks)) = some (srtI ks) from (show toldF ([], ((0 : Nat) : Int), ks) = some (srtI ks) from if_pos (show ((0 : Nat) : Int) = 0 from rfl))), subs_zero, ch_zero]
    show [(srtI ks, r)] = [(srtI (ks ++ []), r / ((1 : Nat) : Rat))]
    rw [List.append_nil, show (((1 : Nat) : Rat)) = 1 from rfl, show r / 1 = r by grind]
  | cons p ps ih =>
    intro k ks d r hd hk
    rw [List.length_cons] at hd hk
    by_cases k0 : k = 0
    · subst k0
      rw [waysN_some (show told (.few (p :: ps, ((0 : Nat) : Int), ks)) = some (srtI ks) from (show toldF (p :: ps, ((0 : Nat) : Int), ks) = some (srtI ks) from if_pos (show ((0 : Nat) : Int) = 0 from rfl))), subs_zero, ch_zero]
      show [(srtI ks, r)] = [(srtI (ks ++ []), r / ((1 : Nat) : Rat))]
      rw [List.append_nil, show (((1 : Nat) : Rat)) = 1 from rfl, show r / 1 = r by grind]
    by_cases kn : k = ps.length + 1
    · have ht : told (.few (p :: ps, (k : Int), ks)) = some (srtI (ks ++ (p :: ps))) := (if_neg (show ¬ (k : Int) = 0 by omega)).trans (if_pos (show (((p :: ps).length : Nat) : Int) ≤ k by rw [List.length_cons]; omega))
      rw [waysN_some ht]
      have e1 : subs k (p :: ps) = [p :: ps] := by rw [kn]; exact subs_all (p :: ps)
      have e2 : ch (p :: ps).length k = 1 := by rw [kn, List.length_cons]; exact ch_self _
      rw [e1, e2]
      show [(srtI (ks ++ (p :: ps)), r)] = [(srtI (ks ++ (p :: ps)), r / ((1 : Nat) : Rat))]
      rw [show (((1 : Nat) : Rat)) = 1 from rfl, show r / 1 = r by grind]
    obtain ⟨k', rfl⟩ : ∃ k', k = k' + 1 := ⟨k - 1, by omega⟩
    obtain ⟨e, rfl⟩ : ∃ e, d = e + 1 := ⟨d - 1, by omega⟩
    have ht : told (.few (p :: ps, ((k' + 1 : Nat) : Int), ks)) = none := by
      show toldF (p :: ps, ((k' + 1 : Nat) : Int), ks) = none
      unfold toldF
      rw [if_neg (show ¬ ((k' + 1 : Nat) : Int) = 0 by omega), if_neg (show ¬ (((p :: ps).length : Nat) : Int) ≤ ((k' + 1 : Nat) : Int) by rw [List.length_cons]; omega)]
    rw [waysN_none ht]
    have hparts : parts (.few (p :: ps, ((k' + 1 : Nat) : Int), ks)) = [(((k' + 1 : Nat) : Int), .few (ps, (k' : Int), ks ++ [p])), ((((ps.length + 1 : Nat) : Int) - ((k' + 1 : Nat) : Int)), .few (ps, ((k' + 1 : Nat) : Int), ks))] := by
      show [(((k' + 1 : Nat) : Int), Nd.few (ps, ((k' + 1 : Nat) : Int) - 1, ks ++ [p])), _] = _
      rw [show ((k' + 1 : Nat) : Int) - 1 = (k' : Int) by omega]
      rfl
    have hsides : sidesN (.few (p :: ps, ((k' + 1 : Nat) : Int), ks)) = ((ps.length + 1 : Nat) : Int) := by
      unfold sidesN
      rw [hparts]
      simp only [List.map_cons, List.map_nil, List.sum_cons, List.sum_nil]
      omega
    rw [hparts, hsides]
    simp only [List.flatMap_cons, List.flatMap_nil, List.append_nil]
    rw [ih k' (ks ++ [p]) e _ (by omega) (by omega), ih (k' + 1) ks e _ (by omega) (by omega), subs, List.map_append, List.map_map, List.length_cons]
    have up := ch_up_q ps.length k'
    have st : ((ch (ps.length + 1) (k' + 1) : Nat) : Rat) = ((ch ps.length k' : Nat) : Rat) + ((ch ps.length (k' + 1) : Nat) : Rat) := by rw [ch_step, Rat.natCast_add]
    have q1 := ch_q (n := ps.length) (k := k') (by omega)
    have q2 := ch_q (n := ps.length) (k := k' + 1) (by omega)
    have q3 := ch_q (n := ps.length + 1) (k := k' + 1) (by omega)
    have n1 : (((ps.length + 1 : Nat) : Int) : Rat) = (ps.length : Rat) + 1 := by rw [Rat.intCast_natCast, Rat.natCast_add]; rfl
    have k1 : (((k' + 1 : Nat) : Int) : Rat) = (k' : Rat) + 1 := by rw [Rat.intCast_natCast, Rat.natCast_add]; rfl
    have nn : (0 : Rat) ≤ (ps.length : Rat) := by rw [nq]; exact Rat.intCast_nonneg.mpr (by omega)
    congr 1
    · refine List.map_congr_left fun c _ => ?_
      show (srtI (ks ++ [p] ++ c), _) = (srtI (ks ++ (p :: c)), _)
      rw [List.append_assoc, k1, n1]
      congr 1
      show r * (((k' : Rat) + 1) / ((ps.length : Rat) + 1)) / ((ch ps.length k' : Nat) : Rat) = r / ((ch (ps.length + 1) (k' + 1) : Nat) : Rat)
      generalize ((ch (ps.length + 1) (k' + 1) : Nat) : Rat) = C at *
      generalize ((ch ps.length k' : Nat) : Rat) = A at *
      generalize (ps.length : Rat) = N at *
      generalize (k' : Rat) = M at *
      grind
    · refine List.map_congr_left fun c _ => ?_
      rw [Rat.intCast_sub, k1, n1]
      congr 1
      show r * (((ps.length : Rat) + 1 - ((k' : Rat) + 1)) / ((ps.length : Rat) + 1)) / ((ch ps.length (k' + 1) : Nat) : Rat) = r / ((ch (ps.length + 1) (k' + 1) : Nat) : Rat)
      generalize ((ch (ps.length + 1) (k' + 1) : Nat) : Rat) = C at *
      generalize ((ch ps.length k' : Nat) : Rat) = A at *
      generalize ((ch ps.length (k' + 1) : Nat) : Rat) = B at *
      generalize (ps.length : Rat) = N at *
      generalize (k' : Rat) = M at *
      grind
/-! ### the ways of Loose -/
def av (s : Int × Int) : Rat := (s.1 : Rat) / s.2
def lws : List Int → List (Int × Int) → Wt
  | p :: ps, s :: ss => if opn s then (lws ps ss).map (fun w => (p :: w.1, av s * w.2)) ++ (lws ps ss).map (fun w => (w.1, (1 - av s) * w.2)) else if 0 < s.1 then (lws ps ss).map (fun w => (p :: w.1, w.2)) else lws ps ss
  | _, _ => [([], 1)]
/-- a share of a wish: sure, none, or open -/
def Sh1 (s : Int × Int) : Prop := s = (1, 1) ∨ s = (0, 1) ∨ (opn s ∧ Bd 64 s.2)
theorem Sh1.pos {s : Int × Int} (h : Sh1 s) : 0 < s.2 := by
  rcases h with rfl | rfl | ⟨h, _⟩
  · decide
  · decide
  · have h1 := h.1
    have h2 := h.2
    omega
theorem Sh1.cases {s : Int × Int} (h : Sh1 s) : (opn s ∧ Bd 64 s.2) ∨ (¬ opn s ∧ 0 < s.1 ∧ s = (1, 1)) ∨ (¬ opn s ∧ ¬ 0 < s.1 ∧ s = (0, 1)) := by
  rcases h with rfl | rfl | h
  · exact .inr (.inl ⟨fun z => by have := z.2; exact absurd this (by decide), by decide, rfl⟩)
  · exact .inr (.inr ⟨fun z => by have := z.1; exact absurd this (by decide), by decide, rfl⟩)
  · exact .inl h
theorem skipL_ks : ∀ (ps : List Int) (ss : List (Int × Int)) (ks : List Int) (d : Nat) (r : Rat), ps.length = ss.length → (∀ s ∈ ss, Sh1 s) → ps.length ≤ d → waysN d (skipL ps ss ks) r = (lws ps ss).map fun w => (srtI (ks ++ w.1), r * w.2)
  | [], [], ks, d, r, _, _, _ => by
    rw [waysN_some (show told (skipL [] [] ks) = some (srtI ks) from rfl)]
    show [(srtI ks, r)] = [(srtI (ks ++ []), r * 1)]
    rw [List.append_nil, show r * 1 = r by grind]
  | [], _ :: _, _, _, _, h, _, _ => by simp at h
  | _ :: _, [], _, _, _, h, _, _ => by simp at h
  | p :: ps, s :: ss, ks, d, r, hl, hs, hd => by
    rw [List.length_cons, List.length_cons] at hl
    rw [List.length_cons] at hd
    have hs2 : ∀ s ∈ ss, Sh1 s := fun x hx => hs x (List.mem_cons_of_mem _ hx)
    rcases (hs s List.mem_cons_self).cases with ⟨c, _⟩ | ⟨c, c2, _⟩ | ⟨c, c2, _⟩
    · obtain ⟨e, rfl⟩ : ∃ e, d = e + 1 := ⟨d - 1, by omega⟩
      have en : skipL (p :: ps) (s :: ss) ks = .loo (p :: ps) (s :: ss) ks := if_pos c
      have ep : parts (.loo (p :: ps) (s :: ss) ks) = [(s.1, skipL ps ss (ks ++ [p])), (s.2 - s.1, skipL ps ss ks)] := rfl
      have esd : sidesN (.loo (p :: ps) (s :: ss) ks) = s.2 := by
        unfold sidesN
        rw [ep]
        simp only [List.map_cons, List.map_nil, List.sum_cons, List.sum_nil]
        omega
      have c1 := c.1
      have c2 := c.2
      have hq := iq_pos (show 0 < s.2 by omega)
      rw [en, waysN_none (show told (.loo (p :: ps) (s :: ss) ks) = none from rfl), ep, esd]
      simp only [List.flatMap_cons, List.flatMap_nil, List.append_nil]
      rw [skipL_ks ps ss _ e _ (by omega) hs2 (by omega), skipL_ks ps ss _ e _ (by omega) hs2 (by omega)]
      rw [show lws (p :: ps) (s :: ss) = (lws ps ss).map (fun w => (p :: w.1, av s * w.2)) ++ (lws ps ss).map (fun w => (w.1, (1 - av s) * w.2)) from if_pos c, List.map_append, List.map_map, List.map_map]
      congr 1
      · refine List.map_congr_left fun w _ => ?_
        show (srtI (ks ++ [p] ++ w.1), r * ((s.1 : Rat) / s.2) * w.2) = (srtI (ks ++ (p :: w.1)), r * (av s * w.2))
        rw [List.append_assoc]
        unfold av
        congr 1
        grind
      · refine List.map_congr_left fun w _ => ?_
        show (srtI (ks ++ w.1), r * (((s.2 - s.1 : Int) : Rat) / s.2) * w.2) = (srtI (ks ++ w.1), r * ((1 - av s) * w.2))
        unfold av
        rw [Rat.intCast_sub]
        congr 1
        grind
    · have en : skipL (p :: ps) (s :: ss) ks = skipL ps ss (ks ++ [p]) := (if_neg c).trans (by rw [if_pos c2]; rfl)
      rw [en, skipL_ks ps ss _ d _ (by omega) hs2 (by omega), show lws (p :: ps) (s :: ss) = (lws ps ss).map (fun w => (p :: w.1, w.2)) from (if_neg c).trans (if_pos c2), List.map_map]
      refine List.map_congr_left fun w _ => ?_
      show (srtI (ks ++ [p] ++ w.1), r * w.2) = (srtI (ks ++ (p :: w.1)), r * w.2)
      rw [List.append_assoc]
      rfl
    · have en : skipL (p :: ps) (s :: ss) ks = skipL ps ss ks := (if_neg c).trans (by rw [if_neg c2]; rfl)
      rw [en, skipL_ks ps ss _ d _ (by omega) hs2 (by omega), show lws (p :: ps) (s :: ss) = lws ps ss from (if_neg c).trans (if_neg c2)]
/-- what holds of each way -/
theorem lws_ind {M : List Int → List (Int × Int) → List Int × Rat → Prop} (h0 : M [] [] ([], 1)) (h1 : ∀ p ps s ss w, opn s → M ps ss w → M (p :: ps) (s :: ss) (p :: w.1, av s * w.2) ∧ M (p :: ps) (s :: ss) (w.1, (1 - av s) * w.2)) (h2 : ∀ p ps ss w, M ps ss w → M (p :: ps) ((1, 1) :: ss) (p :: w.1, w.2)) (h3 : ∀ p ps ss w, M ps ss w → M (p :: ps) ((0, 1) :: ss) w) :
    ∀ (ps : List Int) (ss : List (Int × Int)), ps.length = ss.length → (∀ s ∈ ss, Sh1 s) → ∀ w ∈ lws ps ss, M ps ss w
  | [], [], _, _, w, hw => by
    rw [show w = ([], 1) from List.mem_singleton.mp hw]
    exact h0
  | [], _ :: _, h, _, _, _ => by simp at h
  | _ :: _, [], h, _, _, _ => by simp at h
  | p :: ps, s :: ss, hl, hs, w, hw => by
    rw [List.length_cons, List.length_cons] at hl
    have ih := lws_ind h0 h1 h2 h3 ps ss (by omega) fun x hx => hs x (List.mem_cons_of_mem _ hx)
    rcases (hs s List.mem_cons_self).cases with ⟨c, _⟩ | ⟨c, c2, rfl⟩ | ⟨c, c2, rfl⟩
    · rw [show lws (p :: ps) (s :: ss) = (lws ps ss).map (fun w => (p :: w.1, av s * w.2)) ++ (lws ps ss).map (fun w => (w.1, (1 - av s) * w.2)) from if_pos c] at hw
      rcases List.mem_append.mp hw with hw | hw
      · obtain ⟨v, hv, rfl⟩ := List.mem_map.mp hw
        exact (h1 p ps s ss v c (ih v hv)).1
      · obtain ⟨v, hv, rfl⟩ := List.mem_map.mp hw
        exact (h1 p ps s ss v c (ih v hv)).2
    · rw [show lws (p :: ps) ((1, 1) :: ss) = (lws ps ss).map (fun w => (p :: w.1, w.2)) from (if_neg c).trans (if_pos c2)] at hw
      obtain ⟨v, hv, rfl⟩ := List.mem_map.mp hw
      exact h2 p ps ss v (ih v hv)
    · rw [show lws (p :: ps) ((0, 1) :: ss) = lws ps ss from (if_neg c).trans (if_neg c2)] at hw
      exact h3 p ps ss w (ih w hw)
theorem evW_map (g : List Int → Rat) (f : List Int → List Int) (x : Rat) : ∀ Z : Wt, evW g (Z.map fun w => (f w.1, x * w.2)) = x * evW (fun c => g (f c)) Z
  | [] => by show (0 : Rat) = x * 0; grind
  | z :: Z => by
    rw [List.map_cons]
    show x * z.2 * g (f z.1) + evW g (Z.map fun w => (f w.1, x * w.2)) = x * (z.2 * g (f z.1) + evW (fun c => g (f c)) Z)
    rw [evW_map g f x Z]
    grind
theorem evW_map1 (g : List Int → Rat) (f : List Int → List Int) (Z : Wt) : evW g (Z.map fun w => (f w.1, w.2)) = evW (fun c => g (f c)) Z := by
  have h := evW_map g f 1 Z
  have e : (Z.map fun w : List Int × Rat => (f w.1, 1 * w.2)) = Z.map fun w => (f w.1, w.2) := List.map_congr_left fun w _ => by rw [show (1 : Rat) * w.2 = w.2 by grind]
  rw [e] at h
  rw [h]
  grind
/-- the first one is kept by its own share -/
theorem lws_step (g : List Int → Rat) {p : Int} {ps : List Int} {s : Int × Int} {ss : List (Int × Int)} (h : Sh1 s) : evW g (lws (p :: ps) (s :: ss)) = av s * evW (fun c => g (p :: c)) (lws ps ss) + (1 - av s) * evW g (lws ps ss) := by
  rcases h.cases with ⟨c, _⟩ | ⟨c, c2, rfl⟩ | ⟨c, c2, rfl⟩
  · rw [show lws (p :: ps) (s :: ss) = (lws ps ss).map (fun w => (p :: w.1, av s * w.2)) ++ (lws ps ss).map (fun w => (w.1, (1 - av s) * w.2)) from if_pos c, evW_app, evW_map g (fun c => p :: c), evW_map g (fun c => c)]
  · rw [show lws (p :: ps) ((1, 1) :: ss) = (lws ps ss).map (fun w => (p :: w.1, w.2)) from (if_neg c).trans (if_pos c2), evW_map1 g (fun c => p :: c)]
    unfold av
    rw [show (((1, 1) : Int × Int).1 : Rat) / (((1, 1) : Int × Int).2 : Rat) = 1 from by decide +kernel]
    grind
  · rw [show lws (p :: ps) ((0, 1) :: ss) = lws ps ss from (if_neg c).trans (if_neg c2)]
    unfold av
    rw [show (((0, 1) : Int × Int).1 : Rat) / (((0, 1) : Int × Int).2 : Rat) = 0 from by decide +kernel]
    grind
theorem lws_total : ∀ (ps : List Int) (ss : List (Int × Int)), ps.length = ss.length → (∀ s ∈ ss, Sh1 s) → evW (fun _ => 1) (lws ps ss) = 1
  | [], [], _, _ => by show (1 : Rat) * 1 + 0 = 1; grind
  | [], _ :: _, h, _ => by simp at h
  | _ :: _, [], h, _ => by simp at h
  | p :: ps, s :: ss, hl, hs => by
    rw [List.length_cons, List.length_cons] at hl
    rw [lws_step _ (hs s List.mem_cons_self), lws_total ps ss (by omega) fun x hx => hs x (List.mem_cons_of_mem _ hx)]
    grind
theorem evW_congr {g h : List Int → Rat} : ∀ {Z : Wt}, (∀ z ∈ Z, g z.1 = h z.1) → evW g Z = evW h Z
  | [], _ => rfl
  | z :: Z, e => by
    show z.2 * g z.1 + evW g Z = z.2 * h z.1 + evW h Z
    rw [e z List.mem_cons_self, evW_congr fun y hy => e y (List.mem_cons_of_mem _ hy)]
theorem evW_zero : ∀ Z : Wt, evW (fun _ => 0) Z = 0
  | [] => rfl
  | z :: Z => by
    show z.2 * 0 + evW (fun _ => 0) Z = 0
    rw [evW_zero Z]
    grind
theorem lws_sub : ∀ (ps : List Int) (ss : List (Int × Int)), ps.length = ss.length → (∀ s ∈ ss, Sh1 s) → ∀ w ∈ lws ps ss, w.1.Sublist ps :=
  lws_ind (M := fun ps _ w => w.1.Sublist ps) (List.Sublist.refl _) (fun p ps s ss w _ h => ⟨h.cons_cons p, h.cons p⟩) (fun p ps ss w h => h.cons_cons p) (fun p ps ss w h => h.cons p)
/-- all but one is kept -/
def KpT (H H' : Hp) (d : Addr) : Prop := ∀ b o, H b = some o → b ≠ d → H' b = some o
theorem KpT.sq {K : PySem.W.Frag} {H H' : Hp} {d a : Addr} {us : List (List Key × V)} {xs : List V} (k : KpT H H' d) (e : H d = some (.dT us)) (h : SqT K H a xs) : SqT K H' a xs := by
  rcases h with (h | ⟨o, h⟩) | h
  · exact .of (k _ _ h fun z => by rw [z, e] at h; cases h)
  · exact .inl (.inr ⟨o, k _ _ h fun z => by rw [z, e] at h; cases h⟩)
  · exact .inr h
theorem KpT.same {H H' H'' : Hp} {d : Addr} (k : KpT H H' d) (s : Same H' H'') : KpT H H'' d := fun b o hb ne => s _ _ (k b o hb ne)
theorem KpT.none {H H' H0 : Hp} {d : Addr} (k : KpT H H' d) (s : Same H0 H) (n : H0 d = none) : Same H0 H' := fun b o hb => k b o (s _ _ hb) fun z => by rw [z, n] at hb; cases hb
theorem sq_lock {K : PySem.W.Frag} {H : Hp} {d a : Addr} {us : List (List Key × V)} {o : Obj} {xs : List V} (e : H d = some (.dT us)) (h : SqT K H a xs) : SqT K (L2.upd H d (.frz o (.dT us))) a xs := by
  have k : KpT H (L2.upd H d (.frz o (.dT us))) d := fun b o hb ne => by rw [upd_ne ne]; exact hb
  exact k.sq e h
def bothF (i j : Int) (ks : List Int) : Rat := if i ∈ ks ∧ j ∈ ks then 1 else 0
theorem bothF_01 (i j : Int) (k : List Int) : bothF i j k = 0 ∨ bothF i j k = 1 := by unfold bothF; split; exact .inr rfl; exact .inl rfl
def togW (W : Wt) (ps : List Int) : List (List (Int × Int)) := ps.map fun i => ps.map fun j => qt (evW (bothF i j) W)
theorem WayR.to {K : PySem.W.Frag} {H H' : Hp} {v : V} {w : List Int × Rat} (h : WayR K H v w) (s : Same H H') : WayR K H' v w := WayR.ev h (Ev.same (T := []) s)
def sp__law_together (K : PySem.W.Frag) (mg : Str → Option Value) : Sp := fun vs H Q _ => match vs with | [.ref wa, .ref pa] => ∃ (W : Wt) (ps : List Int) (us : List V) (D : Int), SqL K H wa us ∧ Paired (WayR K H) us W ∧ SqL K H pa (ps.map V.int) ∧ 0 < D ∧ D ≤ 2 ^ 900 ∧ GoodW D W ∧ W.length ≤ 1000 ∧ ps.length ≤ 24 ∧ ∀ p H' os, H p = none → Same H H' → H' p = some (.lst (os.map V.ref)) → RowsN K H H' p os (togW W ps) → Q (.ref p) H' | _ => False
theorem q__law_together {H : Hp} {Q : VK} {E : XK} {wa : Addr} {pa : Addr} (q : ∃ (W : Wt) (ps : List Int) (us : List V) (D : Int), SqL K H wa us ∧ Paired (WayR K H) us W ∧ SqL K H pa (ps.map V.int) ∧ 0 < D ∧ D ≤ 2 ^ 900 ∧ GoodW D W ∧ W.length ≤ 1000 ∧ ps.length ≤ 24 ∧ ∀ p H' os, H p = none → Same H H' → H' p = some (.lst (os.map V.ref)) → RowsN K H H' p os (togW W ps) → Q (.ref p) H') : sp__law_together K mg [.ref wa, .ref pa] H Q E := q
local macro_rules | `(tactic| walk_at "op") => `(tactic| with_reducible refine q__law_together ?_)
theorem c__law_together (T : Txt K mg base) : Cal P w K mg base 3 "_law_together" (sp__law_together K mg) := by
  refine T.d__law_together.cal (k := 2) sc__law_together (by intro vs H Q E h; unfold sp__law_together at h; split at h <;> first | rfl | exact h.elim) fun f cdv A outer s H vs Q E hr h => ?_
  refine ⟨_, (pss_cons (ps_set (i := 2) sc__law_together.nd rfl (.inl rfl) pe_dnewT)
    (pss_cons (ps_for PassesOwn.never rfl (pi_list (pv 0)) (pg_tup rfl (pgs_cons (pg_name (i := 3) sc__law_together.nd rfl (.inl rfl)) (pgs_cons (pg_name (i := 4) sc__law_together.nd rfl (.inl rfl)) pgs_nil)))
    (pss_one (ps_dput (hu_of hr) (pv 2) (pv 3) (pe_c (c__law_plus T) hr (by decide) (by rfl) (pa_cons (pe_dget2 (hu_of hr) (pv 2) (pv 3) (pe_tup (pa_cons pe_int (pa_cons pe_int pa_nil))) ⟨rfl, rfl, rfl, rfl⟩) (pa_cons (pv 4) pa_nil))) rfl)))
    (pss_cons (ps_set (i := 5) sc__law_together.nd rfl (.inl rfl) (pe_lst pa_nil))
    (pss_cons (ps_for PassesOwn.never rfl (pi_list (pv 1)) (pg_name (i := 6) sc__law_together.nd rfl (.inl rfl))
    (pss_cons (ps_set (i := 7) sc__law_together.nd rfl (.inl rfl) (pe_lst pa_nil))
    (pss_cons (ps_for PassesOwn.never rfl (pi_list (pv 1)) (pg_name (i := 8) sc__law_together.nd rfl (.inl rfl))
    (pss_cons (ps_set (i := 9) sc__law_together.nd rfl (.inl rfl) (pe_tup (pa_cons pe_int (pa_cons pe_int pa_nil))))
    (pss_cons (ps_lock (ps_for PassesOwn.never rfl (pi_itemsT (pv 2)) (pg_tup rfl (pgs_cons (pg_name (i := 3) sc__law_together.nd rfl (.inl rfl)) (pgs_cons (pg_name (i := 4) sc__law_together.nd rfl (.inl rfl)) pgs_nil)))
    (pss_one (ps_if (PW.pt (pw_and (pt_cmpR op_inA (pv 6) (pv 3) (by rfl)) (pw_and1 (pt_cmpR op_inA (pv 8) (pv 3) (by rfl)))))
    (pss_one (ps_set (i := 9) sc__law_together.nd rfl (.inl rfl) (pe_c (c__law_plus T) hr (by decide) (by rfl) (pa_cons (pv 9) (pa_cons (pv 4) pa_nil)))))
    pss_nil))))
    (pss_one (ps_expr (pe_bm PySem.F.plainAttrs_list PySem.F.slot_list_append PySem.F.type_list_append mt_append (pv 7) (pa_cons (pv 9) pa_nil)))))))
    (pss_one (ps_expr (pe_bm PySem.F.plainAttrs_list PySem.F.slot_list_append PySem.F.type_list_append mt_append (pv 5) (pa_cons (pv 7) pa_nil)))))))
    (pss_one (ps_ret (pv 5))))))), ?_⟩
  try simp only [cxOf_K, cxOf_K', cxOf_mg, cxOf_mg']
  unfold sp__law_together at h
  split at h
  case h_2 => exact h.elim
  rename_i wa pa
  rw [show L2.start ["_law_ways_here", "_law_places", "_law_rows", "_law_kept", "_law_much", "_law_found", "_law_one", "_law_row_here", "_law_other", "_law_total"] [V.ref wa, V.ref pa] = [some (V.ref wa), some (V.ref pa), none, none, none, none, none, none, none, none] from rfl]
  obtain ⟨W, ps, us, D, hw, hW, hpa, d0, d1, gw, wl, pl, q⟩ := h
  have ul : us.length = W.length := Paired.length hW
  walk_at "sts"
  walk_at "nwp"
  rename_i d hd H1 s1 e1
  walk_at "sts"
  refine L_rl (s1.seq hw) ?_
  refine f_it walk_list (fun i σ' H' => ∃ (kvs : List (List Key × V)) (v3 v4 : Option V), σ' = [some (.ref wa), some (.ref pa), some (.ref d), v3, v4, none, none, none, none, none] ∧ Same H H' ∧ H' d = some (.dT kvs) ∧ Paired (RtP K H') kvs (rowsW (W.take i))) ⟨[], _, _, rfl, s1, e1, .nil⟩ (fun _ _ _ _ ⟨_, _, _, _, s, _⟩ => s.seq hw) ?_ ?_
  · rintro i x σ' Hy H2 hi ⟨kvs, v3, v4, rfl, s2, e2, p2⟩ ⟨rfl, hx⟩
    obtain ⟨w, hwi, q0, kp, m, rfl, h1, h2, h3⟩ := paired_nth hW hx
    have hwm := List.mem_of_getElem? hwi
    obtain ⟨g1, nd1, ln1⟩ := gw.rows i (by omega)
    refine L_gTup (.of (s2 _ _ h1)) rfl ?_
    walk_at "sts"
    refine L_isdT e2 ?_
    walk_at "sts"
    walk_at "nw"
    rename_i p1 hp1 H3 s3 e3
    have s23 := s2.trans s3
    have hk3 : H3 kp = some (.tup ((kL w.1).map kV)) := by rw [kL_v]; exact s23 _ _ h2
    refine L_dgT (k := kL w.1) (s3 _ _ e2) hk3 ?_
    have hz := rt_val (k := w.1) p2
    have hold : ∃ t, ((valV kvs (kL w.1)).getD (.ref p1)) = .ref t ∧ QtA K H3 t (lookW (rowsW (W.take i)) w.1) := by
      rcases hz with ⟨z1, _, z3⟩ | ⟨t, z1, z2, _⟩
      · rw [z1, z3]
        exact ⟨p1, rfl, .of e3⟩
      · rw [z1]
        exact ⟨t, rfl, s3.seqT z2⟩
    have bo : BdQ 990 (lookW (rowsW (W.take i)) w.1) := by
      rcases hz with ⟨_, _, z3⟩ | ⟨_, _, _, z3⟩
      · rw [z3]
        exact ⟨by unfold Bd; decide +kernel, by unfold Bd; decide +kernel⟩
      · obtain ⟨z, hz, _, e⟩ := lookW_at z3
        rw [← e]
        exact GoodW.bd d0 d1 g1 hz
    obtain ⟨t, et, ht⟩ := hold
    rw [et]
    walk_at "sts"
    refine ⟨_, w.2, ht, s23.seqT h3, bo, gw.bd d0 d1 hwm, fun p4 H4 hp4 s4 e4 => ?_⟩
    have s34 := s3.trans s4
    walk_at "sts"
    have hlk := rt_len p2
    refine L_dputT (k := kL w.1) (s34 _ _ e2) (s4 _ _ hk3) (by omega) ?_
    have p24 := paired_imp2 (fun _ _ h => RtP.same h s34) p2
    have hput := rt_put (k := w.1) (v := w.2) (t := p4) p24 nd1 (.of e4)
    have e24 := s34 _ _ e2
    walk_at "sts"
    refine ⟨_, _, _, rfl, fun b o hb => ?_, upd_same, ?_⟩
    · rw [upd_ne fun z => by rw [z, hd] at hb; cases hb]
      exact s34 _ _ (s2 _ _ hb)
    · have tk : rowsW (W.take (i + 1)) = addW (rowsW (W.take i)) w.1 w.2 := by
        rw [show W.take (i + 1) = W.take i ++ [w] by rw [List.take_succ, hwi]; rfl]
        unfold rowsW
        rw [List.foldl_append]
        rfl
      rw [tk]
      exact paired_imp2 (fun _ _ h => RtP.keep h e24 fun b o hb ne => by rw [upd_ne ne]; exact hb) hput
  rintro σ' H2 ⟨kvs, v3, v4, rfl, s2, e2, p2⟩
  obtain ⟨g1, nd1, ln1⟩ := gw.rows us.length (by omega)
  have eev : ∀ i j, evW (bothF i j) (rowsW (W.take us.length)) = evW (bothF i j) W := fun i j => by
    rw [evW_rows, ul, List.take_length]
  generalize rowsW (W.take us.length) = Z at *
  have hlk := rt_len p2
  walk_at "sts"
  walk_at "nw"
  rename_i f hf H3 s3 e3
  walk_at "sts"
  refine L_rl ((s2.trans s3).seq hpa) ?_
  have hpa2 := s2.seq hpa
  refine f_it walk_list (fun i σ' H' => ∃ (os : List Addr) (v3 v4 v6 v7 v8 v9 : Option V), σ' = [some (.ref wa), some (.ref pa), some (.ref d), v3, v4, some (.ref f), v6, v7, v8, v9] ∧ Same H2 H' ∧ H' f = some (.lst (os.map V.ref)) ∧ RowsN K H2 H' f os ((ps.take i).map fun i => ps.map fun j => qt (evW (bothF i j) W))) ⟨[], _, _, _, _, _, _, rfl, s3, e3, ⟨.nil, (fun _ h => nomatch h), .nil⟩⟩ (fun _ _ _ _ ⟨_, _, _, _, _, _, _, _, s, _⟩ => s.seq hpa2) ?_ ?_
  · rintro i x σ' Hy H4 hi ⟨os, v3, v4, v6, v7, v8, v9, rfl, s4, e4, rn4⟩ ⟨rfl, hx⟩
    rw [List.getElem?_map] at hx
    obtain ⟨one, hone, rfl⟩ := Option.map_eq_some_iff.mp hx
    walk_at "sts"
    walk_at "nw"
    rename_i t ht H5 s5 e5
    walk_at "sts"
    refine L_rl ((s4.trans s5).seq hpa2) ?_
    refine f_it walk_list (fun j σ' H' => ∃ (xs : List V) (v3 v4 v8 v9 : Option V), σ' = [some (.ref wa), some (.ref pa), some (.ref d), v3, v4, some (.ref f), some (.int one), some (.ref t), v8, v9] ∧ Same H4 H' ∧ H' t = some (.lst xs) ∧ Paired (Q2 K H') xs ((ps.take j).map fun j => qt (evW (bothF one j) W))) ⟨[], _, _, _, _, rfl, s5, e5, .nil⟩ (fun _ _ _ _ ⟨_, _, _, _, _, _, s, _⟩ => (s4.trans s).seq hpa2) ?_ ?_
    · rintro j x σ' Hz H6 hj ⟨xs, v3, v4, v8, v9, rfl, s6, e6, q6⟩ ⟨rfl, hx6⟩
      rw [List.getElem?_map] at hx6
      obtain ⟨oth, hoth, rfl⟩ := Option.map_eq_some_iff.mp hx6
      have d6 := s6 _ _ (s4 _ _ e2)
      have p6 := paired_imp2 (fun _ _ h => RtP.same h (s4.trans s6)) p2
      walk_at "sts"
      walk_at "nw"
      rename_i t0 ht0 H7 s7 e7
      walk_at "sts"
      have d7 := s7 _ _ d6
      refine ⟨d, .dT kvs, d7, trivial, fun od => ?_⟩
      have f8 : L2.upd H7 d (.frz od (.dT kvs)) d = some (.frz od (.dT kvs)) := upd_same
      have p8 : Paired (RtP K (L2.upd H7 d (.frz od (.dT kvs)))) kvs Z := paired_imp2 (fun _ _ h => (RtP.same h s7).keep d7 fun b o hb ne => by rw [upd_ne ne]; exact hb) p6
      have k8 : KpT H7 (L2.upd H7 d (.frz od (.dT kvs))) d := fun b o hb ne => by rw [upd_ne ne]; exact hb
      have tt8 := sq_lock (o := od) d7 (SqT.of (K := K) e7)
      generalize L2.upd H7 d (.frz od (.dT kvs)) = H8 at f8 p8 k8 tt8 ⊢
      walk_at "sts"
      refine L_iItemsT ?_
      walk_at "sts"
      refine ⟨d, od, kvs, rfl, f8, ?_⟩
      refine f_it walk_itemsT (fun k σ' H' => ∃ (tp : Addr) (v3 v4 : Option V), σ' = [some (.ref wa), some (.ref pa), some (.ref d), v3, v4, some (.ref f), some (.int one), some (.ref t), some (.int oth), some (.ref tp)] ∧ Same H8 H' ∧ QtA K H' tp (evW (bothF one oth) (Z.take k))) ⟨t0, _, _, rfl, .refl _, by rw [List.take_zero]; exact tt8⟩ (fun _ _ _ _ ⟨_, _, _, _, s, _⟩ => s _ _ f8) ?_ ?_
      · rintro k x σ' H9 H9' hk ⟨tp, v3, v4, rfl, s9, htp⟩ ⟨T1, kq1, k0, v, hkv, rfl, hT1, hkq1, rfl⟩
        obtain ⟨z, hz, ek, zp, ev, hzp⟩ := paired_nth p8 hkv
        dsimp only at ek ev
        subst ek ev
        have hzm := List.mem_of_getElem? hz
        have s10 : Same H9 (L2.upd H9 T1 (.tup [.ref kq1, .ref zp])) := same_new hT1
        refine L_gTup (.of upd_same) rfl ?_
        generalize L2.upd H9 T1 (.tup [.ref kq1, .ref zp]) = H10 at s10 ⊢
        have s810 := s9.trans s10
        have hkq2 : H10 kq1 = some (.tup (z.1.map V.int)) := by rw [← kL_v]; exact s10 _ _ hkq1
        have tks : evW (bothF one oth) (Z.take (k + 1)) = evW (bothF one oth) (Z.take k) + z.2 * bothF one oth z.1 := by
          rw [show Z.take (k + 1) = Z.take k ++ [z] by rw [List.take_succ, hz]; rfl, evW_snoc]
        have bj := g1.part (g := bothF one oth) d0 d1 (bothF_01 _ _) k
        walk_at "sts"
        refine L_inTi (.of hkq2) ?_
        walk_at "sts"
        refine L_d (fun c1 => ?_) (fun c1 => ?_)
        · walk_at "sts"
          refine L_inTi (.of hkq2) ?_
          walk_at "sts"
          refine L_d (fun c2 => ?_) (fun c2 => ?_)
          · have ef : bothF one oth z.1 = 1 := if_pos ⟨c1, c2⟩
            walk_at "sts"
            refine ⟨_, z.2, s10.seqT htp, s810.seqT hzp, bj, g1.bd d0 d1 hzm, fun pn H11 hpn s11 e11 => ?_⟩
            walk_at "sts"
            refine ⟨pn, _, _, rfl, s810.trans s11, ?_⟩
            rw [tks, ef, Rat.mul_one]
            exact .of e11
          · have ef : bothF one oth z.1 = 0 := if_neg (fun z => c2 z.2)
            walk_at "sts"
            refine ⟨tp, _, _, rfl, s810, ?_⟩
            rw [tks, ef, Rat.mul_zero, Rat.add_zero]
            exact s10.seqT htp
        · have ef : bothF one oth z.1 = 0 := if_neg (fun z => c1 z.1)
          walk_at "sts"
          refine ⟨tp, _, _, rfl, s810, ?_⟩
          rw [tks, ef, Rat.mul_zero, Rat.add_zero]
          exact s10.seqT htp
      · rintro σ' H9 ⟨tp, v3, v4, rfl, s9, htp⟩
        have f9 := s9 _ _ f8
        refine ⟨f9, ?_⟩
        rw [hlk, List.take_length, eev] at htp
        have sz9 : Same H6 (L2.upd H9 d (.dT kvs)) := fun b o hb => by
          by_cases cb : b = d
          · rw [cb, upd_same]
            rw [cb, d6] at hb
            exact hb
          · rw [upd_ne cb]
            exact s9 _ _ (k8 _ _ (s7 _ _ hb) cb)
        have ht9 : QtA K (L2.upd H9 d (.dT kvs)) tp (evW (bothF one oth) W) := by
          rcases htp with (h | ⟨o, h⟩) | h
          · exact .of (by rw [upd_ne fun z => by rw [z, f9] at h; cases h]; exact h)
          · exact .inl (.inr ⟨o, by rw [upd_ne fun z => by rw [z, f9] at h; cases h]; exact h⟩)
          · exact .inr h
        generalize L2.upd H9 d (.dT kvs) = H10 at sz9 ht9 ⊢
        walk_at "sts"
        have e10 := sz9 _ _ e6
        refine L_tyL (.of e10) ?_
        walk_at "sts"
        have xl := Paired.length q6
        rw [List.length_map, List.length_take] at xl
        refine L_app e10 (sz_lt (by omega)) ?_
        walk_at "sts"
        refine ⟨xs ++ [.ref tp], _, _, _, _, rfl, same_mut (s6.trans sz9) ht, upd_same, ?_⟩
        have tk2 : (ps.take (j + 1)).map (fun j => qt (evW (bothF one j) W)) = (ps.take j).map (fun j => qt (evW (bothF one j) W)) ++ [qt (evW (bothF one oth) W)] := by
          rw [show ps.take (j + 1) = ps.take j ++ [oth] by rw [List.take_succ, hoth]; rfl, List.map_append]
          rfl
        rw [tk2]
        exact paired_app (paired_imp2 (fun _ _ h => (Q2.same h sz9).mu e10) q6) (.cons ⟨tp, rfl, sqT_upd e10 ht9⟩ .nil)
    · rintro σ' H6 ⟨xs, v3, v4, v8, v9, rfl, s6, e6, q6⟩
      rw [List.length_map, List.take_length] at q6
      walk_at "sts"
      have f6 := s6 _ _ e4
      refine L_tyL (.of f6) ?_
      walk_at "sts"
      have ol := rn4.len
      rw [List.length_map, List.length_take] at ol
      refine L_app f6 (sz_lt (by rw [List.length_map]; omega)) ?_
      walk_at "sts"
      refine ⟨os ++ [t], _, _, _, _, _, _, rfl, same_mut (s4.trans s6) hf, by rw [List.map_append]; exact upd_same, ?_⟩
      have tk3 : (ps.take (i + 1)).map (fun i => ps.map fun j => qt (evW (bothF i j) W)) = (ps.take i).map (fun i => ps.map fun j => qt (evW (bothF i j) W)) ++ [ps.map fun j => qt (evW (bothF one j) W)] := by
        rw [show ps.take (i + 1) = ps.take i ++ [one] by rw [List.take_succ, hone]; rfl, List.map_append]
        rfl
      rw [tk3]
      exact rn4.grow s6 s4 ht e4 e6 q6
  · rintro σ' H4 ⟨os, v3, v4, v6, v7, v8, v9, rfl, s4, e4, rn4⟩
    rw [List.length_map, List.take_length] at rn4
    walk_at "sts"
    exact q f H4 os (s2.free hf) (s2.trans s4) e4 ⟨rn4.nd, fun o ho => ⟨s2.free (rn4.new o ho).1, (rn4.new o ho).2⟩, rn4.at_⟩
def inF (i : Int) (c : List Int) : Rat := if i ∈ c then 1 else 0
theorem lws_one {i : Int} : ∀ (ps : List Int) (ss : List (Int × Int)) (a : Nat), ps.length = ss.length → (∀ s ∈ ss, Sh1 s) → ps.Nodup → ps[a]? = some i → evW (inF i) (lws ps ss) = av (ss.getD a (0, 1))
  | [], _, _, _, _, _, h => by simp at h
  | p :: ps, [], _, h, _, _, _ => by simp at h
  | p :: ps, s :: ss, a, hl, hs, nd, h => by
    rw [List.nodup_cons] at nd
    rw [List.length_cons, List.length_cons] at hl
    have hs2 : ∀ s ∈ ss, Sh1 s := fun x hx => hs x (List.mem_cons_of_mem _ hx)
    rw [lws_step _ (hs s List.mem_cons_self)]
    cases a with
    | zero =>
      cases h
      have e1 : evW (fun c => inF i (i :: c)) (lws ps ss) = 1 := by
        rw [evW_congr (h := fun _ => 1) fun z _ => if_pos List.mem_cons_self, lws_total ps ss (by omega) hs2]
      have e2 : evW (inF i) (lws ps ss) = 0 := by
        rw [evW_congr (h := fun _ => 0) fun z hz => if_neg fun m => nd.1 ((lws_sub ps ss (by omega) hs2 z hz).subset m), evW_zero]
      rw [e1, e2]
      show av s * 1 + (1 - av s) * 0 = av s
      grind
    | succ a =>
      have h' : ps[a]? = some i := h
      have hm := List.mem_of_getElem? h'
      have ne : i ≠ p := fun z => nd.1 (z ▸ hm)
      have e1 : evW (fun c => inF i (p :: c)) (lws ps ss) = evW (inF i) (lws ps ss) := evW_congr fun z _ => by
        show inF i (p :: z.1) = inF i z.1
        unfold inF
        by_cases c : i ∈ z.1
        · rw [if_pos c, if_pos (List.mem_cons_of_mem _ c)]
        · rw [if_neg c, if_neg fun w => (List.mem_cons.mp w).elim ne c]
      rw [e1, lws_one ps ss a (by omega) hs2 nd.2 h']
      show av s * av (ss.getD a (0, 1)) + (1 - av s) * av (ss.getD a (0, 1)) = av (ss.getD a (0, 1))
      grind
theorem bothF_eq {i j : Int} (c : List Int) : bothF i j c = inF i c * inF j c := by
  unfold bothF inF
  by_cases a : i ∈ c
  · by_cases b : j ∈ c
    · rw [if_pos ⟨a, b⟩, if_pos a, if_pos b]; grind
    · rw [if_neg fun z => b z.2, if_neg b]; grind
  · rw [if_neg fun z => a z.1, if_neg a]; grind
theorem lws_two {i j : Int} : ∀ (ps : List Int) (ss : List (Int × Int)) (a b : Nat), ps.length = ss.length → (∀ s ∈ ss, Sh1 s) → ps.Nodup → ps[a]? = some i → ps[b]? = some j → a ≠ b → evW (bothF i j) (lws ps ss) = av (ss.getD a (0, 1)) * av (ss.getD b (0, 1))
  | [], _, _, _, _, _, _, h, _, _ => by simp at h
  | p :: ps, [], _, _, h, _, _, _, _, _ => by simp at h
  | p :: ps, s :: ss, a, b, hl, hs, nd, ha, hb, ne => by
    rw [List.nodup_cons] at nd
    rw [List.length_cons, List.length_cons] at hl
    have hs2 : ∀ s ∈ ss, Sh1 s := fun x hx => hs x (List.mem_cons_of_mem _ hx)
    have sub := lws_sub ps ss (by omega) hs2
    have out : ∀ k : Int, evW (bothF k p) (lws ps ss) = 0 ∧ evW (bothF p k) (lws ps ss) = 0 := fun k => by
      refine ⟨?_, ?_⟩
      · rw [evW_congr (h := fun _ => 0) fun z hz => if_neg fun m => nd.1 ((sub z hz).subset m.2), evW_zero]
      · rw [evW_congr (h := fun _ => 0) fun z hz => if_neg fun m => nd.1 ((sub z hz).subset m.1), evW_zero]
    rw [lws_step _ (hs s List.mem_cons_self)]
    cases a with
    | zero =>
      cases ha
      cases b with
      | zero => exact absurd rfl ne
      | succ b =>
        have hb' : ps[b]? = some j := hb
        have nj : j ≠ i := fun z => nd.1 (z ▸ List.mem_of_getElem? hb')
        have e1 : evW (fun c => bothF i j (i :: c)) (lws ps ss) = evW (inF j) (lws ps ss) := evW_congr fun z _ => by
          show bothF i j (i :: z.1) = inF j z.1
          unfold bothF inF
          by_cases c : j ∈ z.1
          · rw [if_pos c, if_pos ⟨List.mem_cons_self, List.mem_cons_of_mem _ c⟩]
          · rw [if_neg c, if_neg fun w => (List.mem_cons.mp w.2).elim nj c]
        rw [e1, (out j).2, lws_one ps ss b (by omega) hs2 nd.2 hb']
        show av s * av (ss.getD b (0, 1)) + (1 - av s) * 0 = av s * av (ss.getD b (0, 1))
        grind
    | succ a =>
      have ha' : ps[a]? = some i := ha
      have ni : i ≠ p := fun z => nd.1 (z ▸ List.mem_of_getElem? ha')
      cases b with
      | zero =>
        cases hb
        have e1 : evW (fun c => bothF i j (j :: c)) (lws ps ss) = evW (inF i) (lws ps ss) := evW_congr fun z _ => by
          show bothF i j (j :: z.1) = inF i z.1
          unfold bothF inF
          by_cases c : i ∈ z.1
          · rw [if_pos c, if_pos ⟨List.mem_cons_of_mem _ c, List.mem_cons_self⟩]
          · rw [if_neg c, if_neg fun w => (List.mem_cons.mp w.1).elim ni c]
        rw [e1, (out i).1, lws_one ps ss a (by omega) hs2 nd.2 ha']
        show av s * av (ss.getD a (0, 1)) + (1 - av s) * 0 = av (ss.getD a (0, 1)) * av s
        grind
      | succ b =>
        have hb' : ps[b]? = some j := hb
        have nj : j ≠ p := fun z => nd.1 (z ▸ List.mem_of_getElem? hb')
        have e1 : evW (fun c => bothF i j (p :: c)) (lws ps ss) = evW (bothF i j) (lws ps ss) := evW_congr fun z _ => by
          show bothF i j (p :: z.1) = bothF i j z.1
          unfold bothF
          by_cases c : i ∈ z.1 ∧ j ∈ z.1
          · rw [if_pos c, if_pos ⟨List.mem_cons_of_mem _ c.1, List.mem_cons_of_mem _ c.2⟩]
          · rw [if_neg c, if_neg fun w => c ⟨(List.mem_cons.mp w.1).resolve_left ni, (List.mem_cons.mp w.2).resolve_left nj⟩]
        rw [e1, lws_two ps ss a b (by omega) hs2 nd.2 ha' hb' (fun z => ne (by rw [z]))]
        show av s * (av (ss.getD a (0, 1)) * av (ss.getD b (0, 1))) + (1 - av s) * (av (ss.getD a (0, 1)) * av (ss.getD b (0, 1))) = av (ss.getD a (0, 1)) * av (ss.getD b (0, 1))
        grind
inductive Pl where
  | few (m : Int)
  | sta (k : Nat)
  | loo (m : Int)
def PlA (mg : Str → Option Value) (x : Addr) (H : Hp) : Pl → Prop
  | .few m => FewA mg x m H
  | .sta k => StaA mg x k H
  | .loo m => LooA mg x m H
def PlOk : Pl → Prop
  | .few m => 0 ≤ m ∧ m ≤ 24
  | .sta k => 1 ≤ k ∧ k ≤ 100
  | .loo m => 0 ≤ m ∧ m ≤ 24
def plN (cr : List Mem) : Pl → Nd
  | .few m => .few (cr.map (·.1), m, [])
  | .sta k => staN (cr.map (·.1)) k
  | .loo m => looN cr m
def plB (cr : List Mem) : Pl → Int × Int
  | .few m => (min m (cr.map (·.1)).length, min m (cr.map (·.1)).length)
  | .sta k => (((cr.map (·.1)).length : Int) / k, (((cr.map (·.1)).length : Int) + k - 1) / k)
  | .loo m => (((wsh (cr.map (·.2.1)) m).count (1, 1) : Nat), ((wsh (cr.map (·.2.1)) m).length : Int) - ((wsh (cr.map (·.2.1)) m).count (0, 1) : Nat))
def plM (cr : List Mem) : Pl → List (List (Int × Int))
  | .few m => matF m (cr.map (·.1)).length
  | .sta k => matS k (cr.map (·.1)).length
  | .loo m => matW (wsh (cr.map (·.2.1)) m)
theorem PlA.ev {mg : Str → Option Value} {x : Addr} {T : List (Addr × Str)} {H H' : Hp} (e : Ev T H H') : ∀ {pl : Pl}, PlA mg x H pl → PlA mg x H' pl
  | .few _, ⟨dx, h⟩ => ⟨dx, e.ins h⟩
  | .sta _, ⟨dx, h⟩ => ⟨dx, e.ins h⟩
  | .loo _, ⟨dx, h⟩ => ⟨dx, e.ins h⟩
structure PlanW (d : Nat) (W : Wt) (D : Int) (ps : List Int) (n : Nd) (b : Int × Int) (M : List (List (Int × Int))) : Prop where
  w : waysN d n 1 = W
  d7 : d ≤ 7
  tree : TreeOk d n
  len : W.length ≤ 1000
  d0 : 0 < D
  d1 : D ≤ 2 ^ 900
  good : GoodW D W
  sub : ∀ w ∈ W, w.1.Sublist ps ∧ b.1 ≤ (w.1.length : Int) ∧ (w.1.length : Int) ≤ b.2
  mn : ∃ w ∈ W, (w.1.length : Int) = b.1
  mx : ∃ w ∈ W, (w.1.length : Int) = b.2
  one : evW (fun _ => 1) W = 1
  mat : togW W ps = M
theorem ch_le : ∀ n k : Nat, ch n k ≤ 2 ^ n
  | n, 0 => by rw [ch_zero]; exact Nat.one_le_two_pow
  | 0, k + 1 => Nat.zero_le _
  | n + 1, k + 1 => by
    have h1 := ch_le n k
    have h2 := ch_le n (k + 1)
    rw [ch_step, Nat.pow_succ]
    omega
theorem pow6 {n : Nat} (h : n ≤ 6) : 2 ^ n ≤ 64 := Nat.pow_le_pow_right (n := 2) (by decide) h
theorem low_unit {k : Int} (h : 0 < k) : low 1 k = (1, k) := by
  have g := gc_pos (a := 1) h
  have d : gc 1 k = 1 := Int.eq_one_of_dvd_one (by omega) (gc_dl (a := 1) (b := k))
  show (1 / gc 1 k, k / gc 1 k) = (1, k)
  rw [d, Int.ediv_one, Int.ediv_one]
theorem qt_unit {k : Int} (h : 0 < k) : qt (1 / (k : Rat)) = (1, k) := by
  rw [← low_unit h]
  exact (low_qt h (by rw [Rat.intCast_one])).symm
theorem getD_mem {ps : List Int} {a : Nat} (h : a < ps.length) : ps[a]? = some (ps.getD a 0) ∧ ps.getD a 0 ∈ ps := by
  have e : ps[a]? = some (ps.getD a 0) := by rw [List.getD_eq_getElem?_getD, List.getElem?_eq_getElem h]; rfl
  exact ⟨e, List.mem_of_getElem? e⟩
theorem getD_ne {ps : List Int} (nd : ps.Nodup) {a b : Nat} (ha : a < ps.length) (hb : b < ps.length) (n : a ≠ b) : ps.getD a 0 ≠ ps.getD b 0 := fun e => by
  rw [List.getD_eq_getElem?_getD, List.getD_eq_getElem?_getD, List.getElem?_eq_getElem ha, List.getElem?_eq_getElem hb] at e
  exact n ((List.getElem_inj nd).mp e)
theorem tog_of {ps : List Int} {W : Wt} {f : Nat → Nat → Int × Int} (h : ∀ a b : Nat, a < ps.length → b < ps.length → qt (evW (bothF (ps.getD a 0) (ps.getD b 0)) W) = f a b) : togW W ps = (List.range ps.length).map fun a => (List.range ps.length).map fun b => f a b := by
  unfold togW
  refine List.ext_getElem (by simp) fun a h1 h2 => ?_
  have ha : a < ps.length := by simpa using h1
  rw [List.getElem_map, List.getElem_map, List.getElem_range]
  refine List.ext_getElem (by simp) fun b h3 h4 => ?_
  have hb : b < ps.length := by simpa using h3
  rw [List.getElem_map, List.getElem_map, List.getElem_range, ← h a b ha hb, List.getD_eq_getElem?_getD, List.getD_eq_getElem?_getD, List.getElem?_eq_getElem ha, List.getElem?_eq_getElem hb]
  rfl
/-! Few -/
theorem few_tree : ∀ (d : Nat) (ps : List Int) (m : Int) (ks : List Int), ps.length ≤ d → ps.length ≤ 24 → 0 ≤ m → TreeOk d (.few (ps, m, ks)) := by
  intro d
  induction d with
  | zero =>
    intro ps m ks hd _ m0
    obtain rfl : ps = [] := List.eq_nil_of_length_eq_zero (by omega)
    show toldF ([], m, ks) ≠ none
    unfold toldF
    split
    · exact fun z => nomatch z
    · rw [if_pos (show ((([] : List Int).length : Nat) : Int) ≤ m by simpa using m0)]
      exact fun z => nomatch z
  | succ d ih =>
    intro ps m ks hd h24 m0
    cases e : told (.few (ps, m, ks)) with
    | some l => exact .inl (by rw [e]; exact fun z => nomatch z)
    | none =>
      have hw := few_wide (n := (ps, m, ks)) e
      have w1 : m ≠ 0 := hw.1
      have w2 : m < ps.length := hw.2
      have ep : parts (.few (ps, m, ks)) = [(m, .few (first (ps, m, ks))), ((ps.length : Int) - m, .few (second (ps, m, ks)))] := rfl
      have es : sidesN (.few (ps, m, ks)) = ps.length := by
        unfold sidesN
        rw [ep]
        simp only [List.map_cons, List.map_nil, List.sum_cons, List.sum_nil]
        omega
      refine .inr ⟨by rw [es]; omega, by rw [es]; exact bd_64 (by omega), by rw [ep]; simp, fun p hp => ?_⟩
      rw [ep] at hp
      have l1 : (ps.drop 1).length ≤ d := by rw [List.length_drop]; omega
      have l2 : (ps.drop 1).length ≤ 24 := by rw [List.length_drop]; omega
      simp only [List.mem_cons, List.not_mem_nil, or_false] at hp
      rcases hp with rfl | rfl
      · exact ⟨bd_64 (by show -18446744073709551616 < m ∧ m < 18446744073709551616; omega), ih (ps.drop 1) (m - 1) _ l1 l2 (by omega)⟩
      · exact ⟨bd_64 (by show -18446744073709551616 < (ps.length : Int) - m ∧ (ps.length : Int) - m < 18446744073709551616; omega), ih (ps.drop 1) m _ l1 l2 m0⟩
/-- the ways of Few: each set, each with the same share -/
theorem few_W {ps : List Int} (hup : ps.Pairwise (· < ·)) {m : Int} (m0 : 0 ≤ m) {d : Nat} (hd : ps.length ≤ d) : waysN d (.few (ps, m, [])) 1 = (subs (min m ps.length).toNat ps).map fun c => (c, 1 / ((ch ps.length (min m ps.length).toNat : Nat) : Rat)) := by
  have fin : ∀ k : Nat, ((subs k ps).map fun c => (srtI ([] ++ c), (1 : Rat) / ((ch ps.length k : Nat) : Rat))) = (subs k ps).map fun c => (c, 1 / ((ch ps.length k : Nat) : Rat)) := fun k => List.map_congr_left fun c hc => by
    rw [List.nil_append, srtI_sub hup (subs_sub hc).1]
  by_cases c : (ps.length : Int) ≤ m
  · have hk : (min m ps.length).toNat = ps.length := by omega
    rw [hk, ← fin, subs_all, ch_self]
    have ht : told (.few (ps, m, [])) = some (srtI ([] ++ ps)) := by
      show toldF (ps, m, []) = _
      unfold toldF
      by_cases z : m = 0
      · rw [if_pos z]
        obtain rfl : ps = [] := List.eq_nil_of_length_eq_zero (by omega)
        rfl
      · rw [if_neg z, if_pos c]
    rw [waysN_some ht]
    show [_] = [_]
    rw [show (((1 : Nat) : Rat)) = 1 from rfl, show (1 : Rat) / 1 = 1 by grind]
  · obtain ⟨k, rfl⟩ : ∃ k : Nat, m = k := ⟨m.toNat, by omega⟩
    have hk : (min (k : Int) ps.length).toNat = k := by omega
    rw [hk, few_ways ps k [] d 1 hd (by omega), fin]
theorem few_pw {ps : List Int} (hup : ps.Pairwise (· < ·)) (h6 : ps.length ≤ 6) {m : Int} (m0 : 0 ≤ m) (m1 : m ≤ 24) : ∃ d W D, PlanW d W D ps (.few (ps, m, [])) (min m ps.length, min m ps.length) (matF m ps.length) := by
  have nd : ps.Nodup := hup.imp fun z => Int.ne_of_lt z
  have hk2 : (min m (ps.length : Int)).toNat ≤ ps.length := by omega
  have ek : (((min m (ps.length : Int)).toNat : Nat) : Int) = min m ps.length := by omega
  have hC := ch_q hk2
  have hCp := ch_pos hk2
  have hCl := Nat.le_trans (ch_le ps.length (min m (ps.length : Int)).toNat) (pow6 h6)
  have hw := few_W hup m0 (d := ps.length) (Nat.le_refl _)
  have hl := subs_len (min m (ps.length : Int)).toNat ps
  have hne : ∃ c, c ∈ subs (min m (ps.length : Int)).toNat ps := List.exists_mem_of_length_pos (by omega)
  have hx : (((ch ps.length (min m (ps.length : Int)).toNat : Nat) : Rat)) * (1 / ((ch ps.length (min m (ps.length : Int)).toNat : Nat) : Rat)) = 1 := by grind
  have hone : evW (fun _ => 1) ((subs (min m (ps.length : Int)).toNat ps).map fun c => (c, 1 / ((ch ps.length (min m (ps.length : Int)).toNat : Nat) : Rat))) = 1 := by
    rw [evW_cnt (q := fun _ => true) (fun c => (if_pos rfl).symm) _ _, List.countP_true, hl]
    exact hx
  refine ⟨ps.length, _, ((ch ps.length (min m (ps.length : Int)).toNat : Nat) : Int), hw, by omega, few_tree _ _ _ _ (Nat.le_refl _) (by omega) m0, by rw [List.length_map, hl]; omega, by omega, ?_, ⟨fun z hz => ?_, by rw [hone]; exact Rat.le_refl⟩, fun z hz => ?_, ?_, ?_, hone, ?_⟩
  · have : ((ch ps.length (min m (ps.length : Int)).toNat : Nat) : Int) ≤ 64 := by omega
    exact Int.le_trans this (by decide +kernel)
  · obtain ⟨c, _, rfl⟩ := List.mem_map.mp hz
    refine ⟨div_nn (by grind) hC, 1, ?_⟩
    show 1 / ((ch ps.length (min m (ps.length : Int)).toNat : Nat) : Rat) * _ = _
    rw [Rat.intCast_natCast, Rat.intCast_one]
    grind
  · obtain ⟨c, hc, rfl⟩ := List.mem_map.mp hz
    obtain ⟨h1, h2⟩ := subs_sub hc
    exact ⟨h1, by show min m (ps.length : Int) ≤ (c.length : Int); omega, by show (c.length : Int) ≤ min m (ps.length : Int); omega⟩
  · obtain ⟨c, hc⟩ := hne
    exact ⟨_, List.mem_map.mpr ⟨c, hc, rfl⟩, by have := (subs_sub hc).2; show (c.length : Int) = _; omega⟩
  · obtain ⟨c, hc⟩ := hne
    exact ⟨_, List.mem_map.mpr ⟨c, hc, rfl⟩, by have := (subs_sub hc).2; show (c.length : Int) = _; omega⟩
  · refine tog_of fun a b ha hb => ?_
    obtain ⟨_, ma⟩ := getD_mem ha
    obtain ⟨_, mb⟩ := getD_mem hb
    have hg : ∀ c, bothF (ps.getD a 0) (ps.getD b 0) c = if (fun c : List Int => decide (ps.getD a 0 ∈ c ∧ ps.getD b 0 ∈ c)) c = true then 1 else 0 := fun c => by
      unfold bothF
      by_cases z : ps.getD a 0 ∈ c ∧ ps.getD b 0 ∈ c
      · rw [if_pos z, if_pos (decide_eq_true z)]
      · rw [if_neg z, if_neg (by simpa using z)]
    rw [evW_cnt hg]
    generalize hkk : (min m (ps.length : Int)).toNat = k at *
    generalize hpa : ps.getD a 0 = p at *
    generalize hpb : ps.getD b 0 = q at *
    obtain ⟨n', hn'⟩ : ∃ n', ps.length = n' + 1 := ⟨ps.length - 1, by omega⟩
    have nq1 : (((n' + 1 : Nat) : Int) : Rat) = (n' : Rat) + 1 := by rw [Rat.intCast_natCast, Rat.natCast_add]; rfl
    have nn : (0 : Rat) ≤ (n' : Rat) := by rw [nq]; exact Rat.intCast_nonneg.mpr (by omega)
    unfold chF
    by_cases e : a = b
    · subst e
      have epq : p = q := hpa.symm.trans hpb
      subst epq
      rw [if_pos rfl, shr_low (show 0 < (ps.length : Int) by omega)]
      refine (low_qt (show 0 < (ps.length : Int) by omega) ?_).symm
      rw [← ek, hn', nq1, Rat.intCast_natCast]
      have hcc : (subs k ps).countP (fun c => decide (p ∈ c ∧ p ∈ c)) = (subs k ps).countP (fun c => decide (p ∈ c)) := List.countP_congr fun c _ => by simp
      rw [hcc]
      cases k with
      | zero =>
        rw [subs_zero]
        show (((0 : Nat)) : Rat) * _ = _
        rw [show (((0 : Nat) : Rat)) = 0 from rfl]
        grind
      | succ k =>
        rw [cnt_one nd ma hn']
        have up := ch_up_q n' k
        rw [hn'] at hC
        have k1 : (((k + 1 : Nat)) : Rat) = (k : Rat) + 1 := by rw [Rat.natCast_add]; rfl
        rw [k1]
        generalize ((ch (n' + 1) (k + 1) : Nat) : Rat) = C at *
        generalize ((ch n' k : Nat) : Rat) = B at *
        generalize (n' : Rat) = N at *
        generalize (k : Rat) = M at *
        grind
    · have ne : p ≠ q := by rw [← hpa, ← hpb]; exact getD_ne nd ha hb e
      obtain ⟨n, rfl⟩ : ∃ n, n' = n + 1 := ⟨n' - 1, by omega⟩
      have hbn : 0 < (ps.length : Int) * ((ps.length : Int) - 1) := Int.mul_pos (by omega) (by omega)
      rw [if_neg (by omega), shr_low hbn]
      refine (low_qt hbn ?_).symm
      rw [← ek, hn', show (((n + 1 + 1 : Nat) : Int) - 1) = ((n + 1 : Nat) : Int) by omega, Rat.intCast_mul, Rat.intCast_mul]
      have nq2 : (((n + 1 + 1 : Nat) : Int) : Rat) = (n : Rat) + 1 + 1 := by rw [Rat.intCast_natCast, Rat.natCast_add, Rat.natCast_add]; rfl
      have nq3 : (((n + 1 : Nat) : Int) : Rat) = (n : Rat) + 1 := by rw [Rat.intCast_natCast, Rat.natCast_add]; rfl
      have nn2 : (0 : Rat) ≤ (n : Rat) := by rw [nq]; exact Rat.intCast_nonneg.mpr (by omega)
      rw [nq2, nq3]
      match k, hkk, hC, hk2, hl, hCp with
      | 0, _, _, _, _, _ =>
        rw [subs_zero]
        show (((0 : Nat)) : Rat) * _ = _
        rw [show (((0 : Nat) : Rat)) = 0 from rfl, show ((((0 : Nat)) : Int) : Rat) = 0 from rfl]
        grind
      | 1, _, _, _, _, _ =>
        have z : (subs 1 ps).countP (fun c => decide (p ∈ c ∧ q ∈ c)) = 0 := cnt_none fun c hc => decide_eq_false fun w => by
          have hc2 := (subs_sub hc).2
          match c, hc2, w with
          | [x], _, ⟨w1, w2⟩ =>
            rw [List.mem_singleton] at w1 w2
            exact ne (w1.trans w2.symm)
        rw [z, show (((0 : Nat) : Rat)) = 0 from rfl, show (((((1 : Nat)) : Int) - 1 : Int) : Rat) = 0 from rfl]
        grind
      | k + 2, _, hC, _, _, _ =>
        rw [cnt_two ne nd ma mb hn']
        have up1 := ch_up_q (n + 1) (k + 1)
        have up2 := ch_up_q n k
        rw [hn'] at hC
        have k2 : ((((k + 2 : Nat)) : Int) : Rat) = (k : Rat) + 1 + 1 := by rw [Rat.intCast_natCast, Rat.natCast_add]; show (k : Rat) + 2 = _; grind
        have k1 : (((((k + 2 : Nat)) : Int) - 1 : Int) : Rat) = (k : Rat) + 1 := by rw [show ((((k + 2 : Nat)) : Int) - 1 : Int) = ((k + 1 : Nat) : Int) by omega, Rat.intCast_natCast, Rat.natCast_add]; rfl
        have k3 : ((((k + 1 : Nat))) : Rat) = (k : Rat) + 1 := by rw [Rat.natCast_add]; rfl
        have n3 : ((((n + 1 : Nat))) : Rat) = (n : Rat) + 1 := by rw [Rat.natCast_add]; rfl
        rw [k2, k1]
        rw [k3, n3] at up1
        show ((ch n k : Nat) : Rat) * (1 / ((ch (n + 1 + 1) (k + 1 + 1) : Nat) : Rat)) = _
        have hC' : (0 : Rat) < ((ch (n + 1 + 1) (k + 1 + 1) : Nat) : Rat) := hC
        clear hC nq1 nq2 nq3 k1 k2 k3 n3 nn
        generalize ((ch (n + 1 + 1) (k + 1 + 1) : Nat) : Rat) = C at *
        generalize ((ch (n + 1) (k + 1) : Nat) : Rat) = B at *
        generalize ((ch n k : Nat) : Rat) = A at *
        generalize (n : Rat) = N at *
        generalize (k : Rat) = M at *
        have z1 : N + 1 ≠ 0 := by grind
        have z2 : N + 1 + 1 ≠ 0 := by grind
        have z3 : C ≠ 0 := by grind
        have e1 : A * ((N + 1 + 1) * (N + 1)) = (M + 1 + 1) * (M + 1) * C := by
          have : (N + 1 + 1) * ((N + 1) * A) = (M + 1) * ((M + 1 + 1) * C) := by rw [← up2, up1]; grind
          grind
        grind
/-! Loose -/
def dl : List (Int × Int) → Int
  | [] => 1
  | s :: ss => s.2 * dl ss
theorem dl_pos : ∀ {ss : List (Int × Int)}, (∀ s ∈ ss, Sh1 s) → 0 < dl ss
  | [], _ => (by decide : (0 : Int) < 1)
  | s :: ss, h => Int.mul_pos (h s List.mem_cons_self).pos (dl_pos fun x hx => h x (List.mem_cons_of_mem _ hx))
theorem dl_bd : ∀ {ss : List (Int × Int)}, (∀ s ∈ ss, Sh1 s) → dl ss ≤ 2 ^ (64 * ss.length)
  | [], _ => (by decide : (1 : Int) ≤ 1)
  | s :: ss, h => by
    have ih := dl_bd fun x hx => h x (List.mem_cons_of_mem _ hx)
    have p := dl_pos fun x hx => h x (List.mem_cons_of_mem _ hx)
    have hs := h s List.mem_cons_self
    have h1 : s.2 ≤ 2 ^ 64 := by
      have hp := hs.pos
      rcases hs with rfl | rfl | ⟨_, b⟩
      · decide
      · decide
      · unfold Bd at b
        have e : ((2 ^ 64 : Nat) : Int) = 2 ^ 64 := by norm_cast
        omega
    rw [List.length_cons, show 64 * (ss.length + 1) = 64 + 64 * ss.length by omega, Int.pow_add]
    exact Int.mul_le_mul h1 ih (by omega) (by decide)
theorem av_b {s : Int × Int} (c : opn s) : 0 ≤ av s ∧ 0 ≤ 1 - av s := by
  have c1 := c.1
  have c2 := c.2
  have hq := iq_pos (show 0 < s.2 by omega)
  have h1 : av s ≤ 1 := div_le1 (Rat.intCast_le_intCast.mpr (by omega)) hq
  exact ⟨div_nn (Rat.intCast_nonneg.mpr (by omega)) hq, by grind⟩
theorem lws_good : ∀ (ps : List Int) (ss : List (Int × Int)), ps.length = ss.length → (∀ s ∈ ss, Sh1 s) → ∀ w ∈ lws ps ss, 0 ≤ w.2 ∧ isI (w.2 * (dl ss : Rat)) :=
  lws_ind (M := fun _ ss w => 0 ≤ w.2 ∧ isI (w.2 * (dl ss : Rat))) ⟨by decide +kernel, 1, by show (1 : Rat) * ((1 : Int) : Rat) = _; grind⟩ (fun p ps s ss w c h => by
    obtain ⟨a0, a1⟩ := av_b c
    have c1 := c.1
    have c2 := c.2
    have hq := iq_pos (show 0 < s.2 by omega)
    refine ⟨⟨Rat.mul_nonneg a0 h.1, ?_⟩, Rat.mul_nonneg a1 h.1, ?_⟩
    · have e : av s * w.2 * ((s.2 * dl ss : Int) : Rat) = (s.1 : Rat) * (w.2 * (dl ss : Rat)) := by
        rw [Rat.intCast_mul]
        unfold av
        grind
      show isI (av s * w.2 * ((s.2 * dl ss : Int) : Rat))
      rw [e]
      exact isI_mul (isI_int _) h.2
    · have e : (1 - av s) * w.2 * ((s.2 * dl ss : Int) : Rat) = ((s.2 - s.1 : Int) : Rat) * (w.2 * (dl ss : Rat)) := by
        rw [Rat.intCast_mul, Rat.intCast_sub]
        unfold av
        grind
      show isI ((1 - av s) * w.2 * ((s.2 * dl ss : Int) : Rat))
      rw [e]
      exact isI_mul (isI_int _) h.2) (fun p ps ss w h => ⟨h.1, by show isI (w.2 * ((1 * dl ss : Int) : Rat)); rw [Int.one_mul]; exact h.2⟩) (fun p ps ss w h => ⟨h.1, by show isI (w.2 * ((1 * dl ss : Int) : Rat)); rw [Int.one_mul]; exact h.2⟩)
theorem cnt_opn {s : Int × Int} (c : opn s) (ss : List (Int × Int)) : (s :: ss).count (1, 1) = ss.count (1, 1) ∧ (s :: ss).count (0, 1) = ss.count (0, 1) := by
  have c1 := c.1
  have c2 := c.2
  refine ⟨List.count_cons_of_ne fun z => ?_, List.count_cons_of_ne fun z => ?_⟩
  · rw [z] at c2
    exact absurd c2 (by decide)
  · rw [z] at c1
    exact absurd c1 (by decide)
theorem lws_size : ∀ (ps : List Int) (ss : List (Int × Int)), ps.length = ss.length → (∀ s ∈ ss, Sh1 s) → ∀ w ∈ lws ps ss, ss.count (1, 1) ≤ w.1.length ∧ w.1.length + ss.count (0, 1) ≤ ss.length :=
  lws_ind (M := fun _ ss w => ss.count (1, 1) ≤ w.1.length ∧ w.1.length + ss.count (0, 1) ≤ ss.length) ⟨Nat.le_refl _, Nat.le_refl _⟩ (fun p ps s ss w c h => by
    obtain ⟨e1, e2⟩ := cnt_opn c ss
    simp only [e1, e2, List.length_cons]
    omega) (fun p ps ss w h => by
    have c1 : ((1, 1) :: ss).count ((1, 1) : Int × Int) = ss.count (1, 1) + 1 := List.count_cons_self
    have c2 : ((1, 1) :: ss).count ((0, 1) : Int × Int) = ss.count (0, 1) := List.count_cons_of_ne (by decide)
    simp only [c1, c2, List.length_cons]
    omega) (fun p ps ss w h => by
    have c1 : ((0, 1) :: ss).count ((0, 1) : Int × Int) = ss.count (0, 1) + 1 := List.count_cons_self
    have c2 : ((0, 1) :: ss).count ((1, 1) : Int × Int) = ss.count (1, 1) := List.count_cons_of_ne (by decide)
    simp only [c1, c2, List.length_cons]
    omega)
theorem lws_ex : ∀ (ps : List Int) (ss : List (Int × Int)), ps.length = ss.length → (∀ s ∈ ss, Sh1 s) → (∃ w ∈ lws ps ss, w.1.length = ss.count (1, 1)) ∧ ∃ w ∈ lws ps ss, w.1.length + ss.count (0, 1) = ss.length
  | [], [], _, _ => ⟨⟨_, List.mem_singleton.mpr rfl, rfl⟩, ⟨_, List.mem_singleton.mpr rfl, rfl⟩⟩
  | [], _ :: _, h, _ => by simp at h
  | _ :: _, [], h, _ => by simp at h
  | p :: ps, s :: ss, hl, hs => by
    rw [List.length_cons, List.length_cons] at hl
    obtain ⟨⟨v, hv, ev⟩, ⟨u, hu, eu⟩⟩ := lws_ex ps ss (by omega) fun x hx => hs x (List.mem_cons_of_mem _ hx)
    rcases (hs s List.mem_cons_self).cases with ⟨c, _⟩ | ⟨c, c2, rfl⟩ | ⟨c, c2, rfl⟩
    · obtain ⟨e1, e2⟩ := cnt_opn c ss
      rw [e1, e2, List.length_cons, show lws (p :: ps) (s :: ss) = (lws ps ss).map (fun w => (p :: w.1, av s * w.2)) ++ (lws ps ss).map (fun w => (w.1, (1 - av s) * w.2)) from if_pos c]
      exact ⟨⟨_, List.mem_append_right _ (List.mem_map.mpr ⟨v, hv, rfl⟩), ev⟩, ⟨_, List.mem_append_left _ (List.mem_map.mpr ⟨u, hu, rfl⟩), by show (p :: u.1).length + _ = _; rw [List.length_cons]; omega⟩⟩
    · rw [List.count_cons_self, List.count_cons_of_ne (by decide), List.length_cons, show lws (p :: ps) ((1, 1) :: ss) = (lws ps ss).map (fun w => (p :: w.1, w.2)) from (if_neg c).trans (if_pos c2)]
      exact ⟨⟨_, List.mem_map.mpr ⟨v, hv, rfl⟩, by show (p :: v.1).length = _; rw [List.length_cons]; omega⟩, ⟨_, List.mem_map.mpr ⟨u, hu, rfl⟩, by show (p :: u.1).length + _ = _; rw [List.length_cons]; omega⟩⟩
    · rw [List.count_cons_self, List.count_cons_of_ne (by decide), List.length_cons, show lws (p :: ps) ((0, 1) :: ss) = lws ps ss from (if_neg c).trans (if_neg c2)]
      exact ⟨⟨v, hv, ev⟩, ⟨u, hu, by omega⟩⟩
theorem lws_len : ∀ (ps : List Int) (ss : List (Int × Int)), (lws ps ss).length ≤ 2 ^ ps.length
  | [], _ => by unfold lws; exact Nat.le_refl _
  | p :: ps, [] => by unfold lws; exact Nat.one_le_two_pow
  | p :: ps, s :: ss => by
    have ih := lws_len ps ss
    rw [List.length_cons, Nat.pow_succ, lws]
    split
    · rw [List.length_append, List.length_map, List.length_map]
      omega
    · split
      · rw [List.length_map]
        omega
      · omega
theorem loo_tree : ∀ (ps : List Int) (ss : List (Int × Int)) (ks : List Int) (d : Nat), ps.length = ss.length → (∀ s ∈ ss, Sh1 s) → ps.length ≤ d → TreeOk d (skipL ps ss ks)
  | [], [], ks, d, _, _, _ => by
    cases d with
    | zero => exact fun z => nomatch z
    | succ d => exact .inl fun z => nomatch z
  | [], _ :: _, _, _, h, _, _ => by simp at h
  | _ :: _, [], _, _, h, _, _ => by simp at h
  | p :: ps, s :: ss, ks, d, hl, hs, hd => by
    rw [List.length_cons, List.length_cons] at hl
    rw [List.length_cons] at hd
    have hs2 : ∀ s ∈ ss, Sh1 s := fun x hx => hs x (List.mem_cons_of_mem _ hx)
    rcases (hs s List.mem_cons_self).cases with ⟨c, b⟩ | ⟨c, c2, _⟩ | ⟨c, c2, _⟩
    · obtain ⟨e, rfl⟩ : ∃ e, d = e + 1 := ⟨d - 1, by omega⟩
      have en : skipL (p :: ps) (s :: ss) ks = .loo (p :: ps) (s :: ss) ks := if_pos c
      have ep : parts (.loo (p :: ps) (s :: ss) ks) = [(s.1, skipL ps ss (ks ++ [p])), (s.2 - s.1, skipL ps ss ks)] := rfl
      have esd : sidesN (.loo (p :: ps) (s :: ss) ks) = s.2 := by
        unfold sidesN
        rw [ep]
        simp only [List.map_cons, List.map_nil, List.sum_cons, List.sum_nil]
        omega
      have c1 := c.1
      have c2 := c.2
      rw [en]
      refine .inr ⟨by rw [esd]; omega, by rw [esd]; exact b, by rw [ep]; simp, fun q hq => ?_⟩
      rw [ep] at hq
      unfold Bd at b
      simp only [List.mem_cons, List.not_mem_nil, or_false] at hq
      rcases hq with rfl | rfl
      · exact ⟨by show s.1.natAbs < 2 ^ 64; omega, loo_tree ps ss _ e (by omega) hs2 (by omega)⟩
      · exact ⟨by show (s.2 - s.1).natAbs < 2 ^ 64; omega, loo_tree ps ss _ e (by omega) hs2 (by omega)⟩
    · have en : skipL (p :: ps) (s :: ss) ks = skipL ps ss (ks ++ [p]) := (if_neg c).trans (by rw [if_pos c2]; rfl)
      rw [en]
      exact loo_tree ps ss _ d (by omega) hs2 (by omega)
    · have en : skipL (p :: ps) (s :: ss) ks = skipL ps ss ks := (if_neg c).trans (by rw [if_neg c2]; rfl)
      rw [en]
      exact loo_tree ps ss _ d (by omega) hs2 (by omega)
theorem loo_pw {ps : List Int} (hup : ps.Pairwise (· < ·)) (h6 : ps.length ≤ 6) {ss : List (Int × Int)} (hl : ps.length = ss.length) (hs : ∀ s ∈ ss, Sh1 s) (hq : ∀ s ∈ ss, qt (av s) = s) : ∃ d W D, PlanW d W D ps (skipL ps ss []) ((ss.count (1, 1) : Nat), (ss.length : Int) - (ss.count (0, 1) : Nat)) (matW ss) := by
  have nd : ps.Nodup := hup.imp fun z => Int.ne_of_lt z
  have sub := lws_sub ps ss hl hs
  have hw : waysN ps.length (skipL ps ss []) 1 = lws ps ss := by
    rw [skipL_ks ps ss [] _ 1 hl hs (Nat.le_refl _)]
    have : (lws ps ss).map (fun w => (srtI ([] ++ w.1), 1 * w.2)) = (lws ps ss).map id := List.map_congr_left fun w hw => by
      show (srtI ([] ++ w.1), 1 * w.2) = w
      rw [List.nil_append, srtI_sub hup (sub w hw), show (1 : Rat) * w.2 = w.2 by grind]
    rw [this, List.map_id]
  have hone := lws_total ps ss hl hs
  have size := lws_size ps ss hl hs
  obtain ⟨⟨v, hv, ev⟩, ⟨u, hu, eu⟩⟩ := lws_ex ps ss hl hs
  have p6 := pow6 h6
  refine ⟨ps.length, _, dl ss, hw, by omega, loo_tree ps ss [] _ hl hs (Nat.le_refl _), Nat.le_trans (lws_len ps ss) (by omega), dl_pos hs, Int.le_trans (dl_bd hs) ?_, ⟨lws_good ps ss hl hs, by rw [hone]; exact Rat.le_refl⟩, fun w hw => ?_, ⟨v, hv, by show (v.1.length : Int) = ((ss.count (1, 1) : Nat) : Int); omega⟩, ⟨u, hu, by show (u.1.length : Int) = (ss.length : Int) - ((ss.count (0, 1) : Nat) : Int); omega⟩, hone, ?_⟩
  · have h1 : (2 : Nat) ^ (64 * ss.length) ≤ 2 ^ 900 := Nat.pow_le_pow_right (by decide) (by omega)
    have h2 : ((2 ^ (64 * ss.length) : Nat) : Int) ≤ ((2 ^ 900 : Nat) : Int) := by exact_mod_cast h1
    have e1 : ((2 ^ (64 * ss.length) : Nat) : Int) = 2 ^ (64 * ss.length) := by norm_cast
    have e2 : ((2 ^ 900 : Nat) : Int) = 2 ^ 900 := by norm_cast
    rw [e1, e2] at h2
    exact h2
  · have := size w hw
    exact ⟨sub w hw, by show ((ss.count (1, 1) : Nat) : Int) ≤ _; omega, by show _ ≤ (ss.length : Int) - ((ss.count (0, 1) : Nat) : Int); omega⟩
  · unfold matW
    rw [← hl]
    refine tog_of fun a b ha hb => ?_
    obtain ⟨ma, _⟩ := getD_mem ha
    obtain ⟨mb, _⟩ := getD_mem hb
    have sq : ∀ c, c < ps.length → qt (av (ss.getD c (0, 1))) = ss.getD c (0, 1) := fun c hc => hq _ (by
      rw [List.getD_eq_getElem?_getD, List.getElem?_eq_getElem (by omega)]
      exact List.getElem_mem _)
    unfold chW
    by_cases e : a = b
    · subst e
      rw [if_pos rfl, ← sq a ha]
      congr 1
      rw [evW_congr (h := inF (ps.getD a 0)) fun z _ => ?_, lws_one ps ss a hl hs nd ma]
      rw [bothF_eq]
      unfold inF
      split <;> grind
    · rw [if_neg e, lws_two ps ss a b hl hs nd ma mb e, ← q_mul, sq a ha, sq b hb]
theorem sh1_low {s L : Int} (hL : 0 < L) (h2 : L ≤ 1000000000) (h0 : 0 ≤ s) (h1 : s ≤ L) : Sh1 (low s L) ∧ qt (av (low s L)) = low s L := by
  have p := low_pos (t := s) hL
  have e := low_eq (t := s) hL
  have hq : av (low s L) = (s : Rat) / L := by
    unfold av
    have e2 : (((low s L).1 * L : Int) : Rat) = ((s * (low s L).2 : Int) : Rat) := by rw [e]
    rw [Rat.intCast_mul, Rat.intCast_mul] at e2
    have q1 := iq_pos hL
    have q2 := iq_pos (show 0 < (low s L).2 by omega)
    grind
  refine ⟨?_, by rw [hq]; exact (low_qt hL rfl).symm⟩
  by_cases c0 : s = 0
  · exact .inr (.inl ((low_zero hL).mpr c0))
  by_cases c1 : s = L
  · exact .inl ((low_one hL).mpr c1)
  exact .inr (.inr ⟨(low_opn hL).mpr ⟨by omega, by omega⟩, (low_bd hL (bd_64 (by omega)) (bd_64 (by omega)) : Bd 64 _ ∧ Bd 64 _).2⟩)
/-! Start -/
theorem fmap_sub {α β : Type} {f g : α → Option β} : ∀ {l : List α}, (∀ x ∈ l, f x = none ∨ f x = g x) → (l.filterMap f).Sublist (l.filterMap g)
  | [], _ => .slnil
  | x :: l, h => by
    have ih := fmap_sub (l := l) fun y hy => h y (List.mem_cons_of_mem _ hy)
    rw [List.filterMap_cons, List.filterMap_cons]
    rcases h x List.mem_cons_self with e | e
    · rw [e]
      cases g x with
      | none => exact ih
      | some y => exact ih.cons y
    · rw [e]
      cases g x with
      | none => exact ih
      | some y => exact ih.cons_cons y
theorem evy_sub (ps : List Int) (s k : Nat) : (evy ps s k).Sublist ps := by
  have e := fm_get (fun x : Int => x) ps
  rw [List.map_id'] at e
  have h : (evy ps s k).Sublist ((List.range ps.length).filterMap fun i => ps[i]?.map fun x : Int => x) := by
    unfold evy
    refine fmap_sub fun j _ => ?_
    split
    · exact .inr (by cases ps[j]? <;> rfl)
    · exact .inl rfl
  rw [e] at h
  exact h
theorem evy_mem {ps : List Int} (nd : ps.Nodup) {s k a : Nat} (ha : a < ps.length) : ps.getD a 0 ∈ evy ps s k ↔ a % k = s := by
  obtain ⟨ma, _⟩ := getD_mem ha
  unfold evy
  rw [List.mem_filterMap]
  constructor
  · rintro ⟨j, hj, e⟩
    have hj := List.mem_range.mp hj
    split at e
    · rename_i c
      have : j = a := by
        obtain ⟨mj, _⟩ := getD_mem hj
        rw [mj] at e
        refine Classical.byContradiction fun z => getD_ne nd hj ha z (Option.some.inj e)
      rw [← this]
      exact c
    · cases e
  · intro c
    exact ⟨a, List.mem_range.mpr ha, by rw [if_pos c]; exact ma⟩
/-- how many stand so -/
theorem evy_len {k : Nat} (hk : 0 < k) (ps : List Int) (s : Nat) (hs : s < k) : (evy ps s k).length = ps.length / k + if s < ps.length % k then 1 else 0 := by
  have key : ∀ n, n ≤ ps.length → ((List.range n).filterMap fun j => if j % k = s then ps[j]? else none).length = n / k + if s < n % k then 1 else 0 := by
    intro n
    induction n with
    | zero =>
      intro _
      rw [Nat.zero_div, Nat.zero_mod, if_neg (Nat.not_lt_zero _)]
      rfl
    | succ n ih =>
      intro hn
      have h1 := Nat.div_add_mod n k
      have h2 := Nat.mod_lt n hk
      rw [List.range_succ, List.filterMap_append, List.length_append, ih (by omega)]
      have e1 : (List.filterMap (fun j => if j % k = s then ps[j]? else none) [n]).length = if n % k = s then 1 else 0 := by
        rw [List.filterMap_cons, List.filterMap_nil]
        by_cases c : n % k = s
        · rw [if_pos c, if_pos c, List.getElem?_eq_getElem (by omega)]
          rfl
        · rw [if_neg c, if_neg c]
          rfl
      rw [e1]
      generalize n / k = q at *
      generalize n % k = r at *
      by_cases c : r + 1 < k
      · have e2 : (n + 1) / k = q := by
          rw [← h1, Nat.add_assoc, Nat.mul_add_div hk, Nat.div_eq_of_lt c, Nat.add_zero]
        have e3 : (n + 1) % k = r + 1 := by
          rw [← h1, Nat.add_assoc, Nat.mul_add_mod, Nat.mod_eq_of_lt c]
        rw [e2, e3]
        split <;> split <;> split <;> omega
      · have c2 : r + 1 = k := by omega
        have e2 : (n + 1) / k = q + 1 := by
          rw [← h1, Nat.add_assoc, c2, Nat.mul_add_div hk, Nat.div_self hk]
        have e3 : (n + 1) % k = 0 := by
          rw [← h1, Nat.add_assoc, c2, Nat.mul_add_mod, Nat.mod_self]
        rw [e2, e3]
        split <;> split <;> split <;> omega
  exact key ps.length (Nat.le_refl _)
theorem up_div {n k : Nat} (hk : 0 < k) : (n + k - 1) / k = n / k + if 0 < n % k then 1 else 0 := by
  have h1 := Nat.div_add_mod n k
  have h2 := Nat.mod_lt n hk
  by_cases c : 0 < n % k
  · rw [if_pos c]
    have e : n + k - 1 = k * (n / k + 1) + (n % k - 1) := by rw [Nat.mul_add, Nat.mul_one]; omega
    rw [e, Nat.mul_add_div hk, Nat.div_eq_of_lt (show n % k - 1 < k by omega), Nat.add_zero]
  · rw [if_neg c]
    have e : n + k - 1 = k * (n / k) + (k - 1) := by omega
    rw [e, Nat.mul_add_div hk, Nat.div_eq_of_lt (show k - 1 < k by omega)]
theorem sta_ways {ps : List Int} (hup : ps.Pairwise (· < ·)) {k : Nat} (hk : 0 < k) (r : Rat) : waysN 1 (.sta ps k) r = (List.range k).map fun s => (evy ps s k, r * (1 / (k : Rat))) := by
  have ep : parts (.sta ps k) = (List.range k).map fun a => (1, .tol (evy ps a k)) := rfl
  have es : sidesN (.sta ps k) = k := by
    unfold sidesN
    rw [ep, List.map_map]
    have : ∀ l : List Nat, (l.map ((fun p : Int × Nd => p.1) ∘ fun a => ((1 : Int), Nd.tol (evy ps a k)))).sum = l.length := by
      intro l
      induction l with
      | nil => rfl
      | cons a l ih =>
        rw [List.map_cons, List.sum_cons, ih, List.length_cons]
        show (1 : Int) + (l.length : Int) = _
        omega
    rw [this, List.length_range]
  rw [waysN_none (show told (.sta ps k) = none from rfl), ep, es]
  generalize List.range k = l
  induction l with
  | nil => rfl
  | cons a l ih =>
    rw [List.map_cons, List.flatMap_cons, ih, List.map_cons, waysN_some (show told (.tol (evy ps a k)) = some (srtI (evy ps a k)) from rfl), srtI_sub hup (evy_sub ps a k), Rat.intCast_natCast, Rat.intCast_one]
    rfl
theorem sta_pw {ps : List Int} (hup : ps.Pairwise (· < ·)) (h6 : ps.length ≤ 6) {k : Nat} (k1 : 1 ≤ k) (k2 : k ≤ 100) : ∃ d W D, PlanW d W D ps (staN ps k) ((ps.length : Int) / k, ((ps.length : Int) + k - 1) / k) (matS k ps.length) := by
  have nd : ps.Nodup := hup.imp fun z => Int.ne_of_lt z
  by_cases c : k = 1 ∨ ps = []
  · have en : staN ps k = .tol ps := if_pos c
    have hs : srtI ps = ps := srtI_sub hup (List.Sublist.refl _)
    have hw : waysN 0 (.tol ps) 1 = [(ps, 1)] := by
      rw [waysN_some (show told (.tol ps) = some (srtI ps) from rfl), hs]
    have hone : evW (fun _ => 1) [(ps, (1 : Rat))] = 1 := by show (1 : Rat) * 1 + 0 = 1; grind
    have b1 : (ps.length : Int) / k = ps.length := by
      rcases c with rfl | rfl
      · show (ps.length : Int) / 1 = _; rw [Int.ediv_one]
      · show (0 : Int) / k = 0; exact Int.zero_ediv _
    have b2 : ((ps.length : Int) + k - 1) / k = ps.length := by
      rcases c with rfl | rfl
      · show ((ps.length : Int) + 1 - 1) / 1 = _; rw [Int.ediv_one]; omega
      · show ((0 : Int) + k - 1) / k = 0; exact Int.ediv_eq_zero_of_lt (by omega) (by omega)
    rw [en, b1, b2]
    refine ⟨0, _, 1, hw, by omega, (fun z => nomatch z), by simp, by decide, by decide +kernel, ⟨fun z hz => ?_, by rw [hone]; exact Rat.le_refl⟩, fun z hz => ?_, ⟨_, List.mem_singleton.mpr rfl, rfl⟩, ⟨_, List.mem_singleton.mpr rfl, rfl⟩, hone, ?_⟩
    · rw [List.mem_singleton.mp hz]
      exact ⟨by show (0 : Rat) ≤ 1; decide +kernel, 1, by show (1 : Rat) * ((1 : Int) : Rat) = _; grind⟩
    · rw [List.mem_singleton.mp hz]
      exact ⟨List.Sublist.refl _, Int.le_refl _, Int.le_refl _⟩
    · unfold matS
      refine tog_of fun a b ha hb => ?_
      have e1 : evW (bothF (ps.getD a 0) (ps.getD b 0)) [(ps, 1)] = 1 := by
        show (1 : Rat) * bothF (ps.getD a 0) (ps.getD b 0) ps + 0 = 1
        unfold bothF
        rw [if_pos ⟨(getD_mem ha).2, (getD_mem hb).2⟩]
        grind
      rw [e1, qt_1]
      rcases c with rfl | rfl
      · unfold chS
        rw [if_pos (by show ((a : Int) - b) % 1 = 0; exact Int.emod_one _)]
        rfl
      · simp at ha
  · have en : staN ps k = .sta ps k := if_neg c
    have hk : 0 < k := by omega
    have hkq : (0 : Rat) < (k : Rat) := by rw [nq]; exact Rat.intCast_pos.mpr (by omega)
    have hw : waysN 1 (.sta ps k) 1 = ((List.range k).map fun s => evy ps s k).map fun c => (c, 1 / (k : Rat)) := by
      rw [sta_ways hup hk, List.map_map]
      refine List.map_congr_left fun s _ => ?_
      show (_, (1 : Rat) * (1 / (k : Rat))) = (_, 1 / (k : Rat))
      rw [show (1 : Rat) * (1 / (k : Rat)) = 1 / (k : Rat) by grind]
    have hone : evW (fun _ => 1) (((List.range k).map fun s => evy ps s k).map fun c => (c, 1 / (k : Rat))) = 1 := by
      rw [evW_cnt (q := fun _ => true) (fun c => (if_pos rfl).symm) _ _, List.countP_true, List.length_map, List.length_range]
      grind
    have sd : sidesN (.sta ps k) = k := by
      have ep : parts (.sta ps k) = (List.range k).map fun a => (1, .tol (evy ps a k)) := rfl
      unfold sidesN
      rw [ep, List.map_map]
      have : ∀ l : List Nat, (l.map ((fun p : Int × Nd => p.1) ∘ fun a => ((1 : Int), Nd.tol (evy ps a k)))).sum = l.length := by
        intro l
        induction l with
        | nil => rfl
        | cons a l ih =>
          rw [List.map_cons, List.sum_cons, ih, List.length_cons]
          show (1 : Int) + (l.length : Int) = _
          omega
      rw [this, List.length_range]
    have hm := Nat.mod_lt ps.length hk
    have bn1 : (ps.length : Int) / k = ((ps.length / k : Nat) : Int) := (Int.natCast_ediv _ _).symm
    have bn2 : ((ps.length : Int) + k - 1) / k = ((ps.length / k + (if 0 < ps.length % k then 1 else 0) : Nat) : Int) := by
      rw [← up_div hk, Int.natCast_ediv]
      congr 1
      omega
    rw [en, bn1, bn2]
    refine ⟨1, _, (k : Int), hw, by omega, .inr ⟨by rw [sd]; omega, by rw [sd]; exact bd_64 (by omega), by show (List.map _ (List.range k)).length ≤ 100; rw [List.length_map, List.length_range]; exact k2, fun p hp => ?_⟩, by rw [List.length_map, List.length_map, List.length_range]; omega, by omega, ?_, ⟨fun z hz => ?_, by rw [hone]; exact Rat.le_refl⟩, fun z hz => ?_, ?_, ?_, hone, ?_⟩
    · obtain ⟨a, _, rfl⟩ := List.mem_map.mp (show p ∈ (List.range k).map (fun a => ((1 : Int), Nd.tol (evy ps a k))) from hp)
      exact ⟨bd_64 (by show -18446744073709551616 < (1 : Int) ∧ (1 : Int) < 18446744073709551616; decide), (fun z => nomatch z)⟩
    · have : (k : Int) ≤ 100 := by omega
      exact Int.le_trans this (by decide +kernel)
    · obtain ⟨c, _, rfl⟩ := List.mem_map.mp hz
      refine ⟨div_nn (by grind) hkq, 1, ?_⟩
      show 1 / (k : Rat) * _ = _
      rw [Rat.intCast_natCast, Rat.intCast_one]
      grind
    · obtain ⟨c, hc, rfl⟩ := List.mem_map.mp hz
      obtain ⟨s, hs, rfl⟩ := List.mem_map.mp hc
      have hl := evy_len hk ps s (List.mem_range.mp hs)
      refine ⟨evy_sub ps s k, ?_, ?_⟩
      · show ((ps.length / k : Nat) : Int) ≤ ((evy ps s k).length : Int)
        rw [hl]
        omega
      · show ((evy ps s k).length : Int) ≤ ((ps.length / k + (if 0 < ps.length % k then 1 else 0) : Nat) : Int)
        rw [hl]
        split <;> split <;> omega
    · refine ⟨_, List.mem_map.mpr ⟨_, List.mem_map.mpr ⟨ps.length % k, List.mem_range.mpr hm, rfl⟩, rfl⟩, ?_⟩
      show ((evy ps (ps.length % k) k).length : Int) = _
      rw [evy_len hk ps _ hm, if_neg (Nat.lt_irrefl _)]
      rfl
    · refine ⟨_, List.mem_map.mpr ⟨_, List.mem_map.mpr ⟨0, List.mem_range.mpr hk, rfl⟩, rfl⟩, ?_⟩
      show ((evy ps 0 k).length : Int) = _
      rw [evy_len hk ps _ hk]
    · unfold matS
      refine tog_of fun a b ha hb => ?_
      have hg : ∀ c, bothF (ps.getD a 0) (ps.getD b 0) c = if (fun c : List Int => decide (ps.getD a 0 ∈ c ∧ ps.getD b 0 ∈ c)) c = true then 1 else 0 := fun c => by
        unfold bothF
        by_cases z : ps.getD a 0 ∈ c ∧ ps.getD b 0 ∈ c
        · rw [if_pos z, if_pos (decide_eq_true z)]
        · rw [if_neg z, if_neg (by simpa using z)]
      rw [evW_cnt hg, List.countP_map]
      have hcg : (List.range k).countP ((fun c : List Int => decide (ps.getD a 0 ∈ c ∧ ps.getD b 0 ∈ c)) ∘ fun s => evy ps s k) = (List.range k).countP (fun s => decide (a % k = s ∧ b % k = s)) := List.countP_congr fun s _ => by
        show decide (ps.getD a 0 ∈ evy ps s k ∧ ps.getD b 0 ∈ evy ps s k) = true ↔ decide (a % k = s ∧ b % k = s) = true
        rw [decide_eq_true_eq, decide_eq_true_eq, evy_mem nd ha, evy_mem nd hb]
      rw [hcg]
      have eq1 : ((a : Int) - b) % k = 0 ↔ a % k = b % k := by
        rw [← Int.emod_eq_emod_iff_emod_sub_eq_zero]
        omega
      unfold chS
      by_cases e : a % k = b % k
      · rw [if_pos (eq1.mpr e)]
        have one_ : (List.range k).countP (fun s => decide (a % k = s ∧ b % k = s)) = 1 := by
          have h1 : (List.range k).countP (fun s => decide (a % k = s ∧ b % k = s)) = (List.range k).count (a % k) := by
            rw [List.count]
            refine List.countP_congr fun s _ => ?_
            rw [decide_eq_true_eq, beq_iff_eq]
            exact ⟨fun z => z.1.symm, fun z => ⟨z.symm, by rw [← e]; exact z.symm⟩⟩
          rw [h1, List.nodup_range.count, if_pos (List.mem_range.mpr (Nat.mod_lt _ hk))]
        rw [one_, show (((1 : Nat) : Rat)) * (1 / (k : Rat)) = 1 / ((k : Int) : Rat) by rw [show (((1 : Nat) : Rat)) = 1 from rfl, Rat.intCast_natCast]; grind]
        exact qt_unit (by omega)
      · rw [if_neg fun z => e (eq1.mp z)]
        have none_ : (List.range k).countP (fun s => decide (a % k = s ∧ b % k = s)) = 0 := List.countP_eq_zero.mpr fun s _ => by
          rw [decide_eq_true_eq]
          exact fun z => e (z.1.trans z.2.symm)
        rw [none_, show (((0 : Nat) : Rat)) * (1 / (k : Rat)) = 0 by rw [show (((0 : Nat) : Rat)) = 0 from rfl]; grind]
        rfl
theorem plan_ways {cr : List Mem} {pl : Pl} (hc : CrOk cr) (h6 : cr.length ≤ 6) (ok : PlOk pl) : ∃ d W D, PlanW d W D (cr.map (·.1)) (plN cr pl) (plB cr pl) (plM cr pl) := by
  have hup := hc.up
  have h6' : (cr.map fun z : Mem => z.1).length ≤ 6 := by rw [List.length_map]; exact h6
  cases pl with
  | few m => exact few_pw hup h6' ok.1 ok.2
  | sta k => exact sta_pw hup h6' ok.1 ok.2
  | loo m =>
    have hz := sizes_ok hc
    have h24 : (cr.map fun z : Mem => z.2.1).length ≤ 24 := by rw [List.length_map]; exact hc.len
    obtain ⟨sok, sl, se, _⟩ := wshN_ok hz h24 ok.1
    have hL : 0 < (wshN (cr.map fun z : Mem => z.2.1) m).1 := by have := sok.l1; omega
    have hsh : ∀ s ∈ wsh (cr.map fun z : Mem => z.2.1) m, Sh1 s ∧ qt (av s) = s := fun s hs => by
      rw [se] at hs
      obtain ⟨t, ht, rfl⟩ := List.mem_map.mp hs
      have := sok.b t ht
      exact sh1_low hL sok.l2 this.1 this.2
    have hl : (cr.map fun z : Mem => z.1).length = (wsh (cr.map fun z : Mem => z.2.1) m).length := by
      rw [wsh_len _ m hz ok.1, List.length_map, List.length_map]
    exact loo_pw hup h6' hl (fun s hs => (hsh s hs).1) fun s hs => (hsh s hs).2
theorem node_disp {v2 v3 v4 v5 v6 v7 v8 v9 : Option V} {H : Hp} {Q : VK} {x c : Addr} {pl : Pl} {cr : List Mem} (hpl : PlA mg x H pl) (hok : PlOk pl) (hc : CrdS K H c cr) (hT : Tabs (tabsL K mg) H) (q : ∀ v H', Ev (tabsL K mg) H H' → AtN K mg (fun _ => True) (plN cr pl) v H' → Q v H') :
    tOrE (tMeth (cA mg (Str.ofString "Few")) (Str.ofString "node") (sp_Few_node K mg) [] E0 (tVar 0) (tCons (tVar 1) tNil)) (tOrE (tMeth (cA mg (Str.ofString "Start")) (Str.ofString "node") (sp_Start_node K mg) [] E0 (tVar 0) (tCons (tVar 1) tNil)) (tMeth (cA mg (Str.ofString "Loose")) (Str.ofString "node") (sp_Loose_node K mg) [] E0 (tVar 0) (tCons (tVar 1) tNil)))
    [some (.ref x), some (.ref c), v2, v3, v4, v5, v6, v7, v8, v9] H Q := by
  cases pl with
  | few m =>
    have hpl' := hpl
    obtain ⟨dx, hx⟩ := hpl'
    refine L_orl ?_
    walk_at "sts"
    refine L_methv hx rfl ?_
    walk_at "sts"
    exact ⟨fun _ => True, m, cr.map fun z : Mem => z.1, NL.all, hpl, hok.1, hc.crd, hT, fun y H' ev at1 => q y H' ev at1⟩
  | sta k =>
    have hpl' := hpl
    obtain ⟨dx, hx⟩ := hpl'
    refine L_orr (L_orl ?_)
    walk_at "sts"
    refine L_methv hx rfl ?_
    walk_at "sts"
    exact ⟨fun _ => True, k, cr.map fun z : Mem => z.1, NL.all, hpl, hok.1, hok.2, hc.crd, hT, fun y H' ev at1 => q y H' ev at1⟩
  | loo m =>
    have hpl' := hpl
    obtain ⟨dx, hx⟩ := hpl'
    refine L_orr (L_orr ?_)
    walk_at "sts"
    refine L_methv hx rfl ?_
    walk_at "sts"
    exact ⟨fun _ => True, m, cr, NL.all, hpl, hok.1, hok.2, hc, hT, fun y H' ev at1 => q y H' ev at1⟩
theorem bounds_disp {v2 v3 v4 v5 v6 v7 v8 v9 : Option V} {H : Hp} {Q : VK} {x c : Addr} {pl : Pl} {cr : List Mem} (hpl : PlA mg x H pl) (hok : PlOk pl) (hc : CrdS K H c cr) (q : ∀ p H', H p = none → Same H H' → H' p = some (.tup [.int (plB cr pl).1, .int (plB cr pl).2]) → Q (.ref p) H') :
    tOrE (tMeth (cA mg (Str.ofString "Few")) (Str.ofString "bounds") (sp_Few_bounds K mg) [] E0 (tVar 0) (tCons (tVar 1) tNil)) (tOrE (tMeth (cA mg (Str.ofString "Start")) (Str.ofString "bounds") (sp_Start_bounds K mg) [] E0 (tVar 0) (tCons (tVar 1) tNil)) (tMeth (cA mg (Str.ofString "Loose")) (Str.ofString "bounds") (sp_Loose_bounds K mg) [] E0 (tVar 0) (tCons (tVar 1) tNil)))
    [some (.ref x), some (.ref c), v2, v3, v4, v5, v6, v7, v8, v9] H Q := by
  cases pl with
  | few m =>
    have hpl' := hpl
    obtain ⟨dx, hx⟩ := hpl'
    refine L_orl ?_
    walk_at "sts"
    refine L_methv hx rfl ?_
    walk_at "sts"
    exact ⟨m, cr.map fun z : Mem => z.1, hpl, hc.crd, q⟩
  | sta k =>
    have hpl' := hpl
    obtain ⟨dx, hx⟩ := hpl'
    refine L_orr (L_orl ?_)
    walk_at "sts"
    refine L_methv hx rfl ?_
    walk_at "sts"
    exact ⟨k, cr.map fun z : Mem => z.1, hpl, by have := hok.1; omega, by have := hok.2; omega, hc.crd, q⟩
  | loo m =>
    have hpl' := hpl
    obtain ⟨dx, hx⟩ := hpl'
    refine L_orr (L_orr ?_)
    walk_at "sts"
    refine L_methv hx rfl ?_
    walk_at "sts"
    exact ⟨m, cr, hpl, hok.1, hok.2, hc, q⟩
theorem matrix_disp {v2 v3 v4 v5 v6 v7 v8 v9 : Option V} {H : Hp} {Q : VK} {x c : Addr} {pl : Pl} {cr : List Mem} (hpl : PlA mg x H pl) (hok : PlOk pl) (hc : CrdS K H c cr) (q : ∀ p H' os, H p = none → Same H H' → H' p = some (.lst (os.map V.ref)) → RowsN K H H' p os (plM cr pl) → Q (.ref p) H') :
    tOrE (tMeth (cA mg (Str.ofString "Few")) (Str.ofString "matrix") (sp_Few_matrix K mg) [] E0 (tVar 0) (tCons (tVar 1) tNil)) (tOrE (tMeth (cA mg (Str.ofString "Start")) (Str.ofString "matrix") (sp_Start_matrix K mg) [] E0 (tVar 0) (tCons (tVar 1) tNil)) (tMeth (cA mg (Str.ofString "Loose")) (Str.ofString "matrix") (sp_Loose_matrix K mg) [] E0 (tVar 0) (tCons (tVar 1) tNil)))
    [some (.ref x), some (.ref c), v2, v3, v4, v5, v6, v7, v8, v9] H Q := by
  cases pl with
  | few m =>
    have hpl' := hpl
    obtain ⟨dx, hx⟩ := hpl'
    refine L_orl ?_
    walk_at "sts"
    refine L_methv hx rfl ?_
    walk_at "sts"
    exact ⟨m, cr.map fun z : Mem => z.1, hpl, hok.1, hok.2, hc.crd, q⟩
  | sta k =>
    have hpl' := hpl
    obtain ⟨dx, hx⟩ := hpl'
    refine L_orr (L_orl ?_)
    walk_at "sts"
    refine L_methv hx rfl ?_
    walk_at "sts"
    exact ⟨k, cr.map fun z : Mem => z.1, hpl, by have := hok.1; omega, by have := hok.2; omega, hc.crd, q⟩
  | loo m =>
    have hpl' := hpl
    obtain ⟨dx, hx⟩ := hpl'
    refine L_orr (L_orr ?_)
    walk_at "sts"
    refine L_methv hx rfl ?_
    walk_at "sts"
    exact ⟨m, cr, hpl, hok.1, hok.2, hc, q⟩
theorem L_notInIs {K : PySem.W.Frag} {H : Hp} {Q : VK} {p : Addr} {z : Int} {ns : List Int} (h : SqL K H p (ns.map V.int)) (q : Q (.bl (!decide (z ∈ ns))) H) : aNotIn K (.int z) (.ref p) H Q := .inr ⟨p, _, rfl, .inl h, rfl, flat_ints _, by rw [if_pos rfl, inV_ints]; exact q⟩
theorem lt_uniq {a b : List Int} (h1 : a.Pairwise (· < ·)) (h2 : b.Pairwise (· < ·)) (h : ∀ k, k ∈ a ↔ k ∈ b) : a = b :=
  ((List.perm_ext_iff_of_nodup (h1.imp fun z => Int.ne_of_lt z) (h2.imp fun z => Int.ne_of_lt z)).mpr h).eq_of_pairwise (le := (· ≤ ·)) (fun _ _ _ _ x y => Int.le_antisymm x y) (h1.imp fun z => Int.le_of_lt z) (h2.imp fun z => Int.le_of_lt z)
def sp__law_good (K : PySem.W.Frag) (mg : Str → Option Value) : Sp := fun vs H Q _ => match vs with | [.ref x, .ref c] => ∃ (pl : Pl) (cr : List Mem), PlA mg x H pl ∧ PlOk pl ∧ CrdS K H c cr ∧ cr.length ≤ 6 ∧ Tabs (tabsL K mg) H ∧ ∀ H', Ev (tabsL K mg) H H' → Q (.bl true) H' | _ => False
theorem q__law_good {H : Hp} {Q : VK} {E : XK} {x : Addr} {c : Addr} (q : ∃ (pl : Pl) (cr : List Mem), PlA mg x H pl ∧ PlOk pl ∧ CrdS K H c cr ∧ cr.length ≤ 6 ∧ Tabs (tabsL K mg) H ∧ ∀ H', Ev (tabsL K mg) H H' → Q (.bl true) H') : sp__law_good K mg [.ref x, .ref c] H Q E := q
local macro_rules | `(tactic| walk_at "op") => `(tactic| with_reducible refine q__law_good ?_)
theorem c__law_good (T : Txt K mg base) : Cal P w K mg base 15 "_law_good" (sp__law_good K mg) := by
  refine T.d__law_good.cal (k := 14) sc__law_good (by intro vs H Q E h; unfold sp__law_good at h; split at h <;> first | rfl | exact h.elim) fun f cdv A outer s H vs Q E hr h => ?_
  refine ⟨_, (pss_cons (ps_asg (pe_lc (own := [("_law_row_here", 8)]) (g := (gName 8)) (tt := tYes) (te := (tOp (rIx K) (tVar 8) (tC (.int 0)))) rfl sc__law_good.nd (pi_list (pv 1)) (blkOk_by (N := ["_law_plan", "_law_crowd_here", "_law_places", "_law_ways_here", "_law_kept", "_law_much", "_law_sizes_kept", "_law_total", "_law_row_here", "_law_place"]) (sc := defScope s__law_good) (by decide +kernel)) (fun _ _ _ _ _ => by exact (pg_name (i := 8) sc__law_good.nd rfl (.inl rfl))) (fun _ _ _ _ _ => pts_nil) (fun _ _ _ _ _ => by exact (pe_ix ix_seq (pv 8) pe_int (fun _ _ => rfl)))) (pg_name (i := 2) sc__law_good.nd rfl (.inr rfl)))
    (pss_cons (ps_set (i := 3) sc__law_good.nd rfl (.inl rfl) (pe_c (c__law_ways T) hr (by decide) (by rfl) (pa_cons (PE.or (pe_mt (c_Few_node T) hr (by decide) (pv 0) (pa_cons (pv 1) pa_nil)) (PE.or (pe_mt (c_Start_node T) hr (by decide) (pv 0) (pa_cons (pv 1) pa_nil)) (pe_mt (c_Loose_node T) hr (by decide) (pv 0) (pa_cons (pv 1) pa_nil)))) (pa_cons (pe_tup (pa_cons pe_int (pa_cons pe_int pa_nil))) pa_nil))))
    (pss_cons (ps_setLc (i := 6) (own := [("_law_kept", 4), ("_law_much", 5)]) (g := (gTup K 2 (gCons (gName 4) (gCons (gName 5) gNil)))) (tt := tYes) (te := (tCB (aLen K) (tCons (tVar 4) tNil))) rfl sc__law_good.nd rfl rfl (sw_true rfl rfl rfl (by decide +kernel)) (pi_list (pv 3)) (blkOk_by (N := ["_law_plan", "_law_crowd_here", "_law_places", "_law_ways_here", "_law_kept", "_law_much", "_law_sizes_kept", "_law_total", "_law_row_here", "_law_place"]) (sc := defScope s__law_good) (by decide +kernel)) (fun _ _ _ _ _ => by exact (pg_tup rfl (pgs_cons (pg_name (i := 4) sc__law_good.nd rfl (.inl rfl)) (pgs_cons (pg_name (i := 5) sc__law_good.nd rfl (.inl rfl)) pgs_nil)))) (fun _ _ _ _ _ => pts_nil) (fun _ _ _ _ _ => by exact (pe_callB call_lenA (by rfl) T.n_len (by decide +kernel) (pa_cons (pv 4) pa_nil))))
    (pss_cons (ps_if (pt_cmpR (op_neA hr) (PE.or (pe_mt (c_Few_bounds T) hr (by decide) (pv 0) (pa_cons (pv 1) pa_nil)) (PE.or (pe_mt (c_Start_bounds T) hr (by decide) (pv 0) (pa_cons (pv 1) pa_nil)) (pe_mt (c_Loose_bounds T) hr (by decide) (pv 0) (pa_cons (pv 1) pa_nil)))) (pe_tup (pa_cons (pe_callB (cr_min rfl) (by rfl) T.n_min (by decide +kernel) (pa_cons (pv 6) pa_nil)) (pa_cons (pe_callB (cr_max rfl) (by rfl) T.n_max (by decide +kernel) (pa_cons (pv 6) pa_nil)) pa_nil))) (nomark _))
    (pss_one (ps_ret pe_bl))
    pss_nil)
    (pss_cons (ps_set (i := 7) sc__law_good.nd rfl (.inl rfl) (pe_tup (pa_cons pe_int (pa_cons pe_int pa_nil))))
    (pss_cons (ps_for PassesOwn.never rfl (pi_list (pv 3)) (pg_tup rfl (pgs_cons (pg_name (i := 4) sc__law_good.nd rfl (.inl rfl)) (pgs_cons (pg_name (i := 5) sc__law_good.nd rfl (.inl rfl)) pgs_nil)))
    (pss_cons (ps_set (i := 7) sc__law_good.nd rfl (.inl rfl) (pe_c (c__law_plus T) hr (by decide) (by rfl) (pa_cons (pv 7) (pa_cons (pv 5) pa_nil))))
    (pss_cons (ps_if (PW.pt (pw_or (pt_not (pt_val (pe_callB call_isi (by rfl) T.n_isinstance (by decide +kernel) (pa_cons (pv 4) (pa_cons (pe_ty "tuple" (by rfl) T.n_tuple (by decide +kernel)) pa_nil))))) (pw_or1 (pt_cmpR (op_neA hr) (pv 4) (pe_callTy call_tuple1A (by rfl) T.n_tuple (by decide +kernel) (pa_cons (pe_callB (cr_sortedSet rfl) (by rfl) T.n_sorted (by decide +kernel) (pa_cons (pe_callTy (cr_setTI rfl) (by rfl) T.n_set (by decide +kernel) (pa_cons (pv 4) pa_nil)) pa_nil)) pa_nil)) (nomark _)))))
    (pss_one (ps_ret pe_bl))
    pss_nil)
    (pss_one (ps_if (pt_cmpR (op_neA hr) (pe_lc (own := [("_law_place", 9)]) (g := (gName 9)) (tt := (tTest (tOp (aNotIn K) (tVar 9) (tVar 2)))) (te := (tVar 9)) rfl sc__law_good.nd (pi_tup (pv 4)) (blkOk_by (N := ["_law_plan", "_law_crowd_here", "_law_places", "_law_ways_here", "_law_kept", "_law_much", "_law_sizes_kept", "_law_total", "_law_row_here", "_law_place"]) (sc := defScope s__law_good) (by decide +kernel)) (fun _ _ _ _ _ => by exact (pg_name (i := 9) sc__law_good.nd rfl (.inl rfl))) (fun _ _ _ _ _ => by exact pts_one (pt_cmpR op_notInA (pv 9) (pv 2) (by rfl))) (fun _ _ _ _ _ => by exact (pv 9))) (pe_lst pa_nil) (nomark _))
    (pss_one (ps_ret pe_bl))
    pss_nil)))))
    (pss_one (ps_ret (pe_and (pe_cmpR (op_eqA hr) (pv 7) (pe_tup (pa_cons pe_int (pa_cons pe_int pa_nil))) (nomark _)) (pe_one (pe_c (c__law_matrix T) hr (by decide) (by rfl) (pa_cons (PE.or (pe_mt (c_Few_matrix T) hr (by decide) (pv 0) (pa_cons (pv 1) pa_nil)) (PE.or (pe_mt (c_Start_matrix T) hr (by decide) (pv 0) (pa_cons (pv 1) pa_nil)) (pe_mt (c_Loose_matrix T) hr (by decide) (pv 0) (pa_cons (pv 1) pa_nil)))) (pa_cons (pe_c (c__law_together T) hr (by decide) (by rfl) (pa_cons (pv 3) (pa_cons (pv 2) pa_nil))) pa_nil))))))))))))), ?_⟩
  try simp only [cxOf_K, cxOf_K', cxOf_mg, cxOf_mg']
  unfold sp__law_good at h
  split at h
  case h_2 => exact h.elim
  rename_i x c
  rw [show L2.start ["_law_plan", "_law_crowd_here", "_law_places", "_law_ways_here", "_law_kept", "_law_much", "_law_sizes_kept", "_law_total", "_law_row_here", "_law_place"] [V.ref x, V.ref c] = [some (V.ref x), some (V.ref c), none, none, none, none, none, none, none, none] from rfl]
  obtain ⟨pl, cr, hpl, hok, hc, hl6, hT, q⟩ := h
  obtain ⟨us, hS, hD⟩ := hc.ex
  have hul : us.length = cr.length := by rw [hD.len, List.length_map]
  obtain ⟨d, W, D, pw⟩ := plan_ways hc.ok hl6 hok
  obtain ⟨hW, d7, tok, wlen, d0, d1, gw, hsub, hmn, hmx, hone, hmat⟩ := pw
  have hup := hc.ok.up
  walk_at "sts"
  refine L_rl hS ?_
  refine lc_fm walk_list (fun i => (cr[i]?).map fun m => V.int m.1) (by omega) (fun H' e => e.seq hS) ?_ ?_
  · rintro j x1 Ha Hb R R' hj sm ⟨rfl, hx1⟩ q1 q2
    obtain ⟨mm, t, q0, hr, rfl, hq, _⟩ := hit3 hD hx1
    walk_at "sts"
    refine ⟨rfl, ?_⟩
    walk_at "sts"
    refine L_ixT (sm.seqT hq) rfl ?_
    exact q1 _ _ (by rw [hr]; rfl) (.refl _)
  intro pp H1 hpp s1 e1
  rw [hul, fm_get (fun m : Mem => V.int m.1) cr] at e1
  replace e1 : H1 pp = some (.lst ((cr.map (·.1)).map V.int)) := by rw [e1, List.map_map]; rfl
  generalize hps : cr.map (·.1) = ps at *
  have hpl6 : ps.length ≤ 6 := by rw [← hps, List.length_map]; exact hl6
  walk_at "sts"
  have ev01 : Ev (tabsL K mg) H H1 := .same s1
  refine node_disp (hpl.ev ev01) hok (hc.ev ev01) (ev01.tb hT) fun v H2 ev2 at2 => ?_
  have ev02 := ev01.trans ev2
  walk_at "sts"
  walk_at "nw"
  rename_i p4 hp4 H3 s3 e3
  walk_at "sts"
  have ev03 := ev02.trans (Ev.same (T := tabsL K mg) s3)
  have b1 : BdQ 3 (1 : Rat) := ⟨by unfold Bd; decide +kernel, by unfold Bd; decide +kernel⟩
  refine ⟨plN cr pl, d, 3, 1, by show d ≤ (7 : Nat); omega, AtN.ev at2 (Ev.same (T := tabsL K mg) s3), tok, by rw [hW]; omega, .of e3, b1, by omega, ev03.tb hT, fun wa H4 ws hwa ev4 e4 hW4 => ?_⟩
  rw [hW] at hW4
  have ev04 := ev03.trans ev4
  have wsl : ws.length = W.length := Paired.length hW4
  walk_at "sts"
  refine L_rl (.of e4) ?_
  refine lc_fm walk_list (fun i => W[i]?.map fun w => V.int (w.1.length : Int)) (by omega) (fun H' e => .of (e _ _ e4)) ?_ ?_
  · rintro j x1 Hb Hb' R R' hj sm ⟨rfl, hx1⟩ q1 q2
    obtain ⟨w, hw, q0, kp, m, rfl, g1, g2, g3⟩ := paired_nth hW4 hx1
    refine L_gTup (.of (sm _ _ g1)) rfl ?_
    walk_at "sts"
    refine ⟨rfl, ?_⟩
    walk_at "sts"
    refine L_lenT (.of (sm _ _ g2)) ?_
    rw [List.length_map]
    exact q1 _ _ (by rw [hw]; rfl) (.refl _)
  intro sz H5 hsz0 s5 e5
  rw [wsl, fm_get (fun w : List Int × Rat => V.int (w.1.length : Int)) W] at e5
  replace e5 : H5 sz = some (.lst ((W.map fun w => (w.1.length : Int)).map V.int)) := by rw [e5, List.map_map]; rfl
  have ev05 := ev04.trans (Ev.same (T := tabsL K mg) s5)
  have hwn : 0 < (W.map fun w => (w.1.length : Int)).length := by
    rw [List.length_map]
    obtain ⟨w, hw, _⟩ := hmn
    exact List.length_pos_of_mem hw
  walk_at "sts"
  refine bounds_disp (hpl.ev ev05) hok (hc.ev ev05) fun pb H6 hpb s6 e6 => ?_
  walk_at "sts"
  refine ⟨sz, _, rfl, .of (s6 _ _ e5), hwn, fun m hm hmin => ?_⟩
  have hmE : m = (plB cr pl).1 := by
    obtain ⟨w, hw, ew⟩ := hmn
    have h3 := hmin _ (List.mem_map.mpr ⟨w, hw, rfl⟩)
    obtain ⟨w2, hw2, rfl⟩ := List.mem_map.mp hm
    have := (hsub w2 hw2).2.1
    omega
  walk_at "sts"
  refine ⟨sz, _, rfl, .of (s6 _ _ e5), hwn, fun m2 hm2 hmax => ?_⟩
  have hmE2 : m2 = (plB cr pl).2 := by
    obtain ⟨w, hw, ew⟩ := hmx
    have h3 := hmax _ (List.mem_map.mpr ⟨w, hw, rfl⟩)
    obtain ⟨w2, hw2, rfl⟩ := List.mem_map.mp hm2
    have := (hsub w2 hw2).2.2
    omega
  rw [hmE, hmE2]
  walk_at "sts"
  walk_at "nw"
  rename_i pc hpc H7 s7 e7
  refine L_neR (d := d2 (plB cr pl)) (.tup (.of (s7 _ _ e6)) (.cons (.int _) (.cons (.int _) .nil))) (.tup (.of e7) (.cons (.int _) (.cons (.int _) .nil))) (shp_tup (n := 0) (shp_cons shp_int (shp_cons shp_int shp_nil))).ok ?_
  walk_at "sts"
  walk_at "nw"
  rename_i t8 ht8 H8 s8 e8
  walk_at "sts"
  have s48 := s5.trans (s6.trans (s7.trans s8))
  have ev08 := ev04.trans (Ev.same (T := tabsL K mg) s48)
  have wa8 := s48 _ _ e4
  have hW8 := paired_imp2 (fun _ _ h => WayR.to h s48) hW4
  have pp8 : H8 pp = some (.lst (ps.map V.int)) := (ev2.trans ((Ev.same (T := tabsL K mg) s3).trans (ev4.trans (Ev.same (T := tabsL K mg) s48)))).lst e1
  refine L_rl (.of wa8) ?_
  refine f_it walk_list (fun i σ' H' => ∃ (tp : Addr) (v4 v5 : Option V), σ' = [some (.ref x), some (.ref c), some (.ref pp), some (.ref wa), v4, v5, some (.ref sz), some (.ref tp), none, none] ∧ Same H8 H' ∧ QtA K H' tp (evW (fun _ => 1) (W.take i))) ⟨t8, _, _, rfl, .refl _, by rw [List.take_zero]; exact .of e8⟩ (fun _ _ _ _ ⟨_, _, _, _, s, _⟩ => .of (s _ _ wa8)) ?_ ?_
  · rintro i y σ' Hy Ha hi ⟨tp, v4, v5, rfl, sa, htp⟩ ⟨rfl, hy⟩
    obtain ⟨wy, hw, q0, kp, m, rfl, g1, g2, g3⟩ := paired_nth hW8 hy
    have hwm := List.mem_of_getElem? hw
    have hws := (hsub wy hwm).1
    have hwup := hup.sublist hws
    have hwl := hws.length_le
    refine L_gTup (.of (sa _ _ g1)) rfl ?_
    walk_at "sts"
    refine ⟨_, wy.2, htp, sa.seqT g3, gw.part d0 d1 (fun _ => .inr rfl) i, gw.bd d0 d1 hwm, fun pn Hb hpn sb eb => ?_⟩
    have sab := sa.trans sb
    have hnext : evW (fun _ => 1) (W.take (i + 1)) = evW (fun _ => 1) (W.take i) + wy.2 := by
      rw [show W.take (i + 1) = W.take i ++ [wy] by rw [List.take_succ, hw]; rfl, evW_snoc]
      grind
    rw [← hnext] at eb
    walk_at "sts"
    refine L_isi (tyx_T (.of (sab _ _ g2))) (b := true) (by decide +kernel) ?_
    walk_at "sts"
    refine ⟨kp, wy.1, rfl, .of (sab _ _ g2), by omega, fun qs n hqs hn => ?_⟩
    have sc := same_new (o := SetO w qs (fun j => decide (j ∈ wy.1)) n) hqs
    have ec : upd Hb qs (SetO w qs (fun j => decide (j ∈ wy.1)) n) qs = some (SetO w qs (fun j => decide (j ∈ wy.1)) n) := upd_same
    generalize hg3 : upd Hb qs (SetO _ qs _ _) = Hc
    rw [show upd Hb qs (SetO w qs (fun j => decide (j ∈ wy.1)) n) = Hc from hg3] at sc ec
    walk_at "sts"
    refine ⟨qs, _, n, rfl, ec, by omega, fun ns p2 hpw hmem hlen hp2 => ?_⟩
    have ens : ns = wy.1 := lt_uniq hpw hwup fun k => (hmem k).trans decide_eq_true_iff
    rw [ens]
    have sd := same_new (o := .lst (wy.1.map V.int)) hp2
    have ed : upd Hc p2 (.lst (wy.1.map V.int)) p2 = some (.lst (wy.1.map V.int)) := upd_same
    generalize upd Hc p2 (.lst (wy.1.map V.int)) = Hd at sd ed ⊢
    walk_at "sts"
    refine L_tuple1 (.of ed) fun p3 hp3 => ?_
    have se := same_new (o := .tup (wy.1.map V.int)) hp3
    have ee : upd Hd p3 (.tup (wy.1.map V.int)) p3 = some (.tup (wy.1.map V.int)) := upd_same
    generalize upd Hd p3 (.tup (wy.1.map V.int)) = He at se ee ⊢
    have sae := sab.trans (sc.trans (sd.trans se))
    refine L_neR (d := .tuple (wy.1.map .int)) (.tup (.of (sae _ _ g2)) (dp_ints _)) (.tup (.of ee) (dp_ints _)) (shp_tup (n := 0) (shp_map fun r _ => shp_int)).ok ?_
    walk_at "sts"
    refine ⟨kp, rfl, ⟨_, .of (sae _ _ g2)⟩, ?_⟩
    refine lc_fm walk_tup (fun _ => none) (by rw [List.length_map]; omega) (fun H' e => .of (e _ _ (sae _ _ g2))) ?_ ?_
    · rintro j x1 Hb Hb' R R' hj sm ⟨rfl, hx1⟩ q1 q2
      rw [List.getElem?_map] at hx1
      obtain ⟨k, hk, rfl⟩ := Option.map_eq_some_iff.mp hx1
      walk_at "sts"
      refine ⟨rfl, ?_⟩
      walk_at "sts"
      refine L_notInIs (.of (sm _ _ (sae _ _ pp8))) ?_
      walk_at "sts"
      refine L_ndF (hws.subset (List.mem_of_getElem? hk)) ?_
      exact q2 _ rfl (.refl _)
    intro pe Hf hpe sf ef
    rw [show ∀ n, (List.range n).filterMap (fun _ => (none : Option V)) = [] from fun n => by simp] at ef
    walk_at "sts"
    walk_at "nw"
    rename_i pz hpz Hg sg eg
    refine L_neR (d := .list []) (.lst (.of (sg _ _ ef)) .nil) (.lst (.of eg) .nil) (shp_lst (n := 0) shp_nil).ok ?_
    walk_at "sts"
    have saf : Same Hb Hg := sc.trans (sd.trans (se.trans (sf.trans sg)))
    exact ⟨pn, _, _, rfl, sab.trans saf, saf.seqT (.of eb)⟩
  rintro σ' Ha ⟨tp, v4, v5, rfl, sa, htp⟩
  rw [wsl, List.take_length, hone] at htp
  have ev0a := ev08.trans (Ev.same (T := tabsL K mg) sa)
  walk_at "sts"
  walk_at "nw"
  rename_i po hpo Hb sb eb
  refine L_eqR (d := d2 (1, 1)) (.tup (sb.seqT htp) (.cons (.int _) (.cons (.int _) .nil))) (.tup (.of eb) (.cons (.int _) (.cons (.int _) .nil))) (shp_tup (n := 0) (shp_cons shp_int (shp_cons shp_int shp_nil))).ok ?_
  walk_at "sts"
  have sab := sa.trans sb
  have ev0b := ev08.trans (Ev.same (T := tabsL K mg) sab)
  refine matrix_disp (hpl.ev ev0b) hok (hc.ev ev0b) fun pm Hc os hpm sc ec rnc => ?_
  walk_at "sts"
  have sac := sab.trans sc
  refine ⟨W, ps, ws, D, .of (sac _ _ wa8), paired_imp2 (fun _ _ h => WayR.to h sac) hW8, .of (sac _ _ pp8), d0, d1, gw, by omega, by omega, fun du Hd os2 hdu sd ed rnd => ?_⟩
  rw [hmat] at rnd
  have evd : Ev (tabsL K mg) Hc Hd := .same sd
  have ecd := sd _ _ ec
  have rncd := rnc.ev evd
  walk_at "sts"
  have ml : (plM cr pl).length = ps.length := by rw [← hmat]; unfold togW; rw [List.length_map]
  have mr : ∀ r ∈ plM cr pl, r.length = ps.length := fun r hr => by
    rw [← hmat] at hr
    unfold togW at hr
    obtain ⟨i, _, rfl⟩ := List.mem_map.mp hr
    rw [List.length_map]
  refine ⟨plM cr pl, _, _, .of ecd, .of ed, rncd.dp, rnd.dp, by omega, fun r hr => by rw [mr r hr]; omega, fun He se => ?_⟩
  exact q He (ev0b.trans (.same (sc.trans (sd.trans se))))
theorem ch_half : ∀ n k : Nat, ch (n + 1) k ≤ 2 ^ n
  | n, 0 => by rw [ch_zero]; exact Nat.one_le_two_pow
  | 0, k + 1 => by
    rw [ch_step]
    cases k with
    | zero => exact Nat.le_refl _
    | succ k => exact Nat.zero_le _
  | n + 1, k + 1 => by
    have h1 := ch_half n k
    have h2 := ch_half n (k + 1)
    rw [ch_step, Nat.pow_succ]
    omega
theorem ch_lt64 {n k : Nat} (h : n ≤ 6) : ch n k < 64 := by
  cases n with
  | zero => exact Nat.lt_of_le_of_lt (ch_le 0 k) (by decide)
  | succ n =>
    have h1 := ch_half n k
    have h2 : 2 ^ n ≤ 2 ^ 5 := Nat.pow_le_pow_right (n := 2) (by decide) (by omega)
    have : (2 : Nat) ^ 5 = 32 := by decide
    omega
/-- where what is kept stands -/
def KpA (H : Hp) (v : V) (p : Addr × List Int) : Prop := ∃ q m, v = .ref q ∧ H q = some (.tup [.ref p.1, m]) ∧ H p.1 = some (.tup (p.2.map V.int))
theorem kps_of {K : PySem.W.Frag} {H : Hp} : ∀ {ws : List V} {W : Wt}, Paired (WayR K H) ws W → ∃ ks : List (Addr × List Int), ks.map (·.2) = W.map (·.1) ∧ Paired (KpA H) ws ks
  | _, [], h => by cases h; exact ⟨[], rfl, .nil⟩
  | _, w :: W, h => by
    cases h with | cons h1 h2 =>
    obtain ⟨ks, e, p⟩ := kps_of h2
    obtain ⟨q, kp, m, rfl, g1, g2, _⟩ := h1
    exact ⟨(kp, w.1) :: ks, by rw [List.map_cons, List.map_cons, e], .cons ⟨q, .ref m, rfl, g1, g2⟩ p⟩
theorem KpA.same {H H' : Hp} {v : V} {p : Addr × List Int} (h : KpA H v p) (s : Same H H') : KpA H' v p := by
  obtain ⟨q, m, e, h1, h2⟩ := h
  exact ⟨q, m, e, s _ _ h1, s _ _ h2⟩
def sp__law_alike (K : PySem.W.Frag) (mg : Str → Option Value) : Sp := fun vs H Q _ => match vs with | [.ref x, .ref c, .int m] => ∃ (cr : List Mem), FewA mg x m H ∧ 0 ≤ m ∧ m ≤ 24 ∧ CrdS K H c cr ∧ cr.length ≤ 6 ∧ Tabs (tabsL K mg) H ∧ ∀ H', Ev (tabsL K mg) H H' → Q (.bl true) H' | _ => False
theorem q__law_alike {H : Hp} {Q : VK} {E : XK} {x : Addr} {c : Addr} {m : Int} (q : ∃ (cr : List Mem), FewA mg x m H ∧ 0 ≤ m ∧ m ≤ 24 ∧ CrdS K H c cr ∧ cr.length ≤ 6 ∧ Tabs (tabsL K mg) H ∧ ∀ H', Ev (tabsL K mg) H H' → Q (.bl true) H') : sp__law_alike K mg [.ref x, .ref c, .int m] H Q E := q
local macro_rules | `(tactic| walk_at "op") => `(tactic| with_reducible refine q__law_alike ?_)
theorem c__law_alike (T : Txt K mg base) : Cal P w K mg base 15 "_law_alike" (sp__law_alike K mg) := by
  refine T.d__law_alike.cal (k := 14) sc__law_alike (by intro vs H Q E h; unfold sp__law_alike at h; split at h <;> first | rfl | exact h.elim) fun f cdv A outer s H vs Q E hr h => ?_
  refine ⟨_, (pss_cons (ps_set (i := 3) sc__law_alike.nd rfl (.inl rfl) (pe_c (c__law_ways T) hr (by decide) (by rfl) (pa_cons (pe_mt (c_Few_node T) hr (by decide) (pv 0) (pa_cons (pv 1) pa_nil)) (pa_cons (pe_tup (pa_cons pe_int (pa_cons pe_int pa_nil))) pa_nil))))
    (pss_cons (ps_set (i := 4) sc__law_alike.nd rfl (.inr rfl) pe_int)
    (pss_cons (ps_for PassesOwn.never rfl (pi_range1 (by rfl) T.n_range (pa_cons (pe_callB (call_min2A rfl) (by rfl) T.n_min (by decide +kernel) (pa_cons (pv 2) (pa_cons (pe_callB call_lenA (by rfl) T.n_len (by decide +kernel) (pa_cons (pv 1) pa_nil)) pa_nil))) pa_nil)) (pg_name (i := 5) sc__law_alike.nd rfl (.inl rfl))
    (pss_one (ps_set (i := 4) sc__law_alike.nd rfl (.inr rfl) (pe_op op_fdivW (pe_op op_mulA (pv 4) (pe_op op_sub (pe_callB call_lenA (by rfl) T.n_len (by decide +kernel) (pa_cons (pv 1) pa_nil)) (pv 5))) (pe_op op_addA (pv 5) pe_int)))))
    (pss_cons (ps_if (PW.pt (pw_or (pt_cmpR (op_neA hr) (pe_callB call_lenA (by rfl) T.n_len (by decide +kernel) (pa_cons (pv 3) pa_nil)) (pv 4) (nomark _)) (pw_or1 (pt_cmpR (op_neA hr) (pe_callB cr_lenST (by rfl) T.n_len (by decide +kernel) (pa_cons (pe_callTy (cr_setOfT rfl (Nat.lt_of_succ_lt (hr65 hr))) (by rfl) T.n_set (by decide +kernel) (pa_cons (pe_lc (own := [("_law_kept", 6), ("_law_much", 7)]) (g := (gTup K 2 (gCons (gName 6) (gCons (gName 7) gNil)))) (tt := tYes) (te := (tVar 6)) rfl sc__law_alike.nd (pi_list (pv 3)) (blkOk_by (N := ["_law_plan", "_law_crowd_here", "_law_many", "_law_ways_here", "_law_sets", "_law_k", "_law_kept", "_law_much"]) (sc := defScope s__law_alike) (by decide +kernel)) (fun _ _ _ _ _ => by exact (pg_tup rfl (pgs_cons (pg_name (i := 6) sc__law_alike.nd rfl (.inl rfl)) (pgs_cons (pg_name (i := 7) sc__law_alike.nd rfl (.inl rfl)) pgs_nil)))) (fun _ _ _ _ _ => pts_nil) (fun _ _ _ _ _ => by exact (pv 6))) pa_nil)) pa_nil)) (pv 4) (nomark _)))))
    (pss_one (ps_ret pe_bl))
    pss_nil)
    (pss_one (ps_ret (pe_cmpR (op_eqA hr) (pe_lc (own := [("_law_kept", 6), ("_law_much", 7)]) (g := (gTup K 2 (gCons (gName 6) (gCons (gName 7) gNil)))) (tt := (tTest (tOp (aNe K) (tVar 7) (tTup (tCons (tC (.int 1)) (tCons (tVar 4) tNil)))))) (te := (tVar 7)) rfl sc__law_alike.nd (pi_list (pv 3)) (blkOk_by (N := ["_law_plan", "_law_crowd_here", "_law_many", "_law_ways_here", "_law_sets", "_law_k", "_law_kept", "_law_much"]) (sc := defScope s__law_alike) (by decide +kernel)) (fun _ _ _ _ _ => by exact (pg_tup rfl (pgs_cons (pg_name (i := 6) sc__law_alike.nd rfl (.inl rfl)) (pgs_cons (pg_name (i := 7) sc__law_alike.nd rfl (.inl rfl)) pgs_nil)))) (fun _ _ _ _ _ => by exact pts_one (pt_cmpR (op_neA hr) (pv 7) (pe_tup (pa_cons pe_int (pa_cons (pv 4) pa_nil))) (nomark _))) (fun _ _ _ _ _ => by exact (pv 7))) (pe_lst pa_nil) (nomark _)))))))), ?_⟩
  try simp only [cxOf_K, cxOf_K', cxOf_mg, cxOf_mg']
  unfold sp__law_alike at h
  split at h
  case h_2 => exact h.elim
  rename_i x c m
  rw [show L2.start ["_law_plan", "_law_crowd_here", "_law_many", "_law_ways_here", "_law_sets", "_law_k", "_law_kept", "_law_much"] [V.ref x, V.ref c, V.int m] = [some (V.ref x), some (V.ref c), some (V.int m), none, none, none, none, none] from rfl]
  obtain ⟨cr, hx, m0, m1, hc, hl6, hT, q⟩ := h
  obtain ⟨us, hS, hD⟩ := hc.ex
  have hul : us.length = cr.length := by rw [hD.len, List.length_map]
  have hup := hc.ok.up
  have hx' := hx
  obtain ⟨dx, hxd⟩ := hx'
  have hpl : (cr.map fun z : Mem => z.1).length = cr.length := List.length_map ..
  have hcrd := hc.crd
  generalize hps : (cr.map fun z : Mem => z.1) = ps at *
  have hw := few_W hup m0 (d := ps.length) (Nat.le_refl _)
  have tok := few_tree ps.length ps m [] (Nat.le_refl _) (by omega) m0
  have hkn : (min m (ps.length : Int)).toNat ≤ ps.length := by omega
  have hC64 := ch_lt64 (n := ps.length) (k := (min m (ps.length : Int)).toNat) (by omega)
  have hCp := ch_pos hkn
  have hsl := subs_len (min m (ps.length : Int)).toNat ps
  have hsn := subs_nd (k := (min m (ps.length : Int)).toNat) (hup.imp fun z => Int.ne_of_lt z : ps.Nodup)
  walk_at "sts"
  refine L_methv hxd rfl ?_
  walk_at "sts"
  refine ⟨fun _ => True, m, ps, NL.all, hx, m0, hcrd, hT, fun v H2 ev2 at2 => ?_⟩
  walk_at "sts"
  walk_at "nw"
  rename_i p4 hp4 H3 s3 e3
  walk_at "sts"
  have ev03 := ev2.trans (Ev.same (T := tabsL K mg) s3)
  have b1 : BdQ 3 (1 : Rat) := ⟨by unfold Bd; decide +kernel, by unfold Bd; decide +kernel⟩
  refine ⟨.few (ps, m, []), ps.length, 3, 1, by show ps.length ≤ (7 : Nat); omega, AtF.ev at2 (Ev.same (T := tabsL K mg) s3), tok, by rw [hw, List.length_map, hsl]; omega, .of e3, b1, by omega, ev03.tb hT, fun wa H4 ws hwa ev4 e4 hW4 => ?_⟩
  rw [hw] at hW4
  generalize hkk : (min m (ps.length : Int)).toNat = k at *
  have ev04 := ev03.trans ev4
  have wsl : ws.length = ch ps.length k := by rw [Paired.length hW4, List.length_map, hsl]
  have hS4 := ev04.seq hS
  walk_at "sts"
  refine L_lenL hS4 ?_
  walk_at "sts"
  rw [hul]
  refine L_r1 (by omega) (by omega) ?_
  rw [show (min m (cr.length : Int)).toNat = k by omega]
  refine f_range (fun i σ' H' => H' = H4 ∧ ∃ v5 : Option V, σ' = [some (.ref x), some (.ref c), some (.int m), some (.ref wa), some (.int ((ch ps.length i : Nat) : Int)), v5, none, none]) ⟨rfl, _, by rw [ch_zero]; rfl⟩ ?_ ?_
  · rintro i σ' H' hi ⟨rfl, v5, rfl⟩
    have hc1 := Nat.le_trans (ch_le ps.length i) (pow6 (by omega))
    have nx := ch_next (n := ps.length) (k := i) (by omega)
    walk_at "sts"
    refine L_lenL hS4 ?_
    walk_at "sts"
    rw [hul]
    refine L_mulI ((bd_64 (by omega)).cmul (bd_64 (by omega))) ?_
    walk_at "sts"
    have hval : ((ch ps.length i : Nat) : Int) * ((cr.length : Int) - (0 + (i : Int))) = ((i : Int) + 1) * ((ch ps.length (i + 1) : Nat) : Int) := by
      rw [show ((cr.length : Int) - (0 + (i : Int))) = ((ps.length - i : Nat) : Int) by omega, show ((i : Int) + 1) = ((i + 1 : Nat) : Int) by omega, Int.mul_comm]
      exact_mod_cast nx.symm
    refine L_I ((bd_64 (i := (0 : Int) + (i : Int) + 1) (by omega)).cdiv (show 0 < (0 : Int) + (i : Int) + 1 by omega)) ?_
    walk_at "sts"
    rw [show ((ch ps.length i : Nat) : Int) * ((cr.length : Int) - (0 + (i : Int))) / (0 + (i : Int) + 1) = ((ch ps.length (i + 1) : Nat) : Int) by rw [hval, show (0 : Int) + (i : Int) + 1 = (i : Int) + 1 by omega, Int.mul_ediv_cancel_left _ (show (i : Int) + 1 ≠ 0 by omega)]]
    exact ⟨rfl, _, rfl⟩
  rintro σ' H' ⟨rfl, v5, rfl⟩
  walk_at "sts"
  refine L_lenL (.of e4) ?_
  walk_at "sts"
  rw [wsl]
  refine L_ndF rfl ?_
  walk_at "sts"
  obtain ⟨kps, hkp, hKP⟩ := kps_of hW4
  have hkl : kps.length = ws.length := (Paired.length hKP).symm
  rw [List.map_map, show (subs k ps).map ((fun p : List Int × Rat => p.1) ∘ fun c => (c, 1 / ((ch ps.length k : Nat) : Rat))) = (subs k ps).map id from rfl, List.map_id] at hkp
  refine L_rl (.of e4) ?_
  refine lc_fm walk_list (fun i => (kps[i]?).map fun p => V.ref p.1) (by omega) (fun H' s => .of (s _ _ e4)) ?_ ?_
  · rintro j x1 Hb Hb' R R' hj sm ⟨rfl, hx1⟩ q1 q2
    obtain ⟨p, hp, q0, m', rfl, g1, g2⟩ := paired_nth hKP hx1
    refine L_gTup (.of (sm _ _ g1)) rfl ?_
    walk_at "sts"
    refine ⟨rfl, ?_⟩
    walk_at "sts"
    exact q1 _ _ (by rw [hp]; rfl) (.refl _)
  rw [← hkl, fm_get (fun p : Addr × List Int => V.ref p.1) kps]
  intro pl H5 hpl5 s5 e5
  have hK5 := paired_imp2 (fun _ _ h => KpA.same h s5) hKP
  walk_at "sts"
  refine ⟨pl, kps, rfl, .of e5, fun p hp => ?_, by omega, fun a L hna sub cov => ?_⟩
  · obtain ⟨i, hi⟩ := List.mem_iff_getElem?.mp hp
    obtain ⟨v, _, q0, m', _, _, g2⟩ := paired_of hK5 hi
    exact .of g2
  have s6 := same_new (o := SetTO P w a L) hna
  generalize hg6 : upd H5 a (SetTO _ _ a L) = H6
  rw [show upd H5 a (SetTO P w a L) = H6 from hg6] at s6
  walk_at "sts"
  refine ⟨a, L, rfl, by rw [← hg6]; exact upd_same, fun p hp => ?_, fun nd => ?_⟩
  · obtain ⟨i, hi⟩ := List.mem_iff_getElem?.mp (sub p hp)
    obtain ⟨v, _, q0, m', _, _, g2⟩ := paired_of hK5 hi
    exact .of (s6 _ _ g2)
  have hLl : L.length = ch ps.length k := by
    have pm : (L.map (·.2)).Perm (subs k ps) := (List.perm_ext_iff_of_nodup nd hsn).mpr fun x => by
      rw [← hkp]
      constructor
      · intro h
        obtain ⟨p, hp, rfl⟩ := List.mem_map.mp h
        exact List.mem_map.mpr ⟨p, sub p hp, rfl⟩
      · intro h
        obtain ⟨p, hp, rfl⟩ := List.mem_map.mp h
        exact cov p hp
    have := pm.length_eq
    rw [List.length_map, hsl] at this
    exact this
  rw [hLl]
  walk_at "sts"
  refine L_ndF rfl ?_
  walk_at "sts"
  have s46 := s5.trans s6
  have hW6 := paired_imp2 (fun _ _ h => WayR.to h s46) hW4
  have e46 := s46 _ _ e4
  refine L_rl (.of e46) ?_
  refine lc_fm walk_list (fun _ => none) (by omega) (fun H' s => .of (s _ _ e46)) ?_ ?_
  · rintro j x1 Hb Hb' R R' hj sm ⟨rfl, hx1⟩ q1 q2
    obtain ⟨wy, hwy, q0, kp, m', rfl, g1, g2, g3⟩ := paired_nth hW6 hx1
    obtain ⟨cc, _, rfl⟩ := List.mem_map.mp (List.mem_of_getElem? hwy)
    refine L_gTup (.of (sm _ _ g1)) rfl ?_
    walk_at "sts"
    refine ⟨rfl, ?_⟩
    walk_at "sts"
    walk_at "nw"
    rename_i pt hpt H7 s7 e7
    have g3' : SqT K H7 m' [.int 1, .int ((ch ps.length k : Nat) : Int)] := by
      have := (sm.trans s7).seqT g3
      rw [show ((1 : Rat) / ((ch ps.length k : Nat) : Rat)) = 1 / (((ch ps.length k : Nat) : Int) : Rat) by rw [Rat.intCast_natCast], qt_unit (by omega)] at this
      exact this
    refine L_neR (d := d2 (1, ((ch ps.length k : Nat) : Int))) (.tup g3' (.cons (.int _) (.cons (.int _) .nil))) (.tup (.of e7) (.cons (.int _) (.cons (.int _) .nil))) (shp_tup (n := 0) (shp_cons shp_int (shp_cons shp_int shp_nil))).ok ?_
    walk_at "sts"
    exact q2 _ rfl s7
  intro pe H8 hpe s8 e8
  rw [show ∀ n, (List.range n).filterMap (fun _ => (none : Option V)) = [] from fun n => by simp] at e8
  walk_at "sts"
  walk_at "nw"
  rename_i pz hpz H9 s9 e9
  refine L_eqR (d := .list []) (.lst (.of (s9 _ _ e8)) .nil) (.lst (.of e9) .nil) (shp_lst (n := 0) shp_nil).ok ?_
  exact q _ (ev04.trans (.same (s46.trans (s8.trans s9))))
def sp_law (K : PySem.W.Frag) (mg : Str → Option Value) : Sp := fun vs H Q _ => match vs with | [.ref a] => ∃ ns : List Int, SqL K H a (ns.map V.int) ∧ ns.length ≤ 63 ∧ (∀ z ∈ ns, Builtin.Int.intBits z ≤ 1048576) ∧ Tabs (tabsL K mg) H ∧ ∀ H', Q (.bl true) H' | _ => False
theorem q_law {H : Hp} {Q : VK} {E : XK} {a : Addr} (q : ∃ ns : List Int, SqL K H a (ns.map V.int) ∧ ns.length ≤ 63 ∧ (∀ z ∈ ns, Builtin.Int.intBits z ≤ 1048576) ∧ Tabs (tabsL K mg) H ∧ ∀ H', Q (.bl true) H') : sp_law K mg [.ref a] H Q E := q
local macro_rules | `(tactic| walk_at "op") => `(tactic| with_reducible refine q_law ?_)
theorem c_law (T : Txt K mg base) {f : Addr} {fd : FuncData} (F : Fun K "law" "law" s_law f fd) : FnOk P w K mg base CX0 16 f fd ["_law_script"] (sp_law K mg) := by
  refine F.ok (k := 15) sc_law (by intro vs H Q E h; unfold sp_law at h; split at h <;> first | rfl | exact h.elim) fun cdv A outer s H vs Q E hr h => ?_
  refine ⟨_, (pss_cons (ps_set (i := 1) sc_law.nd rfl (.inl rfl) (pe_c (c__law_crowd T) hr (by decide) (by rfl) (pa_cons (pv 0) (pa_cons pe_int (pa_cons pe_int pa_nil)))))
    (pss_cons (ps_set (i := 2) sc_law.nd rfl (.inl rfl) (pe_op op_mod (pe_c (c__law_cell T) hr (by decide) (by rfl) (pa_cons (pv 0) (pa_cons pe_int pa_nil))) pe_int))
    (pss_cons (ps_for PassesOwn.never rfl (pi_list (pe_lst (pa_cons (pe_xMk (m_Few T) hr (by decide) (by rfl) (fun σ => passN σ) (pa_cons (pv 2) pa_nil)) (pa_cons (pe_xMk (m_Loose T) hr (by decide) (by rfl) (fun σ => passN σ) (pa_cons (pv 2) pa_nil)) (pa_cons (pe_xMk (m_Start T) hr (by decide) (by rfl) (fun σ => passN σ) (pa_cons (pe_op op_addA pe_int (pe_op op_mod (pe_c (c__law_cell T) hr (by decide) (by rfl) (pa_cons (pv 0) (pa_cons pe_int pa_nil))) pe_int)) pa_nil)) pa_nil))))) (pg_name (i := 3) sc_law.nd rfl (.inl rfl))
    (pss_one (ps_if (pt_not (pt_val (pe_c (c__law_good T) hr (by decide) (by rfl) (pa_cons (pv 3) (pa_cons (pe_callTy call_list1A (by rfl) T.n_list (by decide +kernel) (pa_cons (pv 1) pa_nil)) pa_nil)))))
    (pss_one (ps_ret pe_bl))
    pss_nil)))
    (pss_one (ps_ret (pe_c (c__law_alike T) hr (by decide) (by rfl) (pa_cons (pe_xMk (m_Few T) hr (by decide) (by rfl) (fun σ => passN σ) (pa_cons (pv 2) pa_nil)) (pa_cons (pv 1) (pa_cons (pv 2) pa_nil))))))))), ?_⟩
  try simp only [cxOf_K, cxOf_K', cxOf_mg, cxOf_mg']
  unfold sp_law at h
  split at h
  case h_2 => exact h.elim
  rename_i a
  rw [show L2.start ["_law_script", "_law_crowd_here", "_law_many", "_law_plan"] [V.ref a] = [some (V.ref a), none, none, none] from rfl]
  obtain ⟨ns, hS, hl, hbits, hT, q⟩ := h
  walk_at "sts"
  refine ⟨ns, hS, by decide, by decide, by decide, by decide, fun c us cr H1 hc1 s1 e1 d1 hcr hcl => ?_⟩
  have D1 : DpAll K H1 us (cr.map d3) := d1.same rs_sub
  have hcd1 : CrdS K H1 c cr := ⟨⟨us, .of e1, D1⟩, hcr⟩
  walk_at "sts"
  refine ⟨ns, s1.seq hS, by omega, by omega, ?_⟩
  walk_at "sa"
  have c0 := Int.emod_nonneg (cellAt ns 4 (7919 * 4 + 13)) (show (8 : Int) ≠ 0 by decide)
  have c1 := Int.emod_lt_of_pos (cellAt ns 4 (7919 * 4 + 13)) (show (0 : Int) < 8 by decide)
  generalize cellAt ns 4 (7919 * 4 + 13) % 8 = m at c0 c1 ⊢
  refine fun x1 dx1 nx1 nd1 ne1 => ?_
  refine ⟨dx1, upd_same, .inr ⟨m, rfl, by omega, by omega, fun H2 keep2 hx2 => ⟨rfl, ?_⟩⟩⟩
  have s2 : Same H1 H2 := Same.made nx1 nd1 keep2
  walk_at "sts"
  refine fun x2 dx2 nx2 nd2 ne2 => ?_
  refine ⟨dx2, upd_same, .inr ⟨m, rfl, by omega, by omega, fun H3 keep3 hx3 => ⟨rfl, ?_⟩⟩⟩
  have s3 : Same H2 H3 := Same.made nx2 nd2 keep3
  walk_at "sts"
  refine ⟨ns, (s1.trans (s2.trans s3)).seq hS, by omega, by omega, ?_⟩
  walk_at "sa"
  have k0 := Int.emod_nonneg (cellAt ns 5 (7919 * 5 + 13)) (show (8 : Int) ≠ 0 by decide)
  have k1 := Int.emod_lt_of_pos (cellAt ns 5 (7919 * 5 + 13)) (show (0 : Int) < 8 by decide)
  obtain ⟨k, hk⟩ : ∃ k : Nat, 1 + cellAt ns 5 (7919 * 5 + 13) % 8 = (k : Int) := ⟨(1 + cellAt ns 5 (7919 * 5 + 13) % 8).toNat, by omega⟩
  rw [hk]
  refine fun x3 dx3 nx3 nd3 ne3 => ?_
  refine ⟨dx3, upd_same, .inr ⟨(k : Int), rfl, by omega, by omega, fun H4 keep4 hx4 => ⟨rfl, ?_⟩⟩⟩
  have s4 : Same H3 H4 := Same.made nx3 nd3 keep4
  walk_at "sts"
  walk_at "nw"
  rename_i pl hpl H5 s5 e5
  have s15 : Same H1 H5 := s2.trans (s3.trans (s4.trans s5))
  have T5 := ((s1.trans s15) |> fun z => hT.ext z)
  have hc5 : CrdS K H5 c cr := hcd1.ev (Ev.same (T := tabsL K mg) s15)
  have plans : ∀ (i : Nat) (y : V), ([.ref x1, .ref x2, .ref x3] : List V)[i]? = some y → ∃ xa pl, y = .ref xa ∧ PlA mg xa H5 pl ∧ PlOk pl := fun i y hy => by
    match i, hy with
    | 0, hy =>
      cases hy
      exact ⟨x1, .few m, rfl, ⟨dx1, (s3.trans (s4.trans s5)) _ _ hx2⟩, by omega, by omega⟩
    | 1, hy =>
      cases hy
      exact ⟨x2, .loo m, rfl, ⟨dx2, (s4.trans s5) _ _ hx3⟩, by omega, by omega⟩
    | 2, hy =>
      cases hy
      exact ⟨x3, .sta k, rfl, ⟨dx3, s5 _ _ hx4⟩, by omega, by omega⟩
    | i + 3, hy => cases hy
  refine L_rl (.of e5) ?_
  refine f_it walk_list (fun i σ' H' => Ev (tabsL K mg) H5 H' ∧ ∃ v3 : Option V, σ' = [some (.ref a), some (.ref c), some (.int m), v3]) ⟨.refl, _, rfl⟩ (fun _ _ _ _ p => .of (p.1.lst e5)) ?_ ?_
  · rintro i y σ' H6 H6' hi ⟨ev6, v3, rfl⟩ ⟨rfl, hy⟩
    obtain ⟨xa, pl', rfl, hpa, hpo⟩ := plans i y hy
    have hc6 := hc5.ev ev6
    obtain ⟨us6, hS6, hD6⟩ := hc6.ex
    walk_at "sts"
    refine L_list1 hS6 fun p7 hp7 => ?_
    have s7 := same_new (o := .lst us6) hp7
    have e7 : upd H6' p7 (.lst us6) p7 = some (.lst us6) := upd_same
    generalize upd H6' p7 (.lst us6) = H7 at s7 e7 ⊢
    have ev7 : Ev (tabsL K mg) H5 H7 := ev6.trans (.same s7)
    walk_at "sts"
    refine ⟨pl', cr, hpa.ev ev7, hpo, ⟨⟨us6, .of e7, hD6.same s7⟩, hcr⟩, by omega, ev7.tb T5, fun H8 ev8 => ?_⟩
    walk_at "sts"
    exact ⟨ev7.trans ev8, _, rfl⟩
  · rintro σ' H6 ⟨ev6, v3, rfl⟩
    walk_at "sts"
    refine fun x9 dx9 nx9 nd9 ne9 => ?_
    refine ⟨dx9, upd_same, .inr ⟨m, rfl, by omega, by omega, fun H9 keep9 hx9 => ⟨rfl, ?_⟩⟩⟩
    have s9 : Same H6 H9 := Same.made nx9 nd9 keep9
    have ev9 : Ev (tabsL K mg) H5 H9 := ev6.trans (.same s9)
    walk_at "sts"
    refine ⟨cr, ⟨dx9, hx9⟩, by omega, by omega, hc5.ev ev9, by omega, ev9.tb T5, fun H10 ev10 => ?_⟩
    exact q H10
end
theorem txt_mk {K : PySem.W.Frag} {h : Heap} {mg : Str → Option Value} {ts : List Addr} (X : K.In h) (G : h.Ns mainGlobals mg) (Y : ∀ P ∈ ts, h.get? P = some (PySem.W.tabObj #[]))
    (z_n_bool : PySem.W.nsIn K mainGlobals "bool" = some none)
    (z_n_int : PySem.W.nsIn K mainGlobals "int" = some none)
    (z_n_isinstance : PySem.W.nsIn K mainGlobals "isinstance" = some none)
    (z_n_abs : PySem.W.nsIn K mainGlobals "abs" = some none)
    {C_SpeakError : Addr} (aC_SpeakError : PySem.W.nsIn K mainGlobals "SpeakError" = some (some (.ref C_SpeakError)))
    (bi0_SpeakError : PySem.W.readsIn K C_SpeakError (.type "type") = true) (bi1_SpeakError : PySem.W.specialIn K (.ref C_SpeakError) "__getattribute__" = some (some (.builtin "type.__getattribute__"))) (bi2_SpeakError : PySem.W.findCls K (.ref C_SpeakError) (.type "type") "__init__" = some (.val (.builtin "ValueError.__init__")))
    {C_NoPlan : Addr} (aC_NoPlan : PySem.W.nsIn K mainGlobals "NoPlan" = some (some (.ref C_NoPlan)))
    (ox_NoPlan : ∃ nm q N bs bm sn sub ab col dd k0 k1 k2 k3 k5, K.lookup C_NoPlan = some (excClassObj nm q C_NoPlan N bs bm true sn sub ab col dd k0 k1 k2 k3 k5 "ValueError.__new__") ∧ PySem.HandSPX.refsVE bm = true) (o0_NoPlan : PySem.W.findIn K (.ref C_NoPlan) "__setattr__" = some (some (.builtin "object.__setattr__"))) (o1_NoPlan : PySem.W.subIn K (.ref C_NoPlan) (.type "BaseException") = some true) (o2_NoPlan : PySem.W.typeIn K (.ref C_NoPlan) = some (.type "type")) (o3_NoPlan : PySem.W.keepIn K (.ref C_NoPlan) = true)
    (na_NoPlan_place : PySem.W.findIn K (.ref C_NoPlan) "place" = some none)
    (z_n_sorted : PySem.W.nsIn K mainGlobals "sorted" = some none)
    (z_n_tuple : PySem.W.nsIn K mainGlobals "tuple" = some none)
    {C_Told : Addr} (aC_Told : PySem.W.nsIn K mainGlobals "Told" = some (some (.ref C_Told)))
    (pg_Told : PySem.W.plainGet K C_Told Str.empty = true) (hd_Told : PySem.W.hasDictIn K C_Told = true) (po_Told : PySem.W.plainOver K C_Told = true) (sa_Told : PySem.W.findIn K (.ref C_Told) "__setattr__" = some (some (.builtin "object.__setattr__"))) (mk_Told : PySem.W.makesIn K C_Told = true) (kc_Told : PySem.W.keepIn K (.ref C_Told) = true)
    (na_Told_places : PySem.W.findIn K (.ref C_Told) "places" = some none)
    {C_Die : Addr} (aC_Die : PySem.W.nsIn K mainGlobals "Die" = some (some (.ref C_Die)))
    (pg_Die : PySem.W.plainGet K C_Die Str.empty = true) (hd_Die : PySem.W.hasDictIn K C_Die = true) (po_Die : PySem.W.plainOver K C_Die = true) (sa_Die : PySem.W.findIn K (.ref C_Die) "__setattr__" = some (some (.builtin "object.__setattr__"))) (mk_Die : PySem.W.makesIn K C_Die = true) (kc_Die : PySem.W.keepIn K (.ref C_Die) = true)
    (na_Die_ways : PySem.W.findIn K (.ref C_Die) "ways" = some none)
    (z_n_len : PySem.W.nsIn K mainGlobals "len" = some none)
    (z_n_sum : PySem.W.nsIn K mainGlobals "sum" = some none)
    (z_n_range : PySem.W.nsIn K mainGlobals "range" = some none)
    (z_n_list : PySem.W.nsIn K mainGlobals "list" = some none)
    {C_Few : Addr} (aC_Few : PySem.W.nsIn K mainGlobals "Few" = some (some (.ref C_Few)))
    (pg_Few : PySem.W.plainGet K C_Few Str.empty = true) (hd_Few : PySem.W.hasDictIn K C_Few = true) (po_Few : PySem.W.plainOver K C_Few = true) (sa_Few : PySem.W.findIn K (.ref C_Few) "__setattr__" = some (some (.builtin "object.__setattr__"))) (mk_Few : PySem.W.makesIn K C_Few = true) (kc_Few : PySem.W.keepIn K (.ref C_Few) = true)
    (na_Few_many : PySem.W.findIn K (.ref C_Few) "many" = some none)
    (z_n_min : PySem.W.nsIn K mainGlobals "min" = some none)
    {u_g_MOST_DRAWN : Value} (z_g_MOST_DRAWN : PySem.W.nsIn K mainGlobals "MOST_DRAWN" = some (some u_g_MOST_DRAWN)) (y_g_MOST_DRAWN : RelV (.int 24) u_g_MOST_DRAWN)
    (z_n_str : PySem.W.nsIn K mainGlobals "str" = some none)
    {C_Start : Addr} (aC_Start : PySem.W.nsIn K mainGlobals "Start" = some (some (.ref C_Start)))
    (pg_Start : PySem.W.plainGet K C_Start Str.empty = true) (hd_Start : PySem.W.hasDictIn K C_Start = true) (po_Start : PySem.W.plainOver K C_Start = true) (sa_Start : PySem.W.findIn K (.ref C_Start) "__setattr__" = some (some (.builtin "object.__setattr__"))) (mk_Start : PySem.W.makesIn K C_Start = true) (kc_Start : PySem.W.keepIn K (.ref C_Start) = true)
    (na_Start_step : PySem.W.findIn K (.ref C_Start) "step" = some none)
    {u_g_MOST_STEP : Value} (z_g_MOST_STEP : PySem.W.nsIn K mainGlobals "MOST_STEP" = some (some u_g_MOST_STEP)) (y_g_MOST_STEP : RelV (.int 100) u_g_MOST_STEP)
    (z_n_enumerate : PySem.W.nsIn K mainGlobals "enumerate" = some none)
    {C_Loose : Addr} (aC_Loose : PySem.W.nsIn K mainGlobals "Loose" = some (some (.ref C_Loose)))
    (pg_Loose : PySem.W.plainGet K C_Loose Str.empty = true) (hd_Loose : PySem.W.hasDictIn K C_Loose = true) (po_Loose : PySem.W.plainOver K C_Loose = true) (sa_Loose : PySem.W.findIn K (.ref C_Loose) "__setattr__" = some (some (.builtin "object.__setattr__"))) (mk_Loose : PySem.W.makesIn K C_Loose = true) (kc_Loose : PySem.W.keepIn K (.ref C_Loose) = true)
    (na_Loose_many : PySem.W.findIn K (.ref C_Loose) "many" = some none)
    (z_n_zip : PySem.W.nsIn K mainGlobals "zip" = some none)
    (z_n_max : PySem.W.nsIn K mainGlobals "max" = some none)
    (z_n_set : PySem.W.nsIn K mainGlobals "set" = some none)
    {f_is_whole : Addr} {od_is_whole an_is_whole : Option Addr} {sl_is_whole : Array (Option Value)} {oc_is_whole kV_is_whole dc_is_whole pm_is_whole cd_is_whole ct_is_whole : Value}
    (a_is_whole : PySem.W.nsIn K mainGlobals "is_whole" = some (some (.ref f_is_whole))) (l_is_whole : K.lookup f_is_whole = some ⟨oc_is_whole, od_is_whole, .func (PySem.W.fnOf "is_whole" "is_whole" (defArgs s_is_whole) (defBody s_is_whole) (defScope s_is_whole) .none kV_is_whole dc_is_whole pm_is_whole an_is_whole cd_is_whole ct_is_whole), sl_is_whole⟩) (c_is_whole : PySem.W.codeIn K cd_is_whole "is_whole" = true) (k_is_whole : PySem.W.keepIn K (.ref f_is_whole) = true)
    {f_divisor : Addr} {od_divisor an_divisor : Option Addr} {sl_divisor : Array (Option Value)} {oc_divisor kV_divisor dc_divisor pm_divisor cd_divisor ct_divisor : Value}
    (a_divisor : PySem.W.nsIn K mainGlobals "divisor" = some (some (.ref f_divisor))) (l_divisor : K.lookup f_divisor = some ⟨oc_divisor, od_divisor, .func (PySem.W.fnOf "divisor" "divisor" (defArgs s_divisor) (defBody s_divisor) (defScope s_divisor) .none kV_divisor dc_divisor pm_divisor an_divisor cd_divisor ct_divisor), sl_divisor⟩) (c_divisor : PySem.W.codeIn K cd_divisor "divisor" = true) (k_divisor : PySem.W.keepIn K (.ref f_divisor) = true)
    {f_share : Addr} {od_share an_share : Option Addr} {sl_share : Array (Option Value)} {oc_share kV_share dc_share pm_share cd_share ct_share : Value}
    (a_share : PySem.W.nsIn K mainGlobals "share" = some (some (.ref f_share))) (l_share : K.lookup f_share = some ⟨oc_share, od_share, .func (PySem.W.fnOf "share" "share" (defArgs s_share) (defBody s_share) (defScope s_share) .none kV_share dc_share pm_share an_share cd_share ct_share), sl_share⟩) (c_share : PySem.W.codeIn K cd_share "share" = true) (k_share : PySem.W.keepIn K (.ref f_share) = true)
    {f_NoPlan___init__ : Addr} {od_NoPlan___init__ an_NoPlan___init__ : Option Addr} {sl_NoPlan___init__ : Array (Option Value)} {oc_NoPlan___init__ kV_NoPlan___init__ dc_NoPlan___init__ pm_NoPlan___init__ cd_NoPlan___init__ ct_NoPlan___init__ : Value}
    (a_NoPlan___init__ : PySem.W.findIn K (.ref C_NoPlan) "__init__" = some (some (.ref f_NoPlan___init__))) (i_NoPlan___init__ : PySem.W.isFn K (.ref f_NoPlan___init__) = true) (l_NoPlan___init__ : K.lookup f_NoPlan___init__ = some ⟨oc_NoPlan___init__, od_NoPlan___init__, .func (PySem.W.fnOf "__init__" "NoPlan.__init__" (defArgs s_NoPlan___init__) (defBody s_NoPlan___init__) (defScope s_NoPlan___init__) .none kV_NoPlan___init__ dc_NoPlan___init__ pm_NoPlan___init__ an_NoPlan___init__ cd_NoPlan___init__ ct_NoPlan___init__), sl_NoPlan___init__⟩) (c_NoPlan___init__ : PySem.W.codeIn K cd_NoPlan___init__ "NoPlan.__init__" = true) (k_NoPlan___init__ : PySem.W.keepIn K (.ref f_NoPlan___init__) = true)
    {f_Told___init__ : Addr} {od_Told___init__ an_Told___init__ : Option Addr} {sl_Told___init__ : Array (Option Value)} {oc_Told___init__ kV_Told___init__ dc_Told___init__ pm_Told___init__ cd_Told___init__ ct_Told___init__ : Value}
    (a_Told___init__ : PySem.W.findIn K (.ref C_Told) "__init__" = some (some (.ref f_Told___init__))) (i_Told___init__ : PySem.W.isFn K (.ref f_Told___init__) = true) (l_Told___init__ : K.lookup f_Told___init__ = some ⟨oc_Told___init__, od_Told___init__, .func (PySem.W.fnOf "__init__" "Told.__init__" (defArgs s_Told___init__) (defBody s_Told___init__) (defScope s_Told___init__) .none kV_Told___init__ dc_Told___init__ pm_Told___init__ an_Told___init__ cd_Told___init__ ct_Told___init__), sl_Told___init__⟩) (c_Told___init__ : PySem.W.codeIn K cd_Told___init__ "Told.__init__" = true) (k_Told___init__ : PySem.W.keepIn K (.ref f_Told___init__) = true)
    {f_Told_is_told : Addr} {od_Told_is_told an_Told_is_told : Option Addr} {sl_Told_is_told : Array (Option Value)} {oc_Told_is_told kV_Told_is_told dc_Told_is_told pm_Told_is_told cd_Told_is_told ct_Told_is_told : Value}
    (a_Told_is_told : PySem.W.findIn K (.ref C_Told) "is_told" = some (some (.ref f_Told_is_told))) (i_Told_is_told : PySem.W.isFn K (.ref f_Told_is_told) = true) (l_Told_is_told : K.lookup f_Told_is_told = some ⟨oc_Told_is_told, od_Told_is_told, .func (PySem.W.fnOf "is_told" "Told.is_told" (defArgs s_Told_is_told) (defBody s_Told_is_told) (defScope s_Told_is_told) .none kV_Told_is_told dc_Told_is_told pm_Told_is_told an_Told_is_told cd_Told_is_told ct_Told_is_told), sl_Told_is_told⟩) (c_Told_is_told : PySem.W.codeIn K cd_Told_is_told "Told.is_told" = true) (k_Told_is_told : PySem.W.keepIn K (.ref f_Told_is_told) = true)
    {f_Told_kept : Addr} {od_Told_kept an_Told_kept : Option Addr} {sl_Told_kept : Array (Option Value)} {oc_Told_kept kV_Told_kept dc_Told_kept pm_Told_kept cd_Told_kept ct_Told_kept : Value}
    (a_Told_kept : PySem.W.findIn K (.ref C_Told) "kept" = some (some (.ref f_Told_kept))) (i_Told_kept : PySem.W.isFn K (.ref f_Told_kept) = true) (l_Told_kept : K.lookup f_Told_kept = some ⟨oc_Told_kept, od_Told_kept, .func (PySem.W.fnOf "kept" "Told.kept" (defArgs s_Told_kept) (defBody s_Told_kept) (defScope s_Told_kept) .none kV_Told_kept dc_Told_kept pm_Told_kept an_Told_kept cd_Told_kept ct_Told_kept), sl_Told_kept⟩) (c_Told_kept : PySem.W.codeIn K cd_Told_kept "Told.kept" = true) (k_Told_kept : PySem.W.keepIn K (.ref f_Told_kept) = true)
    {f_Die___init__ : Addr} {od_Die___init__ an_Die___init__ : Option Addr} {sl_Die___init__ : Array (Option Value)} {oc_Die___init__ kV_Die___init__ dc_Die___init__ pm_Die___init__ cd_Die___init__ ct_Die___init__ : Value}
    (a_Die___init__ : PySem.W.findIn K (.ref C_Die) "__init__" = some (some (.ref f_Die___init__))) (i_Die___init__ : PySem.W.isFn K (.ref f_Die___init__) = true) (l_Die___init__ : K.lookup f_Die___init__ = some ⟨oc_Die___init__, od_Die___init__, .func (PySem.W.fnOf "__init__" "Die.__init__" (defArgs s_Die___init__) (defBody s_Die___init__) (defScope s_Die___init__) .none kV_Die___init__ dc_Die___init__ pm_Die___init__ an_Die___init__ cd_Die___init__ ct_Die___init__), sl_Die___init__⟩) (c_Die___init__ : PySem.W.codeIn K cd_Die___init__ "Die.__init__" = true) (k_Die___init__ : PySem.W.keepIn K (.ref f_Die___init__) = true)
    {f_Die_is_told : Addr} {od_Die_is_told an_Die_is_told : Option Addr} {sl_Die_is_told : Array (Option Value)} {oc_Die_is_told kV_Die_is_told dc_Die_is_told pm_Die_is_told cd_Die_is_told ct_Die_is_told : Value}
    (a_Die_is_told : PySem.W.findIn K (.ref C_Die) "is_told" = some (some (.ref f_Die_is_told))) (i_Die_is_told : PySem.W.isFn K (.ref f_Die_is_told) = true) (l_Die_is_told : K.lookup f_Die_is_told = some ⟨oc_Die_is_told, od_Die_is_told, .func (PySem.W.fnOf "is_told" "Node.is_told" (defArgs s_Die_is_told) (defBody s_Die_is_told) (defScope s_Die_is_told) .none kV_Die_is_told dc_Die_is_told pm_Die_is_told an_Die_is_told cd_Die_is_told ct_Die_is_told), sl_Die_is_told⟩) (c_Die_is_told : PySem.W.codeIn K cd_Die_is_told "Node.is_told" = true) (k_Die_is_told : PySem.W.keepIn K (.ref f_Die_is_told) = true)
    {f_few_node cc_few_node : Addr} {od_few_node an_few_node : Option Addr} {sl_few_node : Array (Option Value)} {oc_few_node kV_few_node dc_few_node pm_few_node ct_few_node : Value}
    (a_few_node : PySem.W.nsIn K mainGlobals "few_node" = some (some (.ref f_few_node)))
    (l_few_node : K.lookup f_few_node = some ⟨oc_few_node, od_few_node, .func (PySem.W.fnOf "few_node" "few_node" (defArgs s_few_node) (defBody s_few_node) (defScope s_few_node) .none kV_few_node dc_few_node pm_few_node an_few_node (.ref cc_few_node) ct_few_node), sl_few_node⟩) (c_few_node : PySem.W.codeIn K (.ref cc_few_node) "few_node" = true) (k_few_node : PySem.W.keepIn K (.ref f_few_node) = true)
    (ch_few_node : PySem.W.codeHdIn K cc_few_node (pK K cc_few_node) = true) (nk_few_node : K.lookup (pK K cc_few_node) = none) (mt_few_node : ts.contains (pK K cc_few_node) = true)
    {f_start_part cc_start_part : Addr} {od_start_part an_start_part : Option Addr} {sl_start_part : Array (Option Value)} {oc_start_part kV_start_part dc_start_part pm_start_part ct_start_part : Value}
    (a_start_part : PySem.W.nsIn K mainGlobals "start_part" = some (some (.ref f_start_part)))
    (l_start_part : K.lookup f_start_part = some ⟨oc_start_part, od_start_part, .func (PySem.W.fnOf "start_part" "start_part" (defArgs s_start_part) (defBody s_start_part) (defScope s_start_part) .none kV_start_part dc_start_part pm_start_part an_start_part (.ref cc_start_part) ct_start_part), sl_start_part⟩) (c_start_part : PySem.W.codeIn K (.ref cc_start_part) "start_part" = true) (k_start_part : PySem.W.keepIn K (.ref f_start_part) = true)
    (ch_start_part : PySem.W.codeHdIn K cc_start_part (pK K cc_start_part) = true) (nk_start_part : K.lookup (pK K cc_start_part) = none) (mt_start_part : ts.contains (pK K cc_start_part) = true)
    (nn_few_node_start_part : (pK K cc_few_node == pK K cc_start_part) = false) (nm_start_part_few_node : (pK K cc_start_part == pK K cc_few_node) = false)
    {f_loose_die cc_loose_die : Addr} {od_loose_die an_loose_die : Option Addr} {sl_loose_die : Array (Option Value)} {oc_loose_die kV_loose_die dc_loose_die pm_loose_die ct_loose_die : Value}
    (a_loose_die : PySem.W.nsIn K mainGlobals "loose_die" = some (some (.ref f_loose_die)))
    (l_loose_die : K.lookup f_loose_die = some ⟨oc_loose_die, od_loose_die, .func (PySem.W.fnOf "loose_die" "loose_die" (defArgs s_loose_die) (defBody s_loose_die) (defScope s_loose_die) .none kV_loose_die dc_loose_die pm_loose_die an_loose_die (.ref cc_loose_die) ct_loose_die), sl_loose_die⟩) (c_loose_die : PySem.W.codeIn K (.ref cc_loose_die) "loose_die" = true) (k_loose_die : PySem.W.keepIn K (.ref f_loose_die) = true)
    (ch_loose_die : PySem.W.codeHdIn K cc_loose_die (pK K cc_loose_die) = true) (nk_loose_die : K.lookup (pK K cc_loose_die) = none) (mt_loose_die : ts.contains (pK K cc_loose_die) = true)
    (nn_few_node_loose_die : (pK K cc_few_node == pK K cc_loose_die) = false) (nm_loose_die_few_node : (pK K cc_loose_die == pK K cc_few_node) = false)
    (nn_start_part_loose_die : (pK K cc_start_part == pK K cc_loose_die) = false) (nm_loose_die_start_part : (pK K cc_loose_die == pK K cc_start_part) = false)
    {f_loose_node : Addr} {od_loose_node an_loose_node : Option Addr} {sl_loose_node : Array (Option Value)} {oc_loose_node kV_loose_node dc_loose_node pm_loose_node cd_loose_node ct_loose_node : Value}
    (a_loose_node : PySem.W.nsIn K mainGlobals "loose_node" = some (some (.ref f_loose_node))) (l_loose_node : K.lookup f_loose_node = some ⟨oc_loose_node, od_loose_node, .func (PySem.W.fnOf "loose_node" "loose_node" (defArgs s_loose_node) (defBody s_loose_node) (defScope s_loose_node) .none kV_loose_node dc_loose_node pm_loose_node an_loose_node cd_loose_node ct_loose_node), sl_loose_node⟩) (c_loose_node : PySem.W.codeIn K cd_loose_node "loose_node" = true) (k_loose_node : PySem.W.keepIn K (.ref f_loose_node) = true)
    {f_Told_sides : Addr} {od_Told_sides an_Told_sides : Option Addr} {sl_Told_sides : Array (Option Value)} {oc_Told_sides kV_Told_sides dc_Told_sides pm_Told_sides cd_Told_sides ct_Told_sides : Value}
    (a_Told_sides : PySem.W.findIn K (.ref C_Told) "sides" = some (some (.ref f_Told_sides))) (i_Told_sides : PySem.W.isFn K (.ref f_Told_sides) = true) (l_Told_sides : K.lookup f_Told_sides = some ⟨oc_Told_sides, od_Told_sides, .func (PySem.W.fnOf "sides" "Node.sides" (defArgs s_Told_sides) (defBody s_Told_sides) (defScope s_Told_sides) .none kV_Told_sides dc_Told_sides pm_Told_sides an_Told_sides cd_Told_sides ct_Told_sides), sl_Told_sides⟩) (c_Told_sides : PySem.W.codeIn K cd_Told_sides "Node.sides" = true) (k_Told_sides : PySem.W.keepIn K (.ref f_Told_sides) = true)
    {f_Told_parts : Addr} {od_Told_parts an_Told_parts : Option Addr} {sl_Told_parts : Array (Option Value)} {oc_Told_parts kV_Told_parts dc_Told_parts pm_Told_parts cd_Told_parts ct_Told_parts : Value}
    (a_Told_parts : PySem.W.findIn K (.ref C_Told) "parts" = some (some (.ref f_Told_parts))) (i_Told_parts : PySem.W.isFn K (.ref f_Told_parts) = true) (l_Told_parts : K.lookup f_Told_parts = some ⟨oc_Told_parts, od_Told_parts, .func (PySem.W.fnOf "parts" "Node.parts" (defArgs s_Told_parts) (defBody s_Told_parts) (defScope s_Told_parts) .none kV_Told_parts dc_Told_parts pm_Told_parts an_Told_parts cd_Told_parts ct_Told_parts), sl_Told_parts⟩) (c_Told_parts : PySem.W.codeIn K cd_Told_parts "Node.parts" = true) (k_Told_parts : PySem.W.keepIn K (.ref f_Told_parts) = true)
    {f_Die_kept : Addr} {od_Die_kept an_Die_kept : Option Addr} {sl_Die_kept : Array (Option Value)} {oc_Die_kept kV_Die_kept dc_Die_kept pm_Die_kept cd_Die_kept ct_Die_kept : Value}
    (a_Die_kept : PySem.W.findIn K (.ref C_Die) "kept" = some (some (.ref f_Die_kept))) (i_Die_kept : PySem.W.isFn K (.ref f_Die_kept) = true) (l_Die_kept : K.lookup f_Die_kept = some ⟨oc_Die_kept, od_Die_kept, .func (PySem.W.fnOf "kept" "Node.kept" (defArgs s_Die_kept) (defBody s_Die_kept) (defScope s_Die_kept) .none kV_Die_kept dc_Die_kept pm_Die_kept an_Die_kept cd_Die_kept ct_Die_kept), sl_Die_kept⟩) (c_Die_kept : PySem.W.codeIn K cd_Die_kept "Node.kept" = true) (k_Die_kept : PySem.W.keepIn K (.ref f_Die_kept) = true)
    {f_Die_sides : Addr} {od_Die_sides an_Die_sides : Option Addr} {sl_Die_sides : Array (Option Value)} {oc_Die_sides kV_Die_sides dc_Die_sides pm_Die_sides cd_Die_sides ct_Die_sides : Value}
    (a_Die_sides : PySem.W.findIn K (.ref C_Die) "sides" = some (some (.ref f_Die_sides))) (i_Die_sides : PySem.W.isFn K (.ref f_Die_sides) = true) (l_Die_sides : K.lookup f_Die_sides = some ⟨oc_Die_sides, od_Die_sides, .func (PySem.W.fnOf "sides" "Die.sides" (defArgs s_Die_sides) (defBody s_Die_sides) (defScope s_Die_sides) .none kV_Die_sides dc_Die_sides pm_Die_sides an_Die_sides cd_Die_sides ct_Die_sides), sl_Die_sides⟩) (c_Die_sides : PySem.W.codeIn K cd_Die_sides "Die.sides" = true) (k_Die_sides : PySem.W.keepIn K (.ref f_Die_sides) = true)
    {f_places_of : Addr} {od_places_of an_places_of : Option Addr} {sl_places_of : Array (Option Value)} {oc_places_of kV_places_of dc_places_of pm_places_of cd_places_of ct_places_of : Value}
    (a_places_of : PySem.W.nsIn K mainGlobals "places_of" = some (some (.ref f_places_of))) (l_places_of : K.lookup f_places_of = some ⟨oc_places_of, od_places_of, .func (PySem.W.fnOf "places_of" "places_of" (defArgs s_places_of) (defBody s_places_of) (defScope s_places_of) .none kV_places_of dc_places_of pm_places_of an_places_of cd_places_of ct_places_of), sl_places_of⟩) (c_places_of : PySem.W.codeIn K cd_places_of "places_of" = true) (k_places_of : PySem.W.keepIn K (.ref f_places_of) = true)
    {f__law_cell : Addr} {od__law_cell an__law_cell : Option Addr} {sl__law_cell : Array (Option Value)} {oc__law_cell kV__law_cell dc__law_cell pm__law_cell cd__law_cell ct__law_cell : Value}
    (a__law_cell : PySem.W.nsIn K mainGlobals "_law_cell" = some (some (.ref f__law_cell))) (l__law_cell : K.lookup f__law_cell = some ⟨oc__law_cell, od__law_cell, .func (PySem.W.fnOf "_law_cell" "_law_cell" (defArgs s__law_cell) (defBody s__law_cell) (defScope s__law_cell) .none kV__law_cell dc__law_cell pm__law_cell an__law_cell cd__law_cell ct__law_cell), sl__law_cell⟩) (c__law_cell : PySem.W.codeIn K cd__law_cell "_law_cell" = true) (k__law_cell : PySem.W.keepIn K (.ref f__law_cell) = true)
    {f__law_mix : Addr} {od__law_mix an__law_mix : Option Addr} {sl__law_mix : Array (Option Value)} {oc__law_mix kV__law_mix dc__law_mix pm__law_mix cd__law_mix ct__law_mix : Value}
    (a__law_mix : PySem.W.nsIn K mainGlobals "_law_mix" = some (some (.ref f__law_mix))) (l__law_mix : K.lookup f__law_mix = some ⟨oc__law_mix, od__law_mix, .func (PySem.W.fnOf "_law_mix" "_law_mix" (defArgs s__law_mix) (defBody s__law_mix) (defScope s__law_mix) .none kV__law_mix dc__law_mix pm__law_mix an__law_mix cd__law_mix ct__law_mix), sl__law_mix⟩) (c__law_mix : PySem.W.codeIn K cd__law_mix "_law_mix" = true) (k__law_mix : PySem.W.keepIn K (.ref f__law_mix) = true)
    {f__law_row : Addr} {od__law_row an__law_row : Option Addr} {sl__law_row : Array (Option Value)} {oc__law_row kV__law_row dc__law_row pm__law_row cd__law_row ct__law_row : Value}
    (a__law_row : PySem.W.nsIn K mainGlobals "_law_row" = some (some (.ref f__law_row))) (l__law_row : K.lookup f__law_row = some ⟨oc__law_row, od__law_row, .func (PySem.W.fnOf "_law_row" "_law_row" (defArgs s__law_row) (defBody s__law_row) (defScope s__law_row) .none kV__law_row dc__law_row pm__law_row an__law_row cd__law_row ct__law_row), sl__law_row⟩) (c__law_row : PySem.W.codeIn K cd__law_row "_law_row" = true) (k__law_row : PySem.W.keepIn K (.ref f__law_row) = true)
    {f__law_whole : Addr} {od__law_whole an__law_whole : Option Addr} {sl__law_whole : Array (Option Value)} {oc__law_whole kV__law_whole dc__law_whole pm__law_whole cd__law_whole ct__law_whole : Value}
    (a__law_whole : PySem.W.nsIn K mainGlobals "_law_whole" = some (some (.ref f__law_whole))) (l__law_whole : K.lookup f__law_whole = some ⟨oc__law_whole, od__law_whole, .func (PySem.W.fnOf "_law_whole" "_law_whole" (defArgs s__law_whole) (defBody s__law_whole) (defScope s__law_whole) .none kV__law_whole dc__law_whole pm__law_whole an__law_whole cd__law_whole ct__law_whole), sl__law_whole⟩) (c__law_whole : PySem.W.codeIn K cd__law_whole "_law_whole" = true) (k__law_whole : PySem.W.keepIn K (.ref f__law_whole) = true)
    {f__law_crowd : Addr} {od__law_crowd an__law_crowd : Option Addr} {sl__law_crowd : Array (Option Value)} {oc__law_crowd kV__law_crowd dc__law_crowd pm__law_crowd cd__law_crowd ct__law_crowd : Value}
    (a__law_crowd : PySem.W.nsIn K mainGlobals "_law_crowd" = some (some (.ref f__law_crowd))) (l__law_crowd : K.lookup f__law_crowd = some ⟨oc__law_crowd, od__law_crowd, .func (PySem.W.fnOf "_law_crowd" "_law_crowd" (defArgs s__law_crowd) (defBody s__law_crowd) (defScope s__law_crowd) .none kV__law_crowd dc__law_crowd pm__law_crowd an__law_crowd cd__law_crowd ct__law_crowd), sl__law_crowd⟩) (c__law_crowd : PySem.W.codeIn K cd__law_crowd "_law_crowd" = true) (k__law_crowd : PySem.W.keepIn K (.ref f__law_crowd) = true)
    {f_Few_node : Addr} {od_Few_node an_Few_node : Option Addr} {sl_Few_node : Array (Option Value)} {oc_Few_node kV_Few_node dc_Few_node pm_Few_node cd_Few_node ct_Few_node : Value}
    (a_Few_node : PySem.W.findIn K (.ref C_Few) "node" = some (some (.ref f_Few_node))) (i_Few_node : PySem.W.isFn K (.ref f_Few_node) = true) (l_Few_node : K.lookup f_Few_node = some ⟨oc_Few_node, od_Few_node, .func (PySem.W.fnOf "node" "Few.node" (defArgs s_Few_node) (defBody s_Few_node) (defScope s_Few_node) .none kV_Few_node dc_Few_node pm_Few_node an_Few_node cd_Few_node ct_Few_node), sl_Few_node⟩) (c_Few_node : PySem.W.codeIn K cd_Few_node "Few.node" = true) (k_Few_node : PySem.W.keepIn K (.ref f_Few_node) = true)
    {f_Few_bounds : Addr} {od_Few_bounds an_Few_bounds : Option Addr} {sl_Few_bounds : Array (Option Value)} {oc_Few_bounds kV_Few_bounds dc_Few_bounds pm_Few_bounds cd_Few_bounds ct_Few_bounds : Value}
    (a_Few_bounds : PySem.W.findIn K (.ref C_Few) "bounds" = some (some (.ref f_Few_bounds))) (i_Few_bounds : PySem.W.isFn K (.ref f_Few_bounds) = true) (l_Few_bounds : K.lookup f_Few_bounds = some ⟨oc_Few_bounds, od_Few_bounds, .func (PySem.W.fnOf "bounds" "Few.bounds" (defArgs s_Few_bounds) (defBody s_Few_bounds) (defScope s_Few_bounds) .none kV_Few_bounds dc_Few_bounds pm_Few_bounds an_Few_bounds cd_Few_bounds ct_Few_bounds), sl_Few_bounds⟩) (c_Few_bounds : PySem.W.codeIn K cd_Few_bounds "Few.bounds" = true) (k_Few_bounds : PySem.W.keepIn K (.ref f_Few_bounds) = true)
    {f_Few___init__ : Addr} {od_Few___init__ an_Few___init__ : Option Addr} {sl_Few___init__ : Array (Option Value)} {oc_Few___init__ kV_Few___init__ dc_Few___init__ pm_Few___init__ cd_Few___init__ ct_Few___init__ : Value}
    (a_Few___init__ : PySem.W.findIn K (.ref C_Few) "__init__" = some (some (.ref f_Few___init__))) (i_Few___init__ : PySem.W.isFn K (.ref f_Few___init__) = true) (l_Few___init__ : K.lookup f_Few___init__ = some ⟨oc_Few___init__, od_Few___init__, .func (PySem.W.fnOf "__init__" "Few.__init__" (defArgs s_Few___init__) (defBody s_Few___init__) (defScope s_Few___init__) .none kV_Few___init__ dc_Few___init__ pm_Few___init__ an_Few___init__ cd_Few___init__ ct_Few___init__), sl_Few___init__⟩) (c_Few___init__ : PySem.W.codeIn K cd_Few___init__ "Few.__init__" = true) (k_Few___init__ : PySem.W.keepIn K (.ref f_Few___init__) = true)
    {f_Few_chance : Addr} {od_Few_chance an_Few_chance : Option Addr} {sl_Few_chance : Array (Option Value)} {oc_Few_chance kV_Few_chance dc_Few_chance pm_Few_chance cd_Few_chance ct_Few_chance : Value}
    (a_Few_chance : PySem.W.findIn K (.ref C_Few) "chance" = some (some (.ref f_Few_chance))) (i_Few_chance : PySem.W.isFn K (.ref f_Few_chance) = true) (l_Few_chance : K.lookup f_Few_chance = some ⟨oc_Few_chance, od_Few_chance, .func (PySem.W.fnOf "chance" "Few.chance" (defArgs s_Few_chance) (defBody s_Few_chance) (defScope s_Few_chance) .none kV_Few_chance dc_Few_chance pm_Few_chance an_Few_chance cd_Few_chance ct_Few_chance), sl_Few_chance⟩) (c_Few_chance : PySem.W.codeIn K cd_Few_chance "Few.chance" = true) (k_Few_chance : PySem.W.keepIn K (.ref f_Few_chance) = true)
    {f_Few_text : Addr} {od_Few_text an_Few_text : Option Addr} {sl_Few_text : Array (Option Value)} {oc_Few_text kV_Few_text dc_Few_text pm_Few_text cd_Few_text ct_Few_text : Value}
    (a_Few_text : PySem.W.findIn K (.ref C_Few) "text" = some (some (.ref f_Few_text))) (i_Few_text : PySem.W.isFn K (.ref f_Few_text) = true) (l_Few_text : K.lookup f_Few_text = some ⟨oc_Few_text, od_Few_text, .func (PySem.W.fnOf "text" "Few.text" (defArgs s_Few_text) (defBody s_Few_text) (defScope s_Few_text) .none kV_Few_text dc_Few_text pm_Few_text an_Few_text cd_Few_text ct_Few_text), sl_Few_text⟩) (c_Few_text : PySem.W.codeIn K cd_Few_text "Few.text" = true) (k_Few_text : PySem.W.keepIn K (.ref f_Few_text) = true)
    {f_Few_matrix : Addr} {od_Few_matrix an_Few_matrix : Option Addr} {sl_Few_matrix : Array (Option Value)} {oc_Few_matrix kV_Few_matrix dc_Few_matrix pm_Few_matrix cd_Few_matrix ct_Few_matrix : Value}
    (a_Few_matrix : PySem.W.findIn K (.ref C_Few) "matrix" = some (some (.ref f_Few_matrix))) (i_Few_matrix : PySem.W.isFn K (.ref f_Few_matrix) = true) (l_Few_matrix : K.lookup f_Few_matrix = some ⟨oc_Few_matrix, od_Few_matrix, .func (PySem.W.fnOf "matrix" "Plan.matrix" (defArgs s_Few_matrix) (defBody s_Few_matrix) (defScope s_Few_matrix) .none kV_Few_matrix dc_Few_matrix pm_Few_matrix an_Few_matrix cd_Few_matrix ct_Few_matrix), sl_Few_matrix⟩) (c_Few_matrix : PySem.W.codeIn K cd_Few_matrix "Plan.matrix" = true) (k_Few_matrix : PySem.W.keepIn K (.ref f_Few_matrix) = true)
    {f_Start_node : Addr} {od_Start_node an_Start_node : Option Addr} {sl_Start_node : Array (Option Value)} {oc_Start_node kV_Start_node dc_Start_node pm_Start_node cd_Start_node ct_Start_node : Value}
    (a_Start_node : PySem.W.findIn K (.ref C_Start) "node" = some (some (.ref f_Start_node))) (i_Start_node : PySem.W.isFn K (.ref f_Start_node) = true) (l_Start_node : K.lookup f_Start_node = some ⟨oc_Start_node, od_Start_node, .func (PySem.W.fnOf "node" "Start.node" (defArgs s_Start_node) (defBody s_Start_node) (defScope s_Start_node) .none kV_Start_node dc_Start_node pm_Start_node an_Start_node cd_Start_node ct_Start_node), sl_Start_node⟩) (c_Start_node : PySem.W.codeIn K cd_Start_node "Start.node" = true) (k_Start_node : PySem.W.keepIn K (.ref f_Start_node) = true)
    {f_Start___init__ : Addr} {od_Start___init__ an_Start___init__ : Option Addr} {sl_Start___init__ : Array (Option Value)} {oc_Start___init__ kV_Start___init__ dc_Start___init__ pm_Start___init__ cd_Start___init__ ct_Start___init__ : Value}
    (a_Start___init__ : PySem.W.findIn K (.ref C_Start) "__init__" = some (some (.ref f_Start___init__))) (i_Start___init__ : PySem.W.isFn K (.ref f_Start___init__) = true) (l_Start___init__ : K.lookup f_Start___init__ = some ⟨oc_Start___init__, od_Start___init__, .func (PySem.W.fnOf "__init__" "Start.__init__" (defArgs s_Start___init__) (defBody s_Start___init__) (defScope s_Start___init__) .none kV_Start___init__ dc_Start___init__ pm_Start___init__ an_Start___init__ cd_Start___init__ ct_Start___init__), sl_Start___init__⟩) (c_Start___init__ : PySem.W.codeIn K cd_Start___init__ "Start.__init__" = true) (k_Start___init__ : PySem.W.keepIn K (.ref f_Start___init__) = true)
    {f_Start_chance : Addr} {od_Start_chance an_Start_chance : Option Addr} {sl_Start_chance : Array (Option Value)} {oc_Start_chance kV_Start_chance dc_Start_chance pm_Start_chance cd_Start_chance ct_Start_chance : Value}
    (a_Start_chance : PySem.W.findIn K (.ref C_Start) "chance" = some (some (.ref f_Start_chance))) (i_Start_chance : PySem.W.isFn K (.ref f_Start_chance) = true) (l_Start_chance : K.lookup f_Start_chance = some ⟨oc_Start_chance, od_Start_chance, .func (PySem.W.fnOf "chance" "Start.chance" (defArgs s_Start_chance) (defBody s_Start_chance) (defScope s_Start_chance) .none kV_Start_chance dc_Start_chance pm_Start_chance an_Start_chance cd_Start_chance ct_Start_chance), sl_Start_chance⟩) (c_Start_chance : PySem.W.codeIn K cd_Start_chance "Start.chance" = true) (k_Start_chance : PySem.W.keepIn K (.ref f_Start_chance) = true)
    {f_Start_matrix : Addr} {od_Start_matrix an_Start_matrix : Option Addr} {sl_Start_matrix : Array (Option Value)} {oc_Start_matrix kV_Start_matrix dc_Start_matrix pm_Start_matrix cd_Start_matrix ct_Start_matrix : Value}
    (a_Start_matrix : PySem.W.findIn K (.ref C_Start) "matrix" = some (some (.ref f_Start_matrix))) (i_Start_matrix : PySem.W.isFn K (.ref f_Start_matrix) = true) (l_Start_matrix : K.lookup f_Start_matrix = some ⟨oc_Start_matrix, od_Start_matrix, .func (PySem.W.fnOf "matrix" "Plan.matrix" (defArgs s_Start_matrix) (defBody s_Start_matrix) (defScope s_Start_matrix) .none kV_Start_matrix dc_Start_matrix pm_Start_matrix an_Start_matrix cd_Start_matrix ct_Start_matrix), sl_Start_matrix⟩) (c_Start_matrix : PySem.W.codeIn K cd_Start_matrix "Plan.matrix" = true) (k_Start_matrix : PySem.W.keepIn K (.ref f_Start_matrix) = true)
    {f_Start_bounds : Addr} {od_Start_bounds an_Start_bounds : Option Addr} {sl_Start_bounds : Array (Option Value)} {oc_Start_bounds kV_Start_bounds dc_Start_bounds pm_Start_bounds cd_Start_bounds ct_Start_bounds : Value}
    (a_Start_bounds : PySem.W.findIn K (.ref C_Start) "bounds" = some (some (.ref f_Start_bounds))) (i_Start_bounds : PySem.W.isFn K (.ref f_Start_bounds) = true) (l_Start_bounds : K.lookup f_Start_bounds = some ⟨oc_Start_bounds, od_Start_bounds, .func (PySem.W.fnOf "bounds" "Start.bounds" (defArgs s_Start_bounds) (defBody s_Start_bounds) (defScope s_Start_bounds) .none kV_Start_bounds dc_Start_bounds pm_Start_bounds an_Start_bounds cd_Start_bounds ct_Start_bounds), sl_Start_bounds⟩) (c_Start_bounds : PySem.W.codeIn K cd_Start_bounds "Start.bounds" = true) (k_Start_bounds : PySem.W.keepIn K (.ref f_Start_bounds) = true)
    {f_Start_text : Addr} {od_Start_text an_Start_text : Option Addr} {sl_Start_text : Array (Option Value)} {oc_Start_text kV_Start_text dc_Start_text pm_Start_text cd_Start_text ct_Start_text : Value}
    (a_Start_text : PySem.W.findIn K (.ref C_Start) "text" = some (some (.ref f_Start_text))) (i_Start_text : PySem.W.isFn K (.ref f_Start_text) = true) (l_Start_text : K.lookup f_Start_text = some ⟨oc_Start_text, od_Start_text, .func (PySem.W.fnOf "text" "Start.text" (defArgs s_Start_text) (defBody s_Start_text) (defScope s_Start_text) .none kV_Start_text dc_Start_text pm_Start_text an_Start_text cd_Start_text ct_Start_text), sl_Start_text⟩) (c_Start_text : PySem.W.codeIn K cd_Start_text "Start.text" = true) (k_Start_text : PySem.W.keepIn K (.ref f_Start_text) = true)
    {f_size_left : Addr} {od_size_left an_size_left : Option Addr} {sl_size_left : Array (Option Value)} {oc_size_left kV_size_left dc_size_left pm_size_left cd_size_left ct_size_left : Value}
    (a_size_left : PySem.W.nsIn K mainGlobals "size_left" = some (some (.ref f_size_left))) (l_size_left : K.lookup f_size_left = some ⟨oc_size_left, od_size_left, .func (PySem.W.fnOf "size_left" "size_left" (defArgs s_size_left) (defBody s_size_left) (defScope s_size_left) .none kV_size_left dc_size_left pm_size_left an_size_left cd_size_left ct_size_left), sl_size_left⟩) (c_size_left : PySem.W.codeIn K cd_size_left "size_left" = true) (k_size_left : PySem.W.keepIn K (.ref f_size_left) = true)
    {f_wished : Addr} {od_wished an_wished : Option Addr} {sl_wished : Array (Option Value)} {oc_wished kV_wished dc_wished pm_wished cd_wished ct_wished : Value}
    (a_wished : PySem.W.nsIn K mainGlobals "wished" = some (some (.ref f_wished))) (l_wished : K.lookup f_wished = some ⟨oc_wished, od_wished, .func (PySem.W.fnOf "wished" "wished" (defArgs s_wished) (defBody s_wished) (defScope s_wished) .none kV_wished dc_wished pm_wished an_wished cd_wished ct_wished), sl_wished⟩) (c_wished : PySem.W.codeIn K cd_wished "wished" = true) (k_wished : PySem.W.keepIn K (.ref f_wished) = true)
    {f_wished_of : Addr} {od_wished_of an_wished_of : Option Addr} {sl_wished_of : Array (Option Value)} {oc_wished_of kV_wished_of dc_wished_of pm_wished_of cd_wished_of ct_wished_of : Value}
    (a_wished_of : PySem.W.nsIn K mainGlobals "wished_of" = some (some (.ref f_wished_of))) (l_wished_of : K.lookup f_wished_of = some ⟨oc_wished_of, od_wished_of, .func (PySem.W.fnOf "wished_of" "wished_of" (defArgs s_wished_of) (defBody s_wished_of) (defScope s_wished_of) .none kV_wished_of dc_wished_of pm_wished_of an_wished_of cd_wished_of ct_wished_of), sl_wished_of⟩) (c_wished_of : PySem.W.codeIn K cd_wished_of "wished_of" = true) (k_wished_of : PySem.W.keepIn K (.ref f_wished_of) = true)
    {f_Loose_node : Addr} {od_Loose_node an_Loose_node : Option Addr} {sl_Loose_node : Array (Option Value)} {oc_Loose_node kV_Loose_node dc_Loose_node pm_Loose_node cd_Loose_node ct_Loose_node : Value}
    (a_Loose_node : PySem.W.findIn K (.ref C_Loose) "node" = some (some (.ref f_Loose_node))) (i_Loose_node : PySem.W.isFn K (.ref f_Loose_node) = true) (l_Loose_node : K.lookup f_Loose_node = some ⟨oc_Loose_node, od_Loose_node, .func (PySem.W.fnOf "node" "Loose.node" (defArgs s_Loose_node) (defBody s_Loose_node) (defScope s_Loose_node) .none kV_Loose_node dc_Loose_node pm_Loose_node an_Loose_node cd_Loose_node ct_Loose_node), sl_Loose_node⟩) (c_Loose_node : PySem.W.codeIn K cd_Loose_node "Loose.node" = true) (k_Loose_node : PySem.W.keepIn K (.ref f_Loose_node) = true)
    {f_Loose___init__ : Addr} {od_Loose___init__ an_Loose___init__ : Option Addr} {sl_Loose___init__ : Array (Option Value)} {oc_Loose___init__ kV_Loose___init__ dc_Loose___init__ pm_Loose___init__ cd_Loose___init__ ct_Loose___init__ : Value}
    (a_Loose___init__ : PySem.W.findIn K (.ref C_Loose) "__init__" = some (some (.ref f_Loose___init__))) (i_Loose___init__ : PySem.W.isFn K (.ref f_Loose___init__) = true) (l_Loose___init__ : K.lookup f_Loose___init__ = some ⟨oc_Loose___init__, od_Loose___init__, .func (PySem.W.fnOf "__init__" "Loose.__init__" (defArgs s_Loose___init__) (defBody s_Loose___init__) (defScope s_Loose___init__) .none kV_Loose___init__ dc_Loose___init__ pm_Loose___init__ an_Loose___init__ cd_Loose___init__ ct_Loose___init__), sl_Loose___init__⟩) (c_Loose___init__ : PySem.W.codeIn K cd_Loose___init__ "Loose.__init__" = true) (k_Loose___init__ : PySem.W.keepIn K (.ref f_Loose___init__) = true)
    {f_Loose_text : Addr} {od_Loose_text an_Loose_text : Option Addr} {sl_Loose_text : Array (Option Value)} {oc_Loose_text kV_Loose_text dc_Loose_text pm_Loose_text cd_Loose_text ct_Loose_text : Value}
    (a_Loose_text : PySem.W.findIn K (.ref C_Loose) "text" = some (some (.ref f_Loose_text))) (i_Loose_text : PySem.W.isFn K (.ref f_Loose_text) = true) (l_Loose_text : K.lookup f_Loose_text = some ⟨oc_Loose_text, od_Loose_text, .func (PySem.W.fnOf "text" "Loose.text" (defArgs s_Loose_text) (defBody s_Loose_text) (defScope s_Loose_text) .none kV_Loose_text dc_Loose_text pm_Loose_text an_Loose_text cd_Loose_text ct_Loose_text), sl_Loose_text⟩) (c_Loose_text : PySem.W.codeIn K cd_Loose_text "Loose.text" = true) (k_Loose_text : PySem.W.keepIn K (.ref f_Loose_text) = true)
    {f_times : Addr} {od_times an_times : Option Addr} {sl_times : Array (Option Value)} {oc_times kV_times dc_times pm_times cd_times ct_times : Value}
    (a_times : PySem.W.nsIn K mainGlobals "times" = some (some (.ref f_times))) (l_times : K.lookup f_times = some ⟨oc_times, od_times, .func (PySem.W.fnOf "times" "times" (defArgs s_times) (defBody s_times) (defScope s_times) .none kV_times dc_times pm_times an_times cd_times ct_times), sl_times⟩) (c_times : PySem.W.codeIn K cd_times "times" = true) (k_times : PySem.W.keepIn K (.ref f_times) = true)
    {f_Loose_matrix : Addr} {od_Loose_matrix an_Loose_matrix : Option Addr} {sl_Loose_matrix : Array (Option Value)} {oc_Loose_matrix kV_Loose_matrix dc_Loose_matrix pm_Loose_matrix cd_Loose_matrix ct_Loose_matrix : Value}
    (a_Loose_matrix : PySem.W.findIn K (.ref C_Loose) "matrix" = some (some (.ref f_Loose_matrix))) (i_Loose_matrix : PySem.W.isFn K (.ref f_Loose_matrix) = true) (l_Loose_matrix : K.lookup f_Loose_matrix = some ⟨oc_Loose_matrix, od_Loose_matrix, .func (PySem.W.fnOf "matrix" "Loose.matrix" (defArgs s_Loose_matrix) (defBody s_Loose_matrix) (defScope s_Loose_matrix) .none kV_Loose_matrix dc_Loose_matrix pm_Loose_matrix an_Loose_matrix cd_Loose_matrix ct_Loose_matrix), sl_Loose_matrix⟩) (c_Loose_matrix : PySem.W.codeIn K cd_Loose_matrix "Loose.matrix" = true) (k_Loose_matrix : PySem.W.keepIn K (.ref f_Loose_matrix) = true)
    {f_Loose_bounds : Addr} {od_Loose_bounds an_Loose_bounds : Option Addr} {sl_Loose_bounds : Array (Option Value)} {oc_Loose_bounds kV_Loose_bounds dc_Loose_bounds pm_Loose_bounds cd_Loose_bounds ct_Loose_bounds : Value}
    (a_Loose_bounds : PySem.W.findIn K (.ref C_Loose) "bounds" = some (some (.ref f_Loose_bounds))) (i_Loose_bounds : PySem.W.isFn K (.ref f_Loose_bounds) = true) (l_Loose_bounds : K.lookup f_Loose_bounds = some ⟨oc_Loose_bounds, od_Loose_bounds, .func (PySem.W.fnOf "bounds" "Loose.bounds" (defArgs s_Loose_bounds) (defBody s_Loose_bounds) (defScope s_Loose_bounds) .none kV_Loose_bounds dc_Loose_bounds pm_Loose_bounds an_Loose_bounds cd_Loose_bounds ct_Loose_bounds), sl_Loose_bounds⟩) (c_Loose_bounds : PySem.W.codeIn K cd_Loose_bounds "Loose.bounds" = true) (k_Loose_bounds : PySem.W.keepIn K (.ref f_Loose_bounds) = true)
    {f__law_low : Addr} {od__law_low an__law_low : Option Addr} {sl__law_low : Array (Option Value)} {oc__law_low kV__law_low dc__law_low pm__law_low cd__law_low ct__law_low : Value}
    (a__law_low : PySem.W.nsIn K mainGlobals "_law_low" = some (some (.ref f__law_low))) (l__law_low : K.lookup f__law_low = some ⟨oc__law_low, od__law_low, .func (PySem.W.fnOf "_law_low" "_law_low" (defArgs s__law_low) (defBody s__law_low) (defScope s__law_low) .none kV__law_low dc__law_low pm__law_low an__law_low cd__law_low ct__law_low), sl__law_low⟩) (c__law_low : PySem.W.codeIn K cd__law_low "_law_low" = true) (k__law_low : PySem.W.keepIn K (.ref f__law_low) = true)
    {f__law_fraction : Addr} {od__law_fraction an__law_fraction : Option Addr} {sl__law_fraction : Array (Option Value)} {oc__law_fraction kV__law_fraction dc__law_fraction pm__law_fraction cd__law_fraction ct__law_fraction : Value}
    (a__law_fraction : PySem.W.nsIn K mainGlobals "_law_fraction" = some (some (.ref f__law_fraction))) (l__law_fraction : K.lookup f__law_fraction = some ⟨oc__law_fraction, od__law_fraction, .func (PySem.W.fnOf "_law_fraction" "_law_fraction" (defArgs s__law_fraction) (defBody s__law_fraction) (defScope s__law_fraction) .none kV__law_fraction dc__law_fraction pm__law_fraction an__law_fraction cd__law_fraction ct__law_fraction), sl__law_fraction⟩) (c__law_fraction : PySem.W.codeIn K cd__law_fraction "_law_fraction" = true) (k__law_fraction : PySem.W.keepIn K (.ref f__law_fraction) = true)
    {f__law_matrix : Addr} {od__law_matrix an__law_matrix : Option Addr} {sl__law_matrix : Array (Option Value)} {oc__law_matrix kV__law_matrix dc__law_matrix pm__law_matrix cd__law_matrix ct__law_matrix : Value}
    (a__law_matrix : PySem.W.nsIn K mainGlobals "_law_matrix" = some (some (.ref f__law_matrix))) (l__law_matrix : K.lookup f__law_matrix = some ⟨oc__law_matrix, od__law_matrix, .func (PySem.W.fnOf "_law_matrix" "_law_matrix" (defArgs s__law_matrix) (defBody s__law_matrix) (defScope s__law_matrix) .none kV__law_matrix dc__law_matrix pm__law_matrix an__law_matrix cd__law_matrix ct__law_matrix), sl__law_matrix⟩) (c__law_matrix : PySem.W.codeIn K cd__law_matrix "_law_matrix" = true) (k__law_matrix : PySem.W.keepIn K (.ref f__law_matrix) = true)
    {f__law_plus : Addr} {od__law_plus an__law_plus : Option Addr} {sl__law_plus : Array (Option Value)} {oc__law_plus kV__law_plus dc__law_plus pm__law_plus cd__law_plus ct__law_plus : Value}
    (a__law_plus : PySem.W.nsIn K mainGlobals "_law_plus" = some (some (.ref f__law_plus))) (l__law_plus : K.lookup f__law_plus = some ⟨oc__law_plus, od__law_plus, .func (PySem.W.fnOf "_law_plus" "_law_plus" (defArgs s__law_plus) (defBody s__law_plus) (defScope s__law_plus) .none kV__law_plus dc__law_plus pm__law_plus an__law_plus cd__law_plus ct__law_plus), sl__law_plus⟩) (c__law_plus : PySem.W.codeIn K cd__law_plus "_law_plus" = true) (k__law_plus : PySem.W.keepIn K (.ref f__law_plus) = true)
    {f__law_times : Addr} {od__law_times an__law_times : Option Addr} {sl__law_times : Array (Option Value)} {oc__law_times kV__law_times dc__law_times pm__law_times cd__law_times ct__law_times : Value}
    (a__law_times : PySem.W.nsIn K mainGlobals "_law_times" = some (some (.ref f__law_times))) (l__law_times : K.lookup f__law_times = some ⟨oc__law_times, od__law_times, .func (PySem.W.fnOf "_law_times" "_law_times" (defArgs s__law_times) (defBody s__law_times) (defScope s__law_times) .none kV__law_times dc__law_times pm__law_times an__law_times cd__law_times ct__law_times), sl__law_times⟩) (c__law_times : PySem.W.codeIn K cd__law_times "_law_times" = true) (k__law_times : PySem.W.keepIn K (.ref f__law_times) = true)
    {f_Die_parts : Addr} {od_Die_parts an_Die_parts : Option Addr} {sl_Die_parts : Array (Option Value)} {oc_Die_parts kV_Die_parts dc_Die_parts pm_Die_parts cd_Die_parts ct_Die_parts : Value}
    (a_Die_parts : PySem.W.findIn K (.ref C_Die) "parts" = some (some (.ref f_Die_parts))) (i_Die_parts : PySem.W.isFn K (.ref f_Die_parts) = true) (l_Die_parts : K.lookup f_Die_parts = some ⟨oc_Die_parts, od_Die_parts, .func (PySem.W.fnOf "parts" "Die.parts" (defArgs s_Die_parts) (defBody s_Die_parts) (defScope s_Die_parts) .none kV_Die_parts dc_Die_parts pm_Die_parts an_Die_parts cd_Die_parts ct_Die_parts), sl_Die_parts⟩) (c_Die_parts : PySem.W.codeIn K cd_Die_parts "Die.parts" = true) (k_Die_parts : PySem.W.keepIn K (.ref f_Die_parts) = true)
    {f__law_ways : Addr} {od__law_ways an__law_ways : Option Addr} {sl__law_ways : Array (Option Value)} {oc__law_ways kV__law_ways dc__law_ways pm__law_ways cd__law_ways ct__law_ways : Value}
    (a__law_ways : PySem.W.nsIn K mainGlobals "_law_ways" = some (some (.ref f__law_ways))) (l__law_ways : K.lookup f__law_ways = some ⟨oc__law_ways, od__law_ways, .func (PySem.W.fnOf "_law_ways" "_law_ways" (defArgs s__law_ways) (defBody s__law_ways) (defScope s__law_ways) .none kV__law_ways dc__law_ways pm__law_ways an__law_ways cd__law_ways ct__law_ways), sl__law_ways⟩) (c__law_ways : PySem.W.codeIn K cd__law_ways "_law_ways" = true) (k__law_ways : PySem.W.keepIn K (.ref f__law_ways) = true)
    {f__law_together : Addr} {od__law_together an__law_together : Option Addr} {sl__law_together : Array (Option Value)} {oc__law_together kV__law_together dc__law_together pm__law_together cd__law_together ct__law_together : Value}
    (a__law_together : PySem.W.nsIn K mainGlobals "_law_together" = some (some (.ref f__law_together))) (l__law_together : K.lookup f__law_together = some ⟨oc__law_together, od__law_together, .func (PySem.W.fnOf "_law_together" "_law_together" (defArgs s__law_together) (defBody s__law_together) (defScope s__law_together) .none kV__law_together dc__law_together pm__law_together an__law_together cd__law_together ct__law_together), sl__law_together⟩) (c__law_together : PySem.W.codeIn K cd__law_together "_law_together" = true) (k__law_together : PySem.W.keepIn K (.ref f__law_together) = true)
    {f__law_good : Addr} {od__law_good an__law_good : Option Addr} {sl__law_good : Array (Option Value)} {oc__law_good kV__law_good dc__law_good pm__law_good cd__law_good ct__law_good : Value}
    (a__law_good : PySem.W.nsIn K mainGlobals "_law_good" = some (some (.ref f__law_good))) (l__law_good : K.lookup f__law_good = some ⟨oc__law_good, od__law_good, .func (PySem.W.fnOf "_law_good" "_law_good" (defArgs s__law_good) (defBody s__law_good) (defScope s__law_good) .none kV__law_good dc__law_good pm__law_good an__law_good cd__law_good ct__law_good), sl__law_good⟩) (c__law_good : PySem.W.codeIn K cd__law_good "_law_good" = true) (k__law_good : PySem.W.keepIn K (.ref f__law_good) = true)
    {f__law_alike : Addr} {od__law_alike an__law_alike : Option Addr} {sl__law_alike : Array (Option Value)} {oc__law_alike kV__law_alike dc__law_alike pm__law_alike cd__law_alike ct__law_alike : Value}
    (a__law_alike : PySem.W.nsIn K mainGlobals "_law_alike" = some (some (.ref f__law_alike))) (l__law_alike : K.lookup f__law_alike = some ⟨oc__law_alike, od__law_alike, .func (PySem.W.fnOf "_law_alike" "_law_alike" (defArgs s__law_alike) (defBody s__law_alike) (defScope s__law_alike) .none kV__law_alike dc__law_alike pm__law_alike an__law_alike cd__law_alike ct__law_alike), sl__law_alike⟩) (c__law_alike : PySem.W.codeIn K cd__law_alike "_law_alike" = true) (k__law_alike : PySem.W.keepIn K (.ref f__law_alike) = true)
    {f_law : Addr} {od_law an_law : Option Addr} {sl_law : Array (Option Value)} {oc_law kV_law dc_law pm_law cd_law ct_law : Value}
    (a_law : PySem.W.nsIn K mainGlobals "law" = some (some (.ref f_law))) (l_law : K.lookup f_law = some ⟨oc_law, od_law, .func (PySem.W.fnOf "law" "law" (defArgs s_law) (defBody s_law) (defScope s_law) .none kV_law dc_law pm_law an_law cd_law ct_law), sl_law⟩) (c_law : PySem.W.codeIn K cd_law "law" = true) (k_law : PySem.W.keepIn K (.ref f_law) = true) : DefAt K mg "law" s_law ["_law_script"] ∧ TabsE K (csL K mg) h ∧ ∀ base : Heap, (∀ p ∈ csL K mg, TabB base mg p.1 p.2) → Txt K mg base := by
  have e_SpeakError : cA mg "SpeakError" = C_SpeakError := cA_of (PySem.W.mg_of X G aC_SpeakError)
  have e_NoPlan : cA mg "NoPlan" = C_NoPlan := cA_of (PySem.W.mg_of X G aC_NoPlan)
  have e_Told : cA mg "Told" = C_Told := cA_of (PySem.W.mg_of X G aC_Told)
  have e_Die : cA mg "Die" = C_Die := cA_of (PySem.W.mg_of X G aC_Die)
  have e_Few : cA mg "Few" = C_Few := cA_of (PySem.W.mg_of X G aC_Few)
  have e_Start : cA mg "Start" = C_Start := cA_of (PySem.W.mg_of X G aC_Start)
  have e_Loose : cA mg "Loose" = C_Loose := cA_of (PySem.W.mg_of X G aC_Loose)
  have ec_few_node : cF K mg "few_node" = cc_few_node := cF_of (PySem.W.mg_of X G a_few_node) l_few_node rfl
  have ec_start_part : cF K mg "start_part" = cc_start_part := cF_of (PySem.W.mg_of X G a_start_part) l_start_part rfl
  have ec_loose_die : cF K mg "loose_die" = cc_loose_die := cF_of (PySem.W.mg_of X G a_loose_die) l_loose_die rfl
  refine ⟨⟨f_law, _, fun_mk (st := s_law) l_law c_law k_law, PySem.W.mg_of X G a_law, (fun_mk (st := s_law) l_law c_law k_law).binds (ps := ["_law_script"]) fun _ _ _ _ _ _ us hl => match us, hl with | [_], _ => rfl⟩, (TabsE.cons X ec_few_node ch_few_node nk_few_node mt_few_node Y (TabsE.cons X ec_start_part ch_start_part nk_start_part mt_start_part Y (TabsE.cons X ec_loose_die ch_loose_die nk_loose_die mt_loose_die Y TabsE.nil))), fun base TB => ⟨(PySem.W.mg_none_of X G z_n_bool), (PySem.W.mg_none_of X G z_n_int), (PySem.W.mg_none_of X G z_n_isinstance), (PySem.W.mg_none_of X G z_n_abs), (by rw [e_SpeakError]; exact PySem.W.mg_of X G aC_SpeakError), (by rw [e_SpeakError]; exact ⟨bi0_SpeakError, bi1_SpeakError, bi2_SpeakError⟩), (by rw [e_NoPlan]; exact PySem.W.mg_of X G aC_NoPlan), (by rw [e_NoPlan]; exact ⟨ox_NoPlan, o0_NoPlan, o1_NoPlan, o2_NoPlan, o3_NoPlan⟩), (by rw [e_NoPlan]; exact na_NoPlan_place), (PySem.W.mg_none_of X G z_n_sorted), (PySem.W.mg_none_of X G z_n_tuple), (by rw [e_Told]; exact PySem.W.mg_of X G aC_Told), (by rw [e_Told]; exact ⟨pg_Told, hd_Told, po_Told, sa_Told⟩), (by rw [e_Told]; exact na_Told_places), (by rw [e_Die]; exact PySem.W.mg_of X G aC_Die), (by rw [e_Die]; exact ⟨pg_Die, hd_Die, po_Die, sa_Die⟩), (by rw [e_Die]; exact na_Die_ways), (PySem.W.mg_none_of X G z_n_len), (PySem.W.mg_none_of X G z_n_sum), (PySem.W.mg_none_of X G z_n_range), (PySem.W.mg_none_of X G z_n_list), (by rw [e_Few]; exact PySem.W.mg_of X G aC_Few), (by rw [e_Few]; exact ⟨pg_Few, hd_Few, po_Few, sa_Few⟩), (by rw [e_Few]; exact na_Few_many), (PySem.W.mg_none_of X G z_n_min), (⟨_, PySem.W.mg_of X G z_g_MOST_DRAWN, y_g_MOST_DRAWN⟩), (PySem.W.mg_none_of X G z_n_str), (by rw [e_Start]; exact PySem.W.mg_of X G aC_Start), (by rw [e_Start]; exact ⟨pg_Start, hd_Start, po_Start, sa_Start⟩), (by rw [e_Start]; exact na_Start_step), (⟨_, PySem.W.mg_of X G z_g_MOST_STEP, y_g_MOST_STEP⟩), (PySem.W.mg_none_of X G z_n_enumerate), (by rw [e_Loose]; exact PySem.W.mg_of X G aC_Loose), (by rw [e_Loose]; exact ⟨pg_Loose, hd_Loose, po_Loose, sa_Loose⟩), (by rw [e_Loose]; exact na_Loose_many), (PySem.W.mg_none_of X G z_n_zip), (PySem.W.mg_none_of X G z_n_max), (PySem.W.mg_none_of X G z_n_set), (⟨f_is_whole, _, fun_mk (st := s_is_whole) l_is_whole c_is_whole k_is_whole, PySem.W.mg_of X G a_is_whole, (fun_mk (st := s_is_whole) l_is_whole c_is_whole k_is_whole).binds (ps := ["thing", "low", "high"]) fun _ _ _ _ _ _ us hl => match us, hl with | [_, _, _], _ => rfl⟩), (⟨f_divisor, _, fun_mk (st := s_divisor) l_divisor c_divisor k_divisor, PySem.W.mg_of X G a_divisor, (fun_mk (st := s_divisor) l_divisor c_divisor k_divisor).binds (ps := ["one", "other"]) fun _ _ _ _ _ _ us hl => match us, hl with | [_, _], _ => rfl⟩), (⟨f_share, _, fun_mk (st := s_share) l_share c_share k_share, PySem.W.mg_of X G a_share, (fun_mk (st := s_share) l_share c_share k_share).binds (ps := ["top", "bottom"]) fun _ _ _ _ _ _ us hl => match us, hl with | [_, _], _ => rfl⟩), (by rw [e_NoPlan]; exact ⟨f_NoPlan___init__, _, fun_mk (st := s_NoPlan___init__) l_NoPlan___init__ c_NoPlan___init__ k_NoPlan___init__, a_NoPlan___init__, i_NoPlan___init__, (fun_mk (st := s_NoPlan___init__) l_NoPlan___init__ c_NoPlan___init__ k_NoPlan___init__).binds (ps := ["self", "place"]) fun _ _ _ _ _ _ us hl => match us, hl with | [_, _], _ => rfl⟩), (by rw [e_Told]; exact ⟨f_Told___init__, _, fun_mk (st := s_Told___init__) l_Told___init__ c_Told___init__ k_Told___init__, ⟨mk_Told, a_Told___init__, i_Told___init__, kc_Told⟩, (fun_mk (st := s_Told___init__) l_Told___init__ c_Told___init__ k_Told___init__).binds (ps := ["self", "kept"]) fun _ _ _ _ _ _ us hl => match us, hl with | [_, _], _ => rfl⟩), (by rw [e_Told]; exact ⟨f_Told_is_told, _, fun_mk (st := s_Told_is_told) l_Told_is_told c_Told_is_told k_Told_is_told, ⟨a_Told_is_told, i_Told_is_told, k_Told_is_told⟩, (fun_mk (st := s_Told_is_told) l_Told_is_told c_Told_is_told k_Told_is_told).binds (ps := ["self"]) fun _ _ _ _ _ _ us hl => match us, hl with | [_], _ => rfl⟩), (by rw [e_Told]; exact ⟨f_Told_kept, _, fun_mk (st := s_Told_kept) l_Told_kept c_Told_kept k_Told_kept, ⟨a_Told_kept, i_Told_kept, k_Told_kept⟩, (fun_mk (st := s_Told_kept) l_Told_kept c_Told_kept k_Told_kept).binds (ps := ["self"]) fun _ _ _ _ _ _ us hl => match us, hl with | [_], _ => rfl⟩), (by rw [e_Die]; exact ⟨f_Die___init__, _, fun_mk (st := s_Die___init__) l_Die___init__ c_Die___init__ k_Die___init__, ⟨mk_Die, a_Die___init__, i_Die___init__, kc_Die⟩, (fun_mk (st := s_Die___init__) l_Die___init__ c_Die___init__ k_Die___init__).binds (ps := ["self", "parts"]) fun _ _ _ _ _ _ us hl => match us, hl with | [_, _], _ => rfl⟩), (by rw [e_Die]; exact ⟨f_Die_is_told, _, fun_mk (st := s_Die_is_told) l_Die_is_told c_Die_is_told k_Die_is_told, ⟨a_Die_is_told, i_Die_is_told, k_Die_is_told⟩, (fun_mk (st := s_Die_is_told) l_Die_is_told c_Die_is_told k_Die_is_told).binds (ps := ["self"]) fun _ _ _ _ _ _ us hl => match us, hl with | [_], _ => rfl⟩), (defC_mk ec_few_node l_few_node c_few_node k_few_node (PySem.W.mg_of X G a_few_node) fun _ _ _ _ _ _ us hl => match us, hl with | [_, _, _], _ => rfl), (TB (cF K mg "few_node", pF K mg "few_node") (by unfold csL; simp)), (by
    unfold tabsL
    intro p hp e
    simp only [List.mem_cons, List.not_mem_nil, or_false] at hp
    rcases hp with rfl | rfl | rfl
    · rfl
    · exact absurd e (pF_ne ec_start_part ec_few_node nm_start_part_few_node)
    · exact absurd e (pF_ne ec_loose_die ec_few_node nm_loose_die_few_node)), (defC_mk ec_start_part l_start_part c_start_part k_start_part (PySem.W.mg_of X G a_start_part) fun _ _ _ _ _ _ us hl => match us, hl with | [_, _, _], _ => rfl), (TB (cF K mg "start_part", pF K mg "start_part") (by unfold csL; simp)), (by
    unfold tabsL
    intro p hp e
    simp only [List.mem_cons, List.not_mem_nil, or_false] at hp
    rcases hp with rfl | rfl | rfl
    · exact absurd e (pF_ne ec_few_node ec_start_part nn_few_node_start_part)
    · rfl
    · exact absurd e (pF_ne ec_loose_die ec_start_part nm_loose_die_start_part)), (defC_mk ec_loose_die l_loose_die c_loose_die k_loose_die (PySem.W.mg_of X G a_loose_die) fun _ _ _ _ _ _ us hl => match us, hl with | [_, _, _], _ => rfl), (TB (cF K mg "loose_die", pF K mg "loose_die") (by unfold csL; simp)), (by
    unfold tabsL
    intro p hp e
    simp only [List.mem_cons, List.not_mem_nil, or_false] at hp
    rcases hp with rfl | rfl | rfl
    · exact absurd e (pF_ne ec_few_node ec_loose_die nn_few_node_loose_die)
    · exact absurd e (pF_ne ec_start_part ec_loose_die nn_start_part_loose_die)
    · rfl), (⟨f_loose_node, _, fun_mk (st := s_loose_node) l_loose_node c_loose_node k_loose_node, PySem.W.mg_of X G a_loose_node, (fun_mk (st := s_loose_node) l_loose_node c_loose_node k_loose_node).binds (ps := ["places", "shares", "kept"]) fun _ _ _ _ _ _ us hl => match us, hl with | [_, _, _], _ => rfl⟩), (by rw [e_Told]; exact ⟨f_Told_sides, _, fun_mk (st := s_Told_sides) l_Told_sides c_Told_sides k_Told_sides, ⟨a_Told_sides, i_Told_sides, k_Told_sides⟩, (fun_mk (st := s_Told_sides) l_Told_sides c_Told_sides k_Told_sides).binds (ps := ["self"]) fun _ _ _ _ _ _ us hl => match us, hl with | [_], _ => rfl⟩), (by rw [e_Told]; exact ⟨f_Told_parts, _, fun_mk (st := s_Told_parts) l_Told_parts c_Told_parts k_Told_parts, ⟨a_Told_parts, i_Told_parts, k_Told_parts⟩, (fun_mk (st := s_Told_parts) l_Told_parts c_Told_parts k_Told_parts).binds (ps := ["self"]) fun _ _ _ _ _ _ us hl => match us, hl with | [_], _ => rfl⟩), (by rw [e_Die]; exact ⟨f_Die_kept, _, fun_mk (st := s_Die_kept) l_Die_kept c_Die_kept k_Die_kept, ⟨a_Die_kept, i_Die_kept, k_Die_kept⟩, (fun_mk (st := s_Die_kept) l_Die_kept c_Die_kept k_Die_kept).binds (ps := ["self"]) fun _ _ _ _ _ _ us hl => match us, hl with | [_], _ => rfl⟩), (by rw [e_Die]; exact ⟨f_Die_sides, _, fun_mk (st := s_Die_sides) l_Die_sides c_Die_sides k_Die_sides, ⟨a_Die_sides, i_Die_sides, k_Die_sides⟩, (fun_mk (st := s_Die_sides) l_Die_sides c_Die_sides k_Die_sides).binds (ps := ["self"]) fun _ _ _ _ _ _ us hl => match us, hl with | [_], _ => rfl⟩), (⟨f_places_of, _, fun_mk (st := s_places_of) l_places_of c_places_of k_places_of, PySem.W.mg_of X G a_places_of, (fun_mk (st := s_places_of) l_places_of c_places_of k_places_of).binds (ps := ["crowd"]) fun _ _ _ _ _ _ us hl => match us, hl with | [_], _ => rfl⟩), (⟨f__law_cell, _, fun_mk (st := s__law_cell) l__law_cell c__law_cell k__law_cell, PySem.W.mg_of X G a__law_cell, (fun_mk (st := s__law_cell) l__law_cell c__law_cell k__law_cell).binds (ps := ["_law_script", "_law_k"]) fun _ _ _ _ _ _ us hl => match us, hl with | [_, _], _ => rfl⟩), (⟨f__law_mix, _, fun_mk (st := s__law_mix) l__law_mix c__law_mix k__law_mix, PySem.W.mg_of X G a__law_mix, (fun_mk (st := s__law_mix) l__law_mix c__law_mix k__law_mix).binds (ps := ["_law_cell_here", "_law_k"]) fun _ _ _ _ _ _ us hl => match us, hl with | [_, _], _ => rfl⟩), (⟨f__law_row, _, fun_mk (st := s__law_row) l__law_row c__law_row k__law_row, PySem.W.mg_of X G a__law_row, (fun_mk (st := s__law_row) l__law_row c__law_row k__law_row).binds (ps := ["_law_cell_here", "_law_bit", "_law_many", "_law_most"]) fun _ _ _ _ _ _ us hl => match us, hl with | [_, _, _, _], _ => rfl⟩), (⟨f__law_whole, _, fun_mk (st := s__law_whole) l__law_whole c__law_whole k__law_whole, PySem.W.mg_of X G a__law_whole, (fun_mk (st := s__law_whole) l__law_whole c__law_whole k__law_whole).binds (ps := ["_law_found"]) fun _ _ _ _ _ _ us hl => match us, hl with | [_], _ => rfl⟩), (⟨f__law_crowd, _, fun_mk (st := s__law_crowd) l__law_crowd c__law_crowd k__law_crowd, PySem.W.mg_of X G a__law_crowd, (fun_mk (st := s__law_crowd) l__law_crowd c__law_crowd k__law_crowd).binds (ps := ["_law_script", "_law_start", "_law_most"]) fun _ _ _ _ _ _ us hl => match us, hl with | [_, _, _], _ => rfl⟩), (by rw [e_Few]; exact ⟨f_Few_node, _, fun_mk (st := s_Few_node) l_Few_node c_Few_node k_Few_node, ⟨a_Few_node, i_Few_node, k_Few_node⟩, (fun_mk (st := s_Few_node) l_Few_node c_Few_node k_Few_node).binds (ps := ["self", "crowd"]) fun _ _ _ _ _ _ us hl => match us, hl with | [_, _], _ => rfl⟩), (by rw [e_Few]; exact ⟨f_Few_bounds, _, fun_mk (st := s_Few_bounds) l_Few_bounds c_Few_bounds k_Few_bounds, ⟨a_Few_bounds, i_Few_bounds, k_Few_bounds⟩, (fun_mk (st := s_Few_bounds) l_Few_bounds c_Few_bounds k_Few_bounds).binds (ps := ["self", "crowd"]) fun _ _ _ _ _ _ us hl => match us, hl with | [_, _], _ => rfl⟩), (by rw [e_Few]; exact ⟨f_Few___init__, _, fun_mk (st := s_Few___init__) l_Few___init__ c_Few___init__ k_Few___init__, ⟨mk_Few, a_Few___init__, i_Few___init__, kc_Few⟩, (fun_mk (st := s_Few___init__) l_Few___init__ c_Few___init__ k_Few___init__).binds (ps := ["self", "many"]) fun _ _ _ _ _ _ us hl => match us, hl with | [_, _], _ => rfl⟩), (by rw [e_Few]; exact ⟨f_Few_chance, _, fun_mk (st := s_Few_chance) l_Few_chance c_Few_chance k_Few_chance, ⟨a_Few_chance, i_Few_chance, k_Few_chance⟩, (fun_mk (st := s_Few_chance) l_Few_chance c_Few_chance k_Few_chance).binds (ps := ["self", "crowd", "one", "other"]) fun _ _ _ _ _ _ us hl => match us, hl with | [_, _, _, _], _ => rfl⟩), (by rw [e_Few]; exact ⟨f_Few_text, _, fun_mk (st := s_Few_text) l_Few_text c_Few_text k_Few_text, ⟨a_Few_text, i_Few_text, k_Few_text⟩, (fun_mk (st := s_Few_text) l_Few_text c_Few_text k_Few_text).binds (ps := ["self"]) fun _ _ _ _ _ _ us hl => match us, hl with | [_], _ => rfl⟩), (by rw [e_Few]; exact ⟨f_Few_matrix, _, fun_mk (st := s_Few_matrix) l_Few_matrix c_Few_matrix k_Few_matrix, ⟨a_Few_matrix, i_Few_matrix, k_Few_matrix⟩, (fun_mk (st := s_Few_matrix) l_Few_matrix c_Few_matrix k_Few_matrix).binds (ps := ["self", "crowd"]) fun _ _ _ _ _ _ us hl => match us, hl with | [_, _], _ => rfl⟩), (by rw [e_Start]; exact ⟨f_Start_node, _, fun_mk (st := s_Start_node) l_Start_node c_Start_node k_Start_node, ⟨a_Start_node, i_Start_node, k_Start_node⟩, (fun_mk (st := s_Start_node) l_Start_node c_Start_node k_Start_node).binds (ps := ["self", "crowd"]) fun _ _ _ _ _ _ us hl => match us, hl with | [_, _], _ => rfl⟩), (by rw [e_Start]; exact ⟨f_Start___init__, _, fun_mk (st := s_Start___init__) l_Start___init__ c_Start___init__ k_Start___init__, ⟨mk_Start, a_Start___init__, i_Start___init__, kc_Start⟩, (fun_mk (st := s_Start___init__) l_Start___init__ c_Start___init__ k_Start___init__).binds (ps := ["self", "step"]) fun _ _ _ _ _ _ us hl => match us, hl with | [_, _], _ => rfl⟩), (by rw [e_Start]; exact ⟨f_Start_chance, _, fun_mk (st := s_Start_chance) l_Start_chance c_Start_chance k_Start_chance, ⟨a_Start_chance, i_Start_chance, k_Start_chance⟩, (fun_mk (st := s_Start_chance) l_Start_chance c_Start_chance k_Start_chance).binds (ps := ["self", "crowd", "one", "other"]) fun _ _ _ _ _ _ us hl => match us, hl with | [_, _, _, _], _ => rfl⟩), (by rw [e_Start]; exact ⟨f_Start_matrix, _, fun_mk (st := s_Start_matrix) l_Start_matrix c_Start_matrix k_Start_matrix, ⟨a_Start_matrix, i_Start_matrix, k_Start_matrix⟩, (fun_mk (st := s_Start_matrix) l_Start_matrix c_Start_matrix k_Start_matrix).binds (ps := ["self", "crowd"]) fun _ _ _ _ _ _ us hl => match us, hl with | [_, _], _ => rfl⟩), (by rw [e_Start]; exact ⟨f_Start_bounds, _, fun_mk (st := s_Start_bounds) l_Start_bounds c_Start_bounds k_Start_bounds, ⟨a_Start_bounds, i_Start_bounds, k_Start_bounds⟩, (fun_mk (st := s_Start_bounds) l_Start_bounds c_Start_bounds k_Start_bounds).binds (ps := ["self", "crowd"]) fun _ _ _ _ _ _ us hl => match us, hl with | [_, _], _ => rfl⟩), (by rw [e_Start]; exact ⟨f_Start_text, _, fun_mk (st := s_Start_text) l_Start_text c_Start_text k_Start_text, ⟨a_Start_text, i_Start_text, k_Start_text⟩, (fun_mk (st := s_Start_text) l_Start_text c_Start_text k_Start_text).binds (ps := ["self"]) fun _ _ _ _ _ _ us hl => match us, hl with | [_], _ => rfl⟩), (⟨f_size_left, _, fun_mk (st := s_size_left) l_size_left c_size_left k_size_left, PySem.W.mg_of X G a_size_left, (fun_mk (st := s_size_left) l_size_left c_size_left k_size_left).binds (ps := ["sizes", "aside"]) fun _ _ _ _ _ _ us hl => match us, hl with | [_, _], _ => rfl⟩), (⟨f_wished, _, fun_mk (st := s_wished) l_wished c_wished k_wished, PySem.W.mg_of X G a_wished, (fun_mk (st := s_wished) l_wished c_wished k_wished).binds (ps := ["sizes", "many"]) fun _ _ _ _ _ _ us hl => match us, hl with | [_, _], _ => rfl⟩), (⟨f_wished_of, _, fun_mk (st := s_wished_of) l_wished_of c_wished_of k_wished_of, PySem.W.mg_of X G a_wished_of, (fun_mk (st := s_wished_of) l_wished_of c_wished_of k_wished_of).binds (ps := ["crowd", "many"]) fun _ _ _ _ _ _ us hl => match us, hl with | [_, _], _ => rfl⟩), (by rw [e_Loose]; exact ⟨f_Loose_node, _, fun_mk (st := s_Loose_node) l_Loose_node c_Loose_node k_Loose_node, ⟨a_Loose_node, i_Loose_node, k_Loose_node⟩, (fun_mk (st := s_Loose_node) l_Loose_node c_Loose_node k_Loose_node).binds (ps := ["self", "crowd"]) fun _ _ _ _ _ _ us hl => match us, hl with | [_, _], _ => rfl⟩), (by rw [e_Loose]; exact ⟨f_Loose___init__, _, fun_mk (st := s_Loose___init__) l_Loose___init__ c_Loose___init__ k_Loose___init__, ⟨mk_Loose, a_Loose___init__, i_Loose___init__, kc_Loose⟩, (fun_mk (st := s_Loose___init__) l_Loose___init__ c_Loose___init__ k_Loose___init__).binds (ps := ["self", "many"]) fun _ _ _ _ _ _ us hl => match us, hl with | [_, _], _ => rfl⟩), (by rw [e_Loose]; exact ⟨f_Loose_text, _, fun_mk (st := s_Loose_text) l_Loose_text c_Loose_text k_Loose_text, ⟨a_Loose_text, i_Loose_text, k_Loose_text⟩, (fun_mk (st := s_Loose_text) l_Loose_text c_Loose_text k_Loose_text).binds (ps := ["self"]) fun _ _ _ _ _ _ us hl => match us, hl with | [_], _ => rfl⟩), (⟨f_times, _, fun_mk (st := s_times) l_times c_times k_times, PySem.W.mg_of X G a_times, (fun_mk (st := s_times) l_times c_times k_times).binds (ps := ["one", "other"]) fun _ _ _ _ _ _ us hl => match us, hl with | [_, _], _ => rfl⟩), (by rw [e_Loose]; exact ⟨f_Loose_matrix, _, fun_mk (st := s_Loose_matrix) l_Loose_matrix c_Loose_matrix k_Loose_matrix, ⟨a_Loose_matrix, i_Loose_matrix, k_Loose_matrix⟩, (fun_mk (st := s_Loose_matrix) l_Loose_matrix c_Loose_matrix k_Loose_matrix).binds (ps := ["self", "crowd"]) fun _ _ _ _ _ _ us hl => match us, hl with | [_, _], _ => rfl⟩), (by rw [e_Loose]; exact ⟨f_Loose_bounds, _, fun_mk (st := s_Loose_bounds) l_Loose_bounds c_Loose_bounds k_Loose_bounds, ⟨a_Loose_bounds, i_Loose_bounds, k_Loose_bounds⟩, (fun_mk (st := s_Loose_bounds) l_Loose_bounds c_Loose_bounds k_Loose_bounds).binds (ps := ["self", "crowd"]) fun _ _ _ _ _ _ us hl => match us, hl with | [_, _], _ => rfl⟩), (⟨f__law_low, _, fun_mk (st := s__law_low) l__law_low c__law_low k__law_low, PySem.W.mg_of X G a__law_low, (fun_mk (st := s__law_low) l__law_low c__law_low k__law_low).binds (ps := ["_law_top", "_law_bottom"]) fun _ _ _ _ _ _ us hl => match us, hl with | [_, _], _ => rfl⟩), (⟨f__law_fraction, _, fun_mk (st := s__law_fraction) l__law_fraction c__law_fraction k__law_fraction, PySem.W.mg_of X G a__law_fraction, (fun_mk (st := s__law_fraction) l__law_fraction c__law_fraction k__law_fraction).binds (ps := ["_law_found", "_law_due"]) fun _ _ _ _ _ _ us hl => match us, hl with | [_, _], _ => rfl⟩), (⟨f__law_matrix, _, fun_mk (st := s__law_matrix) l__law_matrix c__law_matrix k__law_matrix, PySem.W.mg_of X G a__law_matrix, (fun_mk (st := s__law_matrix) l__law_matrix c__law_matrix k__law_matrix).binds (ps := ["_law_found", "_law_due"]) fun _ _ _ _ _ _ us hl => match us, hl with | [_, _], _ => rfl⟩), (⟨f__law_plus, _, fun_mk (st := s__law_plus) l__law_plus c__law_plus k__law_plus, PySem.W.mg_of X G a__law_plus, (fun_mk (st := s__law_plus) l__law_plus c__law_plus k__law_plus).binds (ps := ["_law_one", "_law_other"]) fun _ _ _ _ _ _ us hl => match us, hl with | [_, _], _ => rfl⟩), (⟨f__law_times, _, fun_mk (st := s__law_times) l__law_times c__law_times k__law_times, PySem.W.mg_of X G a__law_times, (fun_mk (st := s__law_times) l__law_times c__law_times k__law_times).binds (ps := ["_law_one", "_law_other"]) fun _ _ _ _ _ _ us hl => match us, hl with | [_, _], _ => rfl⟩), (by rw [e_Die]; exact ⟨f_Die_parts, _, fun_mk (st := s_Die_parts) l_Die_parts c_Die_parts k_Die_parts, ⟨a_Die_parts, i_Die_parts, k_Die_parts⟩, (fun_mk (st := s_Die_parts) l_Die_parts c_Die_parts k_Die_parts).binds (ps := ["self"]) fun _ _ _ _ _ _ us hl => match us, hl with | [_], _ => rfl⟩), (⟨f__law_ways, _, fun_mk (st := s__law_ways) l__law_ways c__law_ways k__law_ways, PySem.W.mg_of X G a__law_ways, (fun_mk (st := s__law_ways) l__law_ways c__law_ways k__law_ways).binds (ps := ["_law_node", "_law_much"]) fun _ _ _ _ _ _ us hl => match us, hl with | [_, _], _ => rfl⟩), (⟨f__law_together, _, fun_mk (st := s__law_together) l__law_together c__law_together k__law_together, PySem.W.mg_of X G a__law_together, (fun_mk (st := s__law_together) l__law_together c__law_together k__law_together).binds (ps := ["_law_ways_here", "_law_places"]) fun _ _ _ _ _ _ us hl => match us, hl with | [_, _], _ => rfl⟩), (⟨f__law_good, _, fun_mk (st := s__law_good) l__law_good c__law_good k__law_good, PySem.W.mg_of X G a__law_good, (fun_mk (st := s__law_good) l__law_good c__law_good k__law_good).binds (ps := ["_law_plan", "_law_crowd_here"]) fun _ _ _ _ _ _ us hl => match us, hl with | [_, _], _ => rfl⟩), (⟨f__law_alike, _, fun_mk (st := s__law_alike) l__law_alike c__law_alike k__law_alike, PySem.W.mg_of X G a__law_alike, (fun_mk (st := s__law_alike) l__law_alike c__law_alike k__law_alike).binds (ps := ["_law_plan", "_law_crowd_here", "_law_many"]) fun _ _ _ _ _ _ us hl => match us, hl with | [_, _, _], _ => rfl⟩), (⟨f_law, _, fun_mk (st := s_law) l_law c_law k_law, PySem.W.mg_of X G a_law, (fun_mk (st := s_law) l_law c_law k_law).binds (ps := ["_law_script"]) fun _ _ _ _ _ _ us hl => match us, hl with | [_], _ => rfl⟩)⟩⟩
theorem law_mk {l : PySem.W.OpenLaw} {w : World} {K : PySem.W.Frag} {h : Heap} {mg : Str → Option Value} {fa : Addr} (Y : DefAt K mg "law" s_law ["_law_script"] ∧ TabsE K (csL K mg) h ∧ ∀ base : Heap, (∀ p ∈ csL K mg, TabB base mg p.1 p.2) → Txt K mg base) (hfa : mg "law" = some (.ref fa)) :
    LamX.LawAtS l w K CX0 16 63 "_law_script" mg fa h := by
  obtain ⟨D, E, T⟩ := Y
  obtain ⟨f, fd, F, hm, b⟩ := D.ex
  have e := hfa.symm.trans hm
  cases e
  refine ⟨fd, csL K mg, sp_law K mg, E.e, E.n, E.c, fun s v => ?_, fun H a ns hl hb hH hS => ⟨ns, hS, hl, hb, tabs_nil hH (by unfold tabsL csL; simp), fun _ => rfl⟩, fun base _ _ tb => c_law (T base tb) F⟩
  obtain ⟨oc, od, kV, doc, pm, an, cdv, ct, osl, rfl, lk, hcd⟩ := F.ex
  exact .of_eq rfl
end My
open PySem PySem.W PyProof.Rows
set_option maxRecDepth 100000 in
set_option maxHeartbeats 0 in
theorem PySem.Challenge.cw_fewspeak_k25_whole_small_plans_walked_holds : PySem.Challenge.rw_fewspeak_k25_whole_small_plans_walked.Holds := by
  w_on; o_law; k_head; (case hw => w_witness2)
  k_fill
  refine LamX.walk_ofTs (l := PySem.Challenge.rw_fewspeak_k25_whole_small_plans_walked) (n := 63) (k := 16) (x := "_law_script") (CX := fun _ => L2.CX0) rfl (by decide) rfl ⟨rfl, by decide, by decide⟩ (fun w h Y => PySem.W.km_in_of Y) ?F (fun _ _ _ _ _ h => h)
  case F =>
    intro w mg fa h Y KX G hmg
    refine' My.law_mk (My.txt_mk KX G (PySem.W.km_tabs_of Y) ?z_n_bool ?z_n_int ?z_n_isinstance ?z_n_abs ?aC_SpeakError ?bi0_SpeakError ?bi1_SpeakError ?bi2_SpeakError ?aC_NoPlan ?ox_NoPlan ?o0_NoPlan ?o1_NoPlan ?o2_NoPlan ?o3_NoPlan ?na_NoPlan_place ?z_n_sorted ?z_n_tuple ?aC_Told ?pg_Told ?hd_Told ?po_Told ?sa_Told ?mk_Told ?kc_Told ?na_Told_places ?aC_Die ?pg_Die ?hd_Die ?po_Die ?sa_Die ?mk_Die ?kc_Die ?na_Die_ways ?z_n_len ?z_n_sum ?z_n_range ?z_n_list ?aC_Few ?pg_Few ?hd_Few ?po_Few ?sa_Few ?mk_Few ?kc_Few ?na_Few_many ?z_n_min ?z_g_MOST_DRAWN ?y_g_MOST_DRAWN ?z_n_str ?aC_Start ?pg_Start ?hd_Start ?po_Start ?sa_Start ?mk_Start ?kc_Start ?na_Start_step ?z_g_MOST_STEP ?y_g_MOST_STEP ?z_n_enumerate ?aC_Loose ?pg_Loose ?hd_Loose ?po_Loose ?sa_Loose ?mk_Loose ?kc_Loose ?na_Loose_many ?z_n_zip ?z_n_max ?z_n_set ?a_is_whole ?l_is_whole ?c_is_whole ?k_is_whole ?a_divisor ?l_divisor ?c_divisor ?k_divisor ?a_share ?l_share ?c_share ?k_share ?a_NoPlan___init__ ?i_NoPlan___init__ ?l_NoPlan___init__ ?c_NoPlan___init__ ?k_NoPlan___init__ ?a_Told___init__ ?i_Told___init__ ?l_Told___init__ ?c_Told___init__ ?k_Told___init__ ?a_Told_is_told ?i_Told_is_told ?l_Told_is_told ?c_Told_is_told ?k_Told_is_told ?a_Told_kept ?i_Told_kept ?l_Told_kept ?c_Told_kept ?k_Told_kept ?a_Die___init__ ?i_Die___init__ ?l_Die___init__ ?c_Die___init__ ?k_Die___init__ ?a_Die_is_told ?i_Die_is_told ?l_Die_is_told ?c_Die_is_told ?k_Die_is_told ?a_few_node ?l_few_node ?c_few_node ?k_few_node ?ch_few_node ?nk_few_node ?mt_few_node ?a_start_part ?l_start_part ?c_start_part ?k_start_part ?ch_start_part ?nk_start_part ?mt_start_part ?nn_few_node_start_part ?nm_start_part_few_node ?a_loose_die ?l_loose_die ?c_loose_die ?k_loose_die ?ch_loose_die ?nk_loose_die ?mt_loose_die ?nn_few_node_loose_die ?nm_loose_die_few_node ?nn_start_part_loose_die ?nm_loose_die_start_part ?a_loose_node ?l_loose_node ?c_loose_node ?k_loose_node ?a_Told_sides ?i_Told_sides ?l_Told_sides ?c_Told_sides ?k_Told_sides ?a_Told_parts ?i_Told_parts ?l_Told_parts ?c_Told_parts ?k_Told_parts ?a_Die_kept ?i_Die_kept ?l_Die_kept ?c_Die_kept ?k_Die_kept ?a_Die_sides ?i_Die_sides ?l_Die_sides ?c_Die_sides ?k_Die_sides ?a_places_of ?l_places_of ?c_places_of ?k_places_of ?a__law_cell ?l__law_cell ?c__law_cell ?k__law_cell ?a__law_mix ?l__law_mix ?c__law_mix ?k__law_mix ?a__law_row ?l__law_row ?c__law_row ?k__law_row ?a__law_whole ?l__law_whole ?c__law_whole ?k__law_whole ?a__law_crowd ?l__law_crowd ?c__law_crowd ?k__law_crowd ?a_Few_node ?i_Few_node ?l_Few_node ?c_Few_node ?k_Few_node ?a_Few_bounds ?i_Few_bounds ?l_Few_bounds ?c_Few_bounds ?k_Few_bounds ?a_Few___init__ ?i_Few___init__ ?l_Few___init__ ?c_Few___init__ ?k_Few___init__ ?a_Few_chance ?i_Few_chance ?l_Few_chance ?c_Few_chance ?k_Few_chance ?a_Few_text ?i_Few_text ?l_Few_text ?c_Few_text ?k_Few_text ?a_Few_matrix ?i_Few_matrix ?l_Few_matrix ?c_Few_matrix ?k_Few_matrix ?a_Start_node ?i_Start_node ?l_Start_node ?c_Start_node ?k_Start_node ?a_Start___init__ ?i_Start___init__ ?l_Start___init__ ?c_Start___init__ ?k_Start___init__ ?a_Start_chance ?i_Start_chance ?l_Start_chance ?c_Start_chance ?k_Start_chance ?a_Start_matrix ?i_Start_matrix ?l_Start_matrix ?c_Start_matrix ?k_Start_matrix ?a_Start_bounds ?i_Start_bounds ?l_Start_bounds ?c_Start_bounds ?k_Start_bounds ?a_Start_text ?i_Start_text ?l_Start_text ?c_Start_text ?k_Start_text ?a_size_left ?l_size_left ?c_size_left ?k_size_left ?a_wished ?l_wished ?c_wished ?k_wished ?a_wished_of ?l_wished_of ?c_wished_of ?k_wished_of ?a_Loose_node ?i_Loose_node ?l_Loose_node ?c_Loose_node ?k_Loose_node ?a_Loose___init__ ?i_Loose___init__ ?l_Loose___init__ ?c_Loose___init__ ?k_Loose___init__ ?a_Loose_text ?i_Loose_text ?l_Loose_text ?c_Loose_text ?k_Loose_text ?a_times ?l_times ?c_times ?k_times ?a_Loose_matrix ?i_Loose_matrix ?l_Loose_matrix ?c_Loose_matrix ?k_Loose_matrix ?a_Loose_bounds ?i_Loose_bounds ?l_Loose_bounds ?c_Loose_bounds ?k_Loose_bounds ?a__law_low ?l__law_low ?c__law_low ?k__law_low ?a__law_fraction ?l__law_fraction ?c__law_fraction ?k__law_fraction ?a__law_matrix ?l__law_matrix ?c__law_matrix ?k__law_matrix ?a__law_plus ?l__law_plus ?c__law_plus ?k__law_plus ?a__law_times ?l__law_times ?c__law_times ?k__law_times ?a_Die_parts ?i_Die_parts ?l_Die_parts ?c_Die_parts ?k_Die_parts ?a__law_ways ?l__law_ways ?c__law_ways ?k__law_ways ?a__law_together ?l__law_together ?c__law_together ?k__law_together ?a__law_good ?l__law_good ?c__law_good ?k__law_good ?a__law_alike ?l__law_alike ?c__law_alike ?k__law_alike ?a_law ?l_law ?c_law ?k_law) hmg
    (case z_n_bool => k_is)
    (case z_n_int => k_is)
    (case z_n_isinstance => k_is)
    (case z_n_abs => k_is)
    (case aC_SpeakError => k_is)
    (case bi0_SpeakError => k_is)
    (case bi1_SpeakError => k_is)
    (case bi2_SpeakError => k_is)
    (case aC_NoPlan => k_is)
    (case ox_NoPlan => first | exact ⟨_, _, _, _, _, _, _, _, _, _, _, _, _, _, _, by k_is, by first | rfl | decide +kernel | k_is⟩ | exact ⟨_, _, _, _, _, _, _, _, _, _, _, _, _, _, _, rfl, by first | rfl | decide +kernel⟩)
    (case o0_NoPlan => k_is)
    (case o1_NoPlan => k_is)
    (case o2_NoPlan => k_is)
    (case o3_NoPlan => k_is)
    (case na_NoPlan_place => k_is)
    (case z_n_sorted => k_is)
    (case z_n_tuple => k_is)
    (case aC_Told => k_is)
    (case pg_Told => k_is)
    (case hd_Told => k_is)
    (case po_Told => k_is)
    (case sa_Told => k_is)
    (case mk_Told => k_is)
    (case kc_Told => k_is)
    (case na_Told_places => k_is)
    (case aC_Die => k_is)
    (case pg_Die => k_is)
    (case hd_Die => k_is)
    (case po_Die => k_is)
    (case sa_Die => k_is)
    (case mk_Die => k_is)
    (case kc_Die => k_is)
    (case na_Die_ways => k_is)
    (case z_n_len => k_is)
    (case z_n_sum => k_is)
    (case z_n_range => k_is)
    (case z_n_list => k_is)
    (case aC_Few => k_is)
    (case pg_Few => k_is)
    (case hd_Few => k_is)
    (case po_Few => k_is)
    (case sa_Few => k_is)
    (case mk_Few => k_is)
    (case kc_Few => k_is)
    (case na_Few_many => k_is)
    (case z_n_min => k_is)
    (case z_g_MOST_DRAWN => k_is)
    (case y_g_MOST_DRAWN => exact ⟨_, rfl⟩)
    (case z_n_str => k_is)
    (case aC_Start => k_is)
    (case pg_Start => k_is)
    (case hd_Start => k_is)
    (case po_Start => k_is)
    (case sa_Start => k_is)
    (case mk_Start => k_is)
    (case kc_Start => k_is)
    (case na_Start_step => k_is)
    (case z_g_MOST_STEP => k_is)
    (case y_g_MOST_STEP => exact ⟨_, rfl⟩)
    (case z_n_enumerate => k_is)
    (case aC_Loose => k_is)
    (case pg_Loose => k_is)
    (case hd_Loose => k_is)
    (case po_Loose => k_is)
    (case sa_Loose => k_is)
    (case mk_Loose => k_is)
    (case kc_Loose => k_is)
    (case na_Loose_many => k_is)
    (case z_n_zip => k_is)
    (case z_n_max => k_is)
    (case z_n_set => k_is)
    (case a_is_whole => k_is)
    (case l_is_whole => k_is)
    (case c_is_whole => k_is)
    (case k_is_whole => k_is)
    (case a_divisor => k_is)
    (case l_divisor => k_is)
    (case c_divisor => k_is)
    (case k_divisor => k_is)
    (case a_share => k_is)
    (case l_share => k_is)
    (case c_share => k_is)
    (case k_share => k_is)
    (case a_NoPlan___init__ => k_is)
    (case i_NoPlan___init__ => k_is)
    (case l_NoPlan___init__ => k_is)
    (case c_NoPlan___init__ => k_is)
    (case k_NoPlan___init__ => k_is)
    (case a_Told___init__ => k_is)
    (case i_Told___init__ => k_is)
    (case l_Told___init__ => k_is)
    (case c_Told___init__ => k_is)
    (case k_Told___init__ => k_is)
    (case a_Told_is_told => k_is)
    (case i_Told_is_told => k_is)
    (case l_Told_is_told => k_is)
    (case c_Told_is_told => k_is)
    (case k_Told_is_told => k_is)
    (case a_Told_kept => k_is)
    (case i_Told_kept => k_is)
    (case l_Told_kept => k_is)
    (case c_Told_kept => k_is)
    (case k_Told_kept => k_is)
    (case a_Die___init__ => k_is)
    (case i_Die___init__ => k_is)
    (case l_Die___init__ => k_is)
    (case c_Die___init__ => k_is)
    (case k_Die___init__ => k_is)
    (case a_Die_is_told => k_is)
    (case i_Die_is_told => k_is)
    (case l_Die_is_told => k_is)
    (case c_Die_is_told => k_is)
    (case k_Die_is_told => k_is)
    (case a_few_node => k_is)
    (case l_few_node => k_is)
    (case c_few_node => k_is)
    (case k_few_node => k_is)
    (case ch_few_node => kernel_rfl)
    (case nk_few_node => kernel_rfl)
    (case mt_few_node => kernel_rfl)
    (case a_start_part => k_is)
    (case l_start_part => k_is)
    (case c_start_part => k_is)
    (case k_start_part => k_is)
    (case ch_start_part => kernel_rfl)
    (case nk_start_part => kernel_rfl)
    (case mt_start_part => kernel_rfl)
    (case nn_few_node_start_part => kernel_rfl)
    (case nm_start_part_few_node => kernel_rfl)
    (case a_loose_die => k_is)
    (case l_loose_die => k_is)
    (case c_loose_die => k_is)
    (case k_loose_die => k_is)
    (case ch_loose_die => kernel_rfl)
    (case nk_loose_die => kernel_rfl)
    (case mt_loose_die => kernel_rfl)
    (case nn_few_node_loose_die => kernel_rfl)
    (case nm_loose_die_few_node => kernel_rfl)
    (case nn_start_part_loose_die => kernel_rfl)
    (case nm_loose_die_start_part => kernel_rfl)
    (case a_loose_node => k_is)
    (case l_loose_node => k_is)
    (case c_loose_node => k_is)
    (case k_loose_node => k_is)
    (case a_Told_sides => k_is)
    (case i_Told_sides => k_is)
    (case l_Told_sides => k_is)
    (case c_Told_sides => k_is)
    (case k_Told_sides => k_is)
    (case a_Told_parts => k_is)
    (case i_Told_parts => k_is)
    (case l_Told_parts => k_is)
    (case c_Told_parts => k_is)
    (case k_Told_parts => k_is)
    (case a_Die_kept => k_is)
    (case i_Die_kept => k_is)
    (case l_Die_kept => k_is)
    (case c_Die_kept => k_is)
    (case k_Die_kept => k_is)
    (case a_Die_sides => k_is)
    (case i_Die_sides => k_is)
    (case l_Die_sides => k_is)
    (case c_Die_sides => k_is)
    (case k_Die_sides => k_is)
    (case a_places_of => k_is)
    (case l_places_of => k_is)
    (case c_places_of => k_is)
    (case k_places_of => k_is)
    (case a__law_cell => k_is)
    (case l__law_cell => k_is)
    (case c__law_cell => k_is)
    (case k__law_cell => k_is)
    (case a__law_mix => k_is)
    (case l__law_mix => k_is)
    (case c__law_mix => k_is)
    (case k__law_mix => k_is)
    (case a__law_row => k_is)
    (case l__law_row => k_is)
    (case c__law_row => k_is)
    (case k__law_row => k_is)
    (case a__law_whole => k_is)
    (case l__law_whole => k_is)
    (case c__law_whole => k_is)
    (case k__law_whole => k_is)
    (case a__law_crowd => k_is)
    (case l__law_crowd => k_is)
    (case c__law_crowd => k_is)
    (case k__law_crowd => k_is)
    (case a_Few_node => k_is)
    (case i_Few_node => k_is)
    (case l_Few_node => k_is)
    (case c_Few_node => k_is)
    (case k_Few_node => k_is)
    (case a_Few_bounds => k_is)
    (case i_Few_bounds => k_is)
    (case l_Few_bounds => k_is)
    (case c_Few_bounds => k_is)
    (case k_Few_bounds => k_is)
    (case a_Few___init__ => k_is)
    (case i_Few___init__ => k_is)
    (case l_Few___init__ => k_is)
    (case c_Few___init__ => k_is)
    (case k_Few___init__ => k_is)
    (case a_Few_chance => k_is)
    (case i_Few_chance => k_is)
    (case l_Few_chance => k_is)
    (case c_Few_chance => k_is)
    (case k_Few_chance => k_is)
    (case a_Few_text => k_is)
    (case i_Few_text => k_is)
    (case l_Few_text => k_is)
    (case c_Few_text => k_is)
    (case k_Few_text => k_is)
    (case a_Few_matrix => k_is)
    (case i_Few_matrix => k_is)
    (case l_Few_matrix => k_is)
    (case c_Few_matrix => k_is)
    (case k_Few_matrix => k_is)
    (case a_Start_node => k_is)
    (case i_Start_node => k_is)
    (case l_Start_node => k_is)
    (case c_Start_node => k_is)
    (case k_Start_node => k_is)
    (case a_Start___init__ => k_is)
    (case i_Start___init__ => k_is)
    (case l_Start___init__ => k_is)
    (case c_Start___init__ => k_is)
    (case k_Start___init__ => k_is)
    (case a_Start_chance => k_is)
    (case i_Start_chance => k_is)
    (case l_Start_chance => k_is)
    (case c_Start_chance => k_is)
    (case k_Start_chance => k_is)
    (case a_Start_matrix => k_is)
    (case i_Start_matrix => k_is)
    (case l_Start_matrix => k_is)
    (case c_Start_matrix => k_is)
    (case k_Start_matrix => k_is)
    (case a_Start_bounds => k_is)
    (case i_Start_bounds => k_is)
    (case l_Start_bounds => k_is)
    (case c_Start_bounds => k_is)
    (case k_Start_bounds => k_is)
    (case a_Start_text => k_is)
    (case i_Start_text => k_is)
    (case l_Start_text => k_is)
    (case c_Start_text => k_is)
    (case k_Start_text => k_is)
    (case a_size_left => k_is)
    (case l_size_left => k_is)
    (case c_size_left => k_is)
    (case k_size_left => k_is)
    (case a_wished => k_is)
    (case l_wished => k_is)
    (case c_wished => k_is)
    (case k_wished => k_is)
    (case a_wished_of => k_is)
    (case l_wished_of => k_is)
    (case c_wished_of => k_is)
    (case k_wished_of => k_is)
    (case a_Loose_node => k_is)
    (case i_Loose_node => k_is)
    (case l_Loose_node => k_is)
    (case c_Loose_node => k_is)
    (case k_Loose_node => k_is)
    (case a_Loose___init__ => k_is)
    (case i_Loose___init__ => k_is)
    (case l_Loose___init__ => k_is)
    (case c_Loose___init__ => k_is)
    (case k_Loose___init__ => k_is)
    (case a_Loose_text => k_is)
    (case i_Loose_text => k_is)
    (case l_Loose_text => k_is)
    (case c_Loose_text => k_is)
    (case k_Loose_text => k_is)
    (case a_times => k_is)
    (case l_times => k_is)
    (case c_times => k_is)
    (case k_times => k_is)
    (case a_Loose_matrix => k_is)
    (case i_Loose_matrix => k_is)
    (case l_Loose_matrix => k_is)
    (case c_Loose_matrix => k_is)
    (case k_Loose_matrix => k_is)
    (case a_Loose_bounds => k_is)
    (case i_Loose_bounds => k_is)
    (case l_Loose_bounds => k_is)
    (case c_Loose_bounds => k_is)
    (case k_Loose_bounds => k_is)
    (case a__law_low => k_is)
    (case l__law_low => k_is)
    (case c__law_low => k_is)
    (case k__law_low => k_is)
    (case a__law_fraction => k_is)
    (case l__law_fraction => k_is)
    (case c__law_fraction => k_is)
    (case k__law_fraction => k_is)
    (case a__law_matrix => k_is)
    (case l__law_matrix => k_is)
    (case c__law_matrix => k_is)
    (case k__law_matrix => k_is)
    (case a__law_plus => k_is)
    (case l__law_plus => k_is)
    (case c__law_plus => k_is)
    (case k__law_plus => k_is)
    (case a__law_times => k_is)
    (case l__law_times => k_is)
    (case c__law_times => k_is)
    (case k__law_times => k_is)
    (case a_Die_parts => k_is)
    (case i_Die_parts => k_is)
    (case l_Die_parts => k_is)
    (case c_Die_parts => k_is)
    (case k_Die_parts => k_is)
    (case a__law_ways => k_is)
    (case l__law_ways => k_is)
    (case c__law_ways => k_is)
    (case k__law_ways => k_is)
    (case a__law_together => k_is)
    (case l__law_together => k_is)
    (case c__law_together => k_is)
    (case k__law_together => k_is)
    (case a__law_good => k_is)
    (case l__law_good => k_is)
    (case c__law_good => k_is)
    (case k__law_good => k_is)
    (case a__law_alike => k_is)
    (case l__law_alike => k_is)
    (case c__law_alike => k_is)
    (case k__law_alike => k_is)
    (case a_law => k_is)
    (case l_law => k_is)
    (case c_law => k_is)
    (case k_law => k_is)
#print axioms PySem.Challenge.cw_fewspeak_k25_whole_small_plans_walked_holds

